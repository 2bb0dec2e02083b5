import PyProof.Rows.All
import HandS.ForMost
import HandS.Lambda
import HandS.TupAny
import HandS.Wide
import HandS.Exc
import HandS.WordsExc
import HandS.TupMul
import HandS.IsInst
import HandS.Dict
import PyProof.ReprRoads
import HandS.Star
import HandS.Zip
import KE.KTupSum
import HandS.RevTup
import PyProof.ListNew
import PyProof.TupleOfGen
import KE.KDictZip
import HandS.EndTab
import KE.KNest
import KE.KNestM
import HandS.Rev
import KE.DataMinMax
import KE.SortData
import PyProof.ReprLen
import PyProof.FitsInt
import PyProof.Rows.StrJoinMade
import PyProof.Rows.StrDigitsNeg
import HandS.Style
import KE.KRevSl
import HandS.Conv
import HandS.DictComp
import HandS.SetBool
import HandS.Strs
import HandS.Set
import HandS.SetFor
import HandS.More
import PySem.Challenge.RW_settledlines_k10_many_best_layouts_count
set_option Elab.async false
set_option linter.all false
set_option maxRecDepth 100000
set_option maxHeartbeats 4000000
/-! QA: data without heap: what a value stands for (Rp), what a thing that one name alone holds stands for (Ow), a frame's slots (OwE), what a step leaves (Frm). -/
namespace QL
open PySem PySem.Spec PyProof.Rows L2

abbrev D := PyData
def kD : Key → D
  | .inl i => .int i
  | .inr x => .str x

mutual
/-- the value v stands for the data d, read in the heap part F that never changes -/
inductive Rp (F : Hp) : V → D → Prop
  | non : Rp F .non .none
  | bl (b : Bool) : Rp F (.bl b) (.bool b)
  | int (i : Int) : Rp F (.int i) (.int i)
  | str (x : Str) : Rp F (.str x) (.str x)
  | lst {a : Addr} {xs : List V} {ds : List D} : F a = some (.lst xs) → RpA F xs ds → Rp F (.ref a) (.list ds)
  | tup {a : Addr} {xs : List V} {ds : List D} : F a = some (.tup xs) → RpA F xs ds → Rp F (.ref a) (.tuple ds)
  | dic {a : Addr} {kvs : List (Key × V)} {ds : List (D × D)} : Rd F a (.dK kvs) → RpK F kvs ds → Rp F (.ref a) (.dict ds)
inductive RpA (F : Hp) : List V → List D → Prop
  | nil : RpA F [] []
  | cons {v : V} {vs : List V} {d : D} {ds : List D} : Rp F v d → RpA F vs ds → RpA F (v :: vs) (d :: ds)
inductive RpK (F : Hp) : List (Key × V) → List (D × D) → Prop
  | nil : RpK F [] []
  | cons {k : Key} {v : V} {vs : List (Key × V)} {d : D} {ds : List (D × D)} : Rp F v d → RpK F vs ds → RpK F ((k, v) :: vs) ((kD k, d) :: ds)
end

theorem rd_mono {F F' : Hp} (s : Same F F') {a : Addr} {u : HO} (h : Rd F a u) : Rd F' a u := by
  rcases h with h | ⟨o, h⟩
  · exact .inl (s _ _ h)
  · exact .inr ⟨o, s _ _ h⟩
mutual
theorem Rp.mono {F F' : Hp} (s : Same F F') : ∀ {v : V} {d : D}, Rp F v d → Rp F' v d
  | _, _, .non => .non
  | _, _, .bl b => .bl b
  | _, _, .int i => .int i
  | _, _, .str x => .str x
  | _, _, .lst h r => .lst (s _ _ h) (RpA.mono s r)
  | _, _, .tup h r => .tup (s _ _ h) (RpA.mono s r)
  | _, _, .dic h r => .dic (rd_mono s h) (RpK.mono s r)
theorem RpA.mono {F F' : Hp} (s : Same F F') : ∀ {v : List V} {d : List D}, RpA F v d → RpA F' v d
  | _, _, .nil => .nil
  | _, _, .cons h r => .cons (Rp.mono s h) (RpA.mono s r)
theorem RpK.mono {F F' : Hp} (s : Same F F') : ∀ {v : List (Key × V)} {d : List (D × D)}, RpK F v d → RpK F' v d
  | _, _, .nil => .nil
  | _, _, .cons h r => .cons (Rp.mono s h) (RpK.mono s r)
end

/-- what a name of a frame, or a field of an object that one name alone holds, stands for -/
inductive T
  | va (d : D)
  | lst (a : Addr) (ds : List D)
  | dic (a : Addr) (kvs : List (Key × D))
  | fdc (a : Addr) (kvs : List (Key × D))
  | ins (a C : Addr) (fs : List (Str × T))
  | hole (a : Addr)
  | ob (a : Option Addr) (φ : Hp → Hp → List Addr → V → Prop)

def T.addr : T → Option Addr
  | .va _ => none
  | .lst a _ => some a
  | .dic a _ => some a
  | .fdc a _ => some a
  | .ins a _ _ => some a
  | .hole a => some a
  | .ob a _ => a

/-- what stands there is no table of code objects -/
def Held (H : Hp) (a : Addr) : Prop := ∃ o, H a = some o ∧ ∀ ps, o ≠ .tbl ps
theorem Held.ne {H : Hp} {a : Addr} (h : Held H a) : H a ≠ none := by
  obtain ⟨o, e, _⟩ := h
  rw [e]; exact fun z => nomatch z
/-- a thing of another kind stays when its own objects and what is frozen stay -/
structure Stab (a : Option Addr) (φ : Hp → Hp → List Addr → V → Prop) : Prop where
  stay : ∀ F H F' H' O v, φ F H O v → Same F F' → (∀ b ∈ O, H' b = H b) → φ F' H' O v
  held : ∀ F H O v, φ F H O v → ∀ b ∈ O, Held H b
  at_ : ∀ F H O v b, φ F H O v → a = some b → v = .ref b

inductive RpT (F : Hp) : List (Key × V) → List (Key × D) → Prop
  | nil : RpT F [] []
  | cons {k : Key} {v : V} {vs : List (Key × V)} {d : D} {ds : List (Key × D)} : Rp F v d → RpT F vs ds → RpT F ((k, v) :: vs) ((k, d) :: ds)
theorem RpT.mono {F F' : Hp} (s : Same F F') : ∀ {v : List (Key × V)} {d : List (Key × D)}, RpT F v d → RpT F' v d
  | _, _, .nil => .nil
  | _, _, .cons h r => .cons (h.mono s) (RpT.mono s r)

mutual
inductive Ow (F H : Hp) : List Addr → V → T → Prop
  | va {v : V} {d : D} : Rp F v d → Ow F H [] v (.va d)
  | lst {a : Addr} {xs : List V} {ds : List D} : H a = some (.lst xs) → RpA F xs ds → Ow F H [a] (.ref a) (.lst a ds)
  | dic {a : Addr} {kvs : List (Key × V)} {ds : List (Key × D)} : H a = some (.dK kvs) → RpT F kvs ds → Ow F H [a] (.ref a) (.dic a ds)
  | fdc {a : Addr} {o : Obj} {kvs : List (Key × V)} {ds : List (Key × D)} : F a = some (.frz o (.dK kvs)) → RpT F kvs ds → Ow F H [] (.ref a) (.fdc a ds)
  | ins {a dx C : Addr} {vs : List (Str × V)} {fs : List (Str × T)} {O : List Addr} : H a = some (.ins C dx vs) → H dx = some (.own a) → OwF F H O vs fs → Ow F H (a :: dx :: O) (.ref a) (.ins a C fs)
  | hole {a : Addr} : Ow F H [] (.ref a) (.hole a)
  | ob {a : Option Addr} {φ : Hp → Hp → List Addr → V → Prop} {O : List Addr} {v : V} : φ F H O v → Stab a φ → Ow F H O v (.ob a φ)
inductive OwF (F H : Hp) : List Addr → List (Str × V) → List (Str × T) → Prop
  | nil : OwF F H [] [] []
  | cons {n : Str} {v : V} {t : T} {vs : List (Str × V)} {ts : List (Str × T)} {O1 O2 : List Addr} : Ow F H O1 v t → OwF F H O2 vs ts → OwF F H (O1 ++ O2) ((n, v) :: vs) ((n, t) :: ts)
end

mutual
theorem Ow.stay {F H F' H' : Hp} (s : Same F F') : ∀ {O : List Addr} {v : V} {t : T}, Ow F H O v t → (∀ a ∈ O, H' a = H a) → Ow F' H' O v t
  | _, _, _, .va r, _ => .va (r.mono s)
  | _, _, _, .lst h r, k => .lst ((k _ (List.mem_singleton.mpr rfl)).trans h) (r.mono s)
  | _, _, _, .dic h r, k => .dic ((k _ (List.mem_singleton.mpr rfl)).trans h) (r.mono s)
  | _, _, _, .fdc h r, k => .fdc (s _ _ h) (r.mono s)
  | _, _, _, .ins h1 h2 r, k => .ins ((k _ List.mem_cons_self).trans h1) ((k _ (List.mem_cons_of_mem _ List.mem_cons_self)).trans h2)
      (OwF.stay s r fun a ha => k a (List.mem_cons_of_mem _ (List.mem_cons_of_mem _ ha)))
  | _, _, _, .hole, _ => .hole
  | _, _, _, .ob h st, k => .ob (st.stay _ _ _ _ _ _ h s k) st
theorem OwF.stay {F H F' H' : Hp} (s : Same F F') : ∀ {O : List Addr} {v : List (Str × V)} {t : List (Str × T)}, OwF F H O v t → (∀ a ∈ O, H' a = H a) → OwF F' H' O v t
  | _, _, _, .nil, _ => .nil
  | _, _, _, .cons h r, k => .cons (Ow.stay s h fun a ha => k a (List.mem_append_left _ ha)) (OwF.stay s r fun a ha => k a (List.mem_append_right _ ha))
end
mutual
theorem Ow.held {F H : Hp} : ∀ {O : List Addr} {v : V} {t : T}, Ow F H O v t → ∀ a ∈ O, Held H a
  | _, _, _, .va r, a, ha => nomatch ha
  | _, _, _, .lst h r, a, ha => by rw [List.mem_singleton.mp ha]; exact ⟨_, h, fun _ z => nomatch z⟩
  | _, _, _, .dic h r, a, ha => by rw [List.mem_singleton.mp ha]; exact ⟨_, h, fun _ z => nomatch z⟩
  | _, _, _, .fdc h r, a, ha => nomatch ha
  | _, _, _, .ins h1 h2 r, a, ha => by
    rcases List.mem_cons.mp ha with rfl | ha
    · exact ⟨_, h1, fun _ z => nomatch z⟩
    rcases List.mem_cons.mp ha with rfl | ha
    · exact ⟨_, h2, fun _ z => nomatch z⟩
    · exact OwF.held r a ha
  | _, _, _, .hole, a, ha => nomatch ha
  | _, _, _, .ob h st, a, ha => st.held _ _ _ _ h a ha
theorem OwF.held {F H : Hp} : ∀ {O : List Addr} {v : List (Str × V)} {t : List (Str × T)}, OwF F H O v t → ∀ a ∈ O, Held H a
  | _, _, _, .nil, a, ha => nomatch ha
  | _, _, _, .cons h r, a, ha => (List.mem_append.mp ha).elim (Ow.held h a) (OwF.held r a)
end
theorem Ow.there {F H : Hp} {O : List Addr} {v : V} {t : T} (h : Ow F H O v t) (a : Addr) (ha : a ∈ O) : H a ≠ none := (h.held a ha).ne
theorem OwF.there {F H : Hp} {O : List Addr} {v : List (Str × V)} {t : List (Str × T)} (h : OwF F H O v t) (a : Addr) (ha : a ∈ O) : H a ≠ none := (h.held a ha).ne
theorem Ow.ref {F H : Hp} {O : List Addr} {v : V} {t : T} {a : Addr} (h : Ow F H O v t) (e : t.addr = some a) : v = .ref a := by
  cases h with
  | va r => cases e
  | lst h r => cases e; rfl
  | dic h r => cases e; rfl
  | fdc h r => cases e; rfl
  | ins h1 h2 r => cases e; rfl
  | hole => cases e; rfl
  | ob h st => exact st.at_ _ _ _ _ _ h e

abbrev Env := List (Option T)
inductive OwE (F H : Hp) : List Addr → L2.St → Env → Prop
  | nil : OwE F H [] [] []
  | un {O : List Addr} {σ : L2.St} {e : Env} {x : Option V} : OwE F H O σ e → OwE F H O (x :: σ) (none :: e)
  | so {O1 O2 : List Addr} {σ : L2.St} {e : Env} {v : V} {t : T} : Ow F H O1 v t → OwE F H O2 σ e → OwE F H (O1 ++ O2) (some v :: σ) (some t :: e)
theorem OwE.stay {F H F' H' : Hp} (s : Same F F') : ∀ {O : List Addr} {σ : L2.St} {e : Env}, OwE F H O σ e → (∀ a ∈ O, H' a = H a) → OwE F' H' O σ e
  | _, _, _, .nil, _ => .nil
  | _, _, _, .un r, k => .un (OwE.stay s r k)
  | _, _, _, .so h r, k => .so (h.stay s fun a ha => k a (List.mem_append_left _ ha)) (OwE.stay s r fun a ha => k a (List.mem_append_right _ ha))
theorem OwE.held {F H : Hp} : ∀ {O : List Addr} {σ : L2.St} {e : Env}, OwE F H O σ e → ∀ a ∈ O, Held H a
  | _, _, _, .nil, a, ha => nomatch ha
  | _, _, _, .un r, a, ha => OwE.held r a ha
  | _, _, _, .so h r, a, ha => (List.mem_append.mp ha).elim (Ow.held h a) (OwE.held r a)
theorem OwE.there {F H : Hp} {O : List Addr} {σ : L2.St} {e : Env} (h : OwE F H O σ e) (a : Addr) (ha : a ∈ O) : H a ≠ none := (h.held a ha).ne
theorem OwE.len {F H : Hp} : ∀ {O : List Addr} {σ : L2.St} {e : Env}, OwE F H O σ e → σ.length = e.length
  | _, _, _, .nil => rfl
  | _, _, _, .un r => congrArg (· + 1) (OwE.len r)
  | _, _, _, .so _ r => congrArg (· + 1) (OwE.len r)

/-! ### places within a thing -/
def getT : List Str → T → Option T
  | [], t => some t
  | f :: p, .ins _ _ fs => match fs.lookup f with
    | some t => getT p t
    | none => none
  | _ :: _, _ => none
/-- the first field of that name, replaced -/
def repF (f : Str) (u : T) : List (Str × T) → List (Str × T)
  | [] => []
  | (n, t) :: r => if f == n then (n, u) :: r else (n, t) :: repF f u r
theorem repF_hit {f n : Str} {u t : T} {r : List (Str × T)} (h : (f == n) = true) : repF f u ((n, t) :: r) = (n, u) :: r := by unfold repF; rw [if_pos h]
theorem repF_miss {f n : Str} {u t : T} {r : List (Str × T)} (h : (f == n) = false) : repF f u ((n, t) :: r) = (n, t) :: repF f u r := by
  conv => lhs; unfold repF
  rw [if_neg (by rw [h]; exact Bool.false_ne_true)]
def setT : List Str → T → T → T
  | [], u, _ => u
  | f :: p, u, .ins a C fs => match fs.lookup f with
    | some t => .ins a C (repF f (setT p u t) fs)
    | none => .ins a C fs
  | _ :: _, _, t => t
def getP (i : Nat) (p : List Str) (env : Env) : Option T := match env[i]? with
  | some (some t) => getT p t
  | _ => none
def setO (p : List Str) (u : T) : Option T → Option T
  | some t => some (setT p u t)
  | none => none
def setP : Nat → List Str → T → Env → Env
  | _, _, _, [] => []
  | 0, p, u, o :: e => setO p u o :: e
  | i + 1, p, u, o :: e => o :: setP i p u e
theorem setP_eq {p : List Str} {u t : T} : ∀ {i : Nat} {env : Env}, env[i]? = some (some t) → setP i p u env = env.set i (some (setT p u t))
  | _, [], h => nomatch h
  | 0, o :: e, h => by cases h; rfl
  | i + 1, o :: e, h => congrArg (o :: ·) (setP_eq (i := i) (env := e) h)

/-- a part of a thing is taken out, and another one put there -/
def Hung (F H : Hp) (O : List Addr) (w : V) (u : T) (R : Hp → Hp → List Addr → T → Prop) : Prop :=
  ∃ Oj O', Ow F H Oj w u ∧ O.Perm (Oj ++ O') ∧ ∀ F' H' Oj' u', Same F F' → (∀ a ∈ O', H' a = H a) → Ow F' H' Oj' w u' → ∃ O'', R F' H' O'' u' ∧ O''.Perm (Oj' ++ O')

theorem perm_mid {α : Type} {A B C E : List α} (h : B.Perm (C ++ E)) : (A ++ B).Perm (C ++ (A ++ E)) :=
  (h.append_left A).trans (by rw [← List.append_assoc, ← List.append_assoc]; exact (List.perm_append_comm).append_right E)

theorem OwF.focus {F H : Hp} {f : Str} : ∀ {fs : List (Str × T)} {vs : List (Str × V)} {O : List Addr} {t : T}, OwF F H O vs fs → fs.lookup f = some t →
    ∃ w, Hung F H O w t (fun F' H' O'' u' => OwF F' H' O'' vs (repF f u' fs))
  | [], _, _, _, _, e => nomatch e
  | (n, t0) :: fs, _, _, t, .cons (O1 := O1) (O2 := O2) h r, e => by
    rw [List.lookup_cons] at e
    cases hb : f == n with
    | true =>
      rw [hb] at e
      cases e
      refine ⟨_, O1, O2, h, List.Perm.refl _, fun F' H' Oj' u' s k h' => ⟨Oj' ++ O2, ?_, List.Perm.refl _⟩⟩
      show OwF _ _ _ _ (repF f u' ((n, t0) :: fs))
      rw [repF_hit hb]
      exact .cons h' (r.stay s k)
    | false =>
      rw [hb] at e
      obtain ⟨w, Oj, O', h1, h2, h3⟩ := OwF.focus r e
      refine ⟨w, Oj, O1 ++ O', h1, perm_mid h2, fun F' H' Oj' u' s k h' => ?_⟩
      obtain ⟨O'', q1, q2⟩ := h3 F' H' Oj' u' s (fun a ha => k a (List.mem_append_right _ ha)) h'
      refine ⟨O1 ++ O'', ?_, perm_mid q2⟩
      show OwF _ _ _ _ (repF f u' ((n, t0) :: fs))
      rw [repF_miss hb]
      exact .cons (h.stay s fun a ha => k a (List.mem_append_left _ ha)) q1

theorem Ow.focus {F H : Hp} : ∀ {p : List Str} {t u : T} {O : List Addr} {v : V}, Ow F H O v t → getT p t = some u →
    ∃ w, Hung F H O w u (fun F' H' O'' u' => Ow F' H' O'' v (setT p u' t)) ∧ (p = [] → w = v)
  | [], t, u, O, v, h, e => by
    cases e
    exact ⟨v, ⟨O, [], h, by rw [List.append_nil], fun F' H' Oj' u' _ _ h' => ⟨Oj', h', by rw [List.append_nil]⟩⟩, fun _ => rfl⟩
  | f :: p, t, u, O, v, h, e => by
    cases t with
    | ins a C fs =>
      cases h with
      | ins h1 h2 r =>
        rename_i dx vs Of
        unfold getT at e
        cases hl : fs.lookup f with
        | none => rw [hl] at e; cases e
        | some t1 =>
          rw [hl] at e
          obtain ⟨w1, Oj1, O1', g1, g2, g3⟩ := OwF.focus r hl
          obtain ⟨w, ⟨Oj, O', k1, k2, k3⟩, _⟩ := Ow.focus (p := p) g1 e
          refine ⟨w, ⟨Oj, a :: dx :: (O' ++ O1'), k1, ?_, fun F' H' Oj' u' s k h' => ?_⟩, fun z => nomatch z⟩
          · have e1 : Of.Perm (Oj ++ (O' ++ O1')) := g2.trans (by rw [← List.append_assoc]; exact k2.append_right O1')
            exact perm_mid (A := [a, dx]) e1
          · obtain ⟨O2, q1, q2⟩ := k3 F' H' Oj' u' s (fun b hb => k b (List.mem_cons_of_mem _ (List.mem_cons_of_mem _ (List.mem_append_left _ hb)))) h'
            obtain ⟨O3, q3, q4⟩ := g3 F' H' O2 _ s (fun b hb => k b (List.mem_cons_of_mem _ (List.mem_cons_of_mem _ (List.mem_append_right _ hb)))) q1
            refine ⟨a :: dx :: O3, ?_, ?_⟩
            · unfold setT
              rw [hl]
              exact .ins ((k _ List.mem_cons_self).trans h1) ((k _ (List.mem_cons_of_mem _ List.mem_cons_self)).trans h2) q3
            · have e1 : O3.Perm (Oj' ++ (O' ++ O1')) := q4.trans (by rw [← List.append_assoc]; exact q2.append_right O1')
              exact perm_mid (A := [a, dx]) e1
    | va d => cases e
    | lst a ds => cases e
    | dic a ds => cases e
    | fdc a ds => cases e
    | hole a => cases e
    | ob a φ => cases e

theorem OwE.focusI {F H : Hp} : ∀ {env : Env} {σ : L2.St} {O : List Addr} {i : Nat} {t : T}, OwE F H O σ env → env[i]? = some (some t) →
    ∃ w, σ[i]? = some (some w) ∧ Hung F H O w t (fun F' H' O'' u' => OwE F' H' O'' σ (env.set i (some u')))
  | _, _, _, _, _, .nil, e => nomatch e
  | _, _, _, 0, t, .un r, e => by cases e
  | _, _, _, i + 1, t, .un r, e => by
    obtain ⟨w, g, Oj, O', h1, h2, h3⟩ := OwE.focusI r (i := i) e
    refine ⟨w, g, Oj, O', h1, h2, fun F' H' Oj' u' s k h' => ?_⟩
    obtain ⟨O'', q1, q2⟩ := h3 F' H' Oj' u' s k h'
    exact ⟨O'', .un q1, q2⟩
  | _, _, _, 0, t, .so (O1 := O1) (O2 := O2) h r, e => by
    cases e
    refine ⟨_, rfl, O1, O2, h, List.Perm.refl _, fun F' H' Oj' u' s k h' => ⟨Oj' ++ O2, .so h' (r.stay s k), List.Perm.refl _⟩⟩
  | _, _, _, i + 1, t, .so (O1 := O1) (O2 := O2) h r, e => by
    obtain ⟨w, g, Oj, O', h1, h2, h3⟩ := OwE.focusI r (i := i) e
    refine ⟨w, g, Oj, O1 ++ O', h1, perm_mid h2, fun F' H' Oj' u' s k h' => ?_⟩
    obtain ⟨O'', q1, q2⟩ := h3 F' H' Oj' u' s (fun a ha => k a (List.mem_append_right _ ha)) h'
    exact ⟨O1 ++ O'', .so (h.stay s fun a ha => k a (List.mem_append_left _ ha)) q1, perm_mid q2⟩

theorem OwE.focus {F H : Hp} {env : Env} {σ : L2.St} {O : List Addr} {i : Nat} {p : List Str} {u : T} (h : OwE F H O σ env) (e : getP i p env = some u) :
    ∃ w, Hung F H O w u (fun F' H' O'' u' => OwE F' H' O'' σ (setP i p u' env)) ∧ (p = [] → σ[i]? = some (some w)) := by
  unfold getP at e
  cases hi : env[i]? with
  | none => rw [hi] at e; cases e
  | some o =>
    cases o with
    | none => rw [hi] at e; cases e
    | some t =>
      rw [hi] at e
      obtain ⟨w0, g0, Oj0, O0', h1, h2, h3⟩ := OwE.focusI h hi
      obtain ⟨w, ⟨Oj, O', k1, k2, k3⟩, k4⟩ := h1.focus e
      refine ⟨w, ⟨Oj, O' ++ O0', k1, h2.trans (by rw [← List.append_assoc]; exact k2.append_right O0'), fun F' H' Oj' u' s k h' => ?_⟩, fun z => by rw [k4 z]; exact g0⟩
      obtain ⟨O2, q1, q2⟩ := k3 F' H' Oj' u' s (fun b hb => k b (List.mem_append_left _ hb)) h'
      obtain ⟨O3, q3, q4⟩ := h3 F' H' O2 _ s (fun b hb => k b (List.mem_append_right _ hb)) q1
      refine ⟨O3, ?_, q4.trans (by rw [← List.append_assoc]; exact q2.append_right O0')⟩
      show OwE F' H' O3 σ (setP i p u' env)
      rw [setP_eq hi]
      exact q3

/-! ### the state -/
/-- the table at p tells the code object at c -/
def Told (H : Hp) (p c : Addr) : Prop := ∃ (ps : Array Value) (pos : Pos), H p = some (.tbl ps) ∧ codeAmong pos ps.toList = some (.ref c)
theorem Told.code {H : Hp} {p c : Addr} {q : Str} (t : Told H p c) (s : LamX.TabS H p q) : H c = some (LamX.CodeO c q) := by
  obtain ⟨ps, pos, h1, h2⟩ := t
  obtain ⟨ps', g1, _, g3⟩ := s
  rw [h1] at g1
  cases g1
  obtain ⟨c', e1, e2⟩ := g3 pos _ h2
  cases e1
  exact e2
/-- the tables grow alone -/
def TabM (Tq : List (Addr × Str)) (H0 H : Hp) : Prop := ∀ p ∈ Tq, LamX.TabS H0 p.1 p.2 → LamX.TabS H p.1 p.2 ∧ ∀ c, Told H0 p.1 c → Told H p.1 c
theorem TabM.refl {Tq : List (Addr × Str)} (H : Hp) : TabM Tq H H := fun _ _ h => ⟨h, fun _ z => z⟩
theorem TabM.trans {Tq : List (Addr × Str)} {H0 H1 H2 : Hp} (a : TabM Tq H0 H1) (b : TabM Tq H1 H2) : TabM Tq H0 H2 := fun p m t => ⟨(b p m (a p m t).1).1, fun c z => (b p m (a p m t).1).2 c ((a p m t).2 c z)⟩
/-- what a step leaves -/
structure Frm (Tq : List (Addr × Str)) (H0 F0 : Hp) (O0 : List Addr) (H F : Hp) (O : List Addr) : Prop where
  fz : Same F0 F
  out : ∀ a o, H0 a = some o → (∀ ps, o ≠ .tbl ps) → a ∉ O0 → H a = some o
  al : ∀ a, H0 a ≠ none → H a ≠ none
  newF : ∀ a, F a ≠ none → F0 a ≠ none ∨ H0 a = none ∨ a ∈ O0
  newO : ∀ a ∈ O, a ∈ O0 ∨ H0 a = none
  tb : TabM Tq H0 H
theorem Frm.refl {Tq : List (Addr × Str)} (H F : Hp) (O : List Addr) : Frm Tq H F O H F O := ⟨Same.refl _, fun _ _ h _ _ => h, fun _ h => h, fun _ h => .inl h, fun _ h => .inl h, TabM.refl _⟩
/-- one object is written: no table, no code object of a table -/
theorem tab_upd {Tq : List (Addr × Str)} {H : Hp} {a : Addr} {x : HO} (h : ∀ o, H a = some o → (∀ ps, o ≠ .tbl ps) ∧ ∀ q, o ≠ LamX.CodeO a q) : TabM Tq H (upd H a x) := fun p m t => by
  obtain ⟨ps, h1, h2, h3⟩ := t
  have k : upd H a x p.1 = H p.1 := upd_ne fun z => by rw [z] at h1; exact (h _ h1).1 _ rfl
  refine ⟨⟨ps, k.trans h1, h2, fun pos cv hc => ?_⟩, fun c ⟨ps', pos, g1, g2⟩ => ⟨ps', pos, k.trans g1, g2⟩⟩
  obtain ⟨c, e1, e2⟩ := h3 pos cv hc
  exact ⟨c, e1, by rw [upd_ne fun z => by subst z; exact (h _ e2).2 _ rfl]; exact e2⟩
theorem tab_own {Tq : List (Addr × Str)} {H : Hp} {a : Addr} {o x : HO} (h : H a = some o) (nt : ∀ ps, o ≠ .tbl ps := by intro _ z; nomatch z) (nc : ∀ q, o ≠ LamX.CodeO a q := by intro _ z; nomatch z) : TabM Tq H (upd H a x) := tab_upd fun o' e => by rw [h] at e; cases e; exact ⟨nt, nc⟩
theorem tab_new {Tq : List (Addr × Str)} {H : Hp} {a : Addr} {x : HO} (h : H a = none) : TabM Tq H (upd H a x) := tab_upd fun o e => by rw [h] at e; cases e
theorem tab_same {Tq : List (Addr × Str)} {H H' : Hp} (s : Same H H') : TabM Tq H H' := fun p m t => ⟨t.ext s, fun c ⟨ps, pos, g1, g2⟩ => ⟨ps, pos, s _ _ g1, g2⟩⟩
/-- the tables: no part of what is frozen or held -/
structure TabZ (Tq : List (Addr × Str)) (H F : Hp) (O : List Addr) : Prop where
  tabs : LamX.Tabs Tq H
  tn : ∀ p ∈ Tq, F p.1 = none
  to : ∀ p ∈ Tq, p.1 ∉ O
theorem Frm.trans {Tq : List (Addr × Str)} {H0 F0 H1 F1 H2 F2 : Hp} {O0 O1 O2 : List Addr} (a : Frm Tq H0 F0 O0 H1 F1 O1) (b : Frm Tq H1 F1 O1 H2 F2 O2) : Frm Tq H0 F0 O0 H2 F2 O2 where
  fz := a.fz.trans b.fz
  out := fun c o h nt n => b.out c o (a.out c o h nt n) nt fun z => (a.newO c z).elim n fun q => by rw [q] at h; cases h
  tb := a.tb.trans b.tb
  al := fun c h => b.al c (a.al c h)
  newF := fun c h => by
    rcases b.newF c h with z | z | z
    · exact a.newF c z
    · refine .inr (.inl ?_)
      cases q : H0 c with
      | none => rfl
      | some o => exact absurd z (a.al c (by rw [q]; exact fun z => nomatch z))
    · exact (a.newO c z).elim (fun q => .inr (.inr q)) fun q => .inr (.inl q)
  newO := fun c h => by
    rcases b.newO c h with z | z
    · exact a.newO c z
    · refine .inr ?_
      cases q : H0 c with
      | none => rfl
      | some o => exact absurd z (a.al c (by rw [q]; exact fun z => nomatch z))
/-- only the list of the held objects is written otherwise -/
theorem Frm.perm {Tq : List (Addr × Str)} {H0 F0 H F : Hp} {O0 O0' O O' : List Addr} (a : Frm Tq H0 F0 O0 H F O) (h0 : ∀ b, b ∈ O0 ↔ b ∈ O0') (h : ∀ b ∈ O', b ∈ O) : Frm Tq H0 F0 O0' H F O' :=
  ⟨a.fz, fun c o e nt n => a.out c o e nt fun z => n ((h0 c).mp z), a.al, fun c e => (a.newF c e).imp_right (·.imp_right (h0 c).mp), fun c e => (a.newO c (h c e)).imp_left (h0 c).mp, a.tb⟩
/-- a step of a part, the other held objects aside -/
theorem Frm.frame {Tq : List (Addr × Str)} {H0 F0 H F : Hp} {O0 O R : List Addr} (a : Frm Tq H0 F0 O0 H F O) : Frm Tq H0 F0 (O0 ++ R) H F (O ++ R) where
  fz := a.fz
  out := fun c o e nt n => a.out c o e nt fun z => n (List.mem_append_left _ z)
  tb := a.tb
  al := a.al
  newF := fun c e => (a.newF c e).imp_right (·.imp_right (List.mem_append_left _))
  newO := fun c e => (List.mem_append.mp e).elim (fun z => (a.newO c z).imp_left (List.mem_append_left _)) fun z => .inl (List.mem_append_right _ z)
/-- the state at a def's entry; Tq: the tables of code objects that are known -/
structure Zb (Tq : List (Addr × Str)) where
  H : Hp
  F : Hp
  O : List Addr
  tb : TabZ Tq H F O
/-- F never changes; O are the objects that are held by one name alone; Z: the entry -/
structure Bas {Tq : List (Addr × Str)} (Z : Zb Tq) (F H : Hp) (O : List Addr) : Prop where
  sub : Same F H
  nd : O.Nodup
  dis : ∀ a ∈ O, F a = none
  abs : Frm Tq Z.H Z.F Z.O H F O
/-- the other held objects stand as they were -/
theorem Frm.rest {Tq : List (Addr × Str)} {H0 F0 H F : Hp} {O0 O R : List Addr} (a : Frm Tq H0 F0 O0 H F O) (nd : (O0 ++ R).Nodup) (ex : ∀ b ∈ R, Held H0 b) : ∀ b ∈ R, H b = H0 b := fun b hb => by
  obtain ⟨o, q, nt⟩ := ex b hb
  rw [q]
  exact a.out b o q nt fun z => (List.nodup_append.mp nd).2.2 b z b hb rfl
theorem Bas.frame {Tq : List (Addr × Str)} {Z Z' : Zb Tq} {H0 F0 H F : Hp} {O0 O R : List Addr} (a : Frm Tq H0 F0 O0 H F O) (b0 : Bas Z F0 H0 (O0 ++ R)) (b : Bas Z' F H O) (ex : ∀ c ∈ R, Held H0 c) : Bas Z F H (O ++ R) := by
  refine ⟨b.sub, List.nodup_append.mpr ⟨b.nd, (List.nodup_append.mp b0.nd).2.1, fun x hx y hy e => ?_⟩, fun c hc => ?_, b0.abs.trans a.frame⟩
  · subst e
    rcases a.newO x hx with z | z
    · exact (List.nodup_append.mp b0.nd).2.2 x z x hy rfl
    · exact (ex x hy).ne z
  · rcases List.mem_append.mp hc with z | z
    · exact b.dis c z
    · cases q : F c with
      | none => rfl
      | some o =>
        rcases a.newF c (by rw [q]; exact fun z => nomatch z) with r | r | r
        · exact absurd (b0.dis c (List.mem_append_right _ z)) r
        · exact absurd r (ex c z).ne
        · exact absurd rfl ((List.nodup_append.mp b0.nd).2.2 c r c z)
theorem Bas.perm {Tq : List (Addr × Str)} {Z : Zb Tq} {F H : Hp} {O O' : List Addr} (b : Bas Z F H O) (p : O.Perm O') : Bas Z F H O' := ⟨b.sub, p.nodup b.nd, fun a ha => b.dis a (p.mem_iff.mpr ha), b.abs.perm (fun _ => Iff.rfl) fun c hc => p.mem_iff.mpr hc⟩
theorem Bas.left {Tq : List (Addr × Str)} {Z : Zb Tq} {F H : Hp} {O R : List Addr} (b : Bas Z F H (O ++ R)) : Bas Z F H O := ⟨b.sub, (List.nodup_append.mp b.nd).1, fun a ha => b.dis a (List.mem_append_left _ ha), b.abs.perm (fun _ => Iff.rfl) fun c hc => List.mem_append_left _ hc⟩
theorem Bas.right {Tq : List (Addr × Str)} {Z : Zb Tq} {F H : Hp} {O R : List Addr} (b : Bas Z F H (O ++ R)) : Bas Z F H R := ⟨b.sub, (List.nodup_append.mp b.nd).2.1, fun a ha => b.dis a (List.mem_append_right _ ha), b.abs.perm (fun _ => Iff.rfl) fun c hc => List.mem_append_right _ hc⟩
theorem Bas.tabs {F H : Hp} {O : List Addr} {Tq : List (Addr × Str)} {Z : Zb Tq} (b : Bas Z F H O) : TabZ Tq H F O :=
  have no : ∀ p ∈ Tq, Z.H p.1 ≠ none := fun p hp z => by
    obtain ⟨ps, h, _⟩ := Z.tb.tabs p hp
    rw [z] at h
    cases h
  ⟨fun p hp => (b.abs.tb p hp (Z.tb.tabs p hp)).1, fun p hp => by
    cases q : F p.1 with
    | none => rfl
    | some x =>
      rcases b.abs.newF p.1 (by rw [q]; exact fun z => nomatch z) with y | y | y
      · exact absurd (Z.tb.tn p hp) y
      · exact absurd y (no p hp)
      · exact absurd y (Z.tb.to p hp), fun p hp z => (b.abs.newO p.1 z).elim (Z.tb.to p hp) (no p hp)⟩
theorem Bas.entry {F H : Hp} {O : List Addr} {Tq : List (Addr × Str)} {Z : Zb Tq} (b : Bas Z F H O) : Bas ⟨H, F, O, b.tabs⟩ F H O := ⟨b.sub, b.nd, b.dis, Frm.refl _ _ _⟩
end QL

/-! QB: what an expression gives, over data: WE (a result), WA (an argument), WAs, WT (a test); WS, WSs (statements). -/
namespace QL
open PySem PySem.Spec PyProof.Rows L2

/-- a result: a thing of its own, or what stands at a place of a name (an object that this name holds) -/
inductive R
  | t (t : T)
  | bor (a : Addr) (i : Nat) (p : List Str)
/-- an argument -/
inductive A
  | va (d : D)
  | bor (a : Addr) (i : Nat) (p : List Str)

def frzT : T → Option D
  | .va d => some d
  | .lst _ ds => some (.list ds)
  | .dic _ kvs => some (.dict (kvs.map fun p => (kD p.1, p.2)))
  | .fdc _ kvs => some (.dict (kvs.map fun p => (kD p.1, p.2)))
  | _ => none
def toA (r : R) (k : A → Prop) : Prop := match r with
  | .bor a i p => k (.bor a i p)
  | .t t => match frzT t with
    | some d => k (.va d)
    | none => False

def StR (F H : Hp) (O : List Addr) (σ : L2.St) (env : Env) (v : V) : R → Prop
  | .t t => ∃ O1 O2, O = O1 ++ O2 ∧ OwE F H O1 σ env ∧ Ow F H O2 v t
  | .bor a _ _ => OwE F H O σ env ∧ v = .ref a
def StA (F : Hp) (v : V) : A → Prop
  | .va d => Rp F v d
  | .bor a _ _ => v = .ref a
theorem StA.mono {F F' : Hp} (s : Same F F') {v : V} {a : A} (h : StA F v a) : StA F' v a := by
  cases a with
  | va d => exact Rp.mono s h
  | bor a i p => exact h
inductive StAs (F : Hp) : List V → List A → Prop
  | nil : StAs F [] []
  | cons {v : V} {vs : List V} {a : A} {as : List A} : StA F v a → StAs F vs as → StAs F (v :: vs) (a :: as)
theorem StAs.mono {F F' : Hp} (s : Same F F') : ∀ {v : List V} {a : List A}, StAs F v a → StAs F' v a
  | _, _, .nil => .nil
  | _, _, .cons h r => .cons (h.mono s) (StAs.mono s r)

/-! ### freezing -/
def frzF (F H : Hp) (O : List Addr) : Hp := fun a => if a ∈ O then H a else F a
theorem frzF_in {F H : Hp} {O : List Addr} {a : Addr} (h : a ∈ O) : frzF F H O a = H a := by unfold frzF; rw [if_pos h]
theorem frzF_out {F H : Hp} {O : List Addr} {a : Addr} (h : a ∉ O) : frzF F H O a = F a := by unfold frzF; rw [if_neg h]
theorem frzF_from {F H : Hp} {O : List Addr} (d : ∀ a ∈ O, F a = none) : Same F (frzF F H O) := fun b o e => by
  by_cases h : b ∈ O
  · rw [d b h] at e; cases e
  · rw [frzF_out h]; exact e
theorem frzF_to {F H : Hp} {O : List Addr} (s : Same F H) : Same (frzF F H O) H := fun b o e => by
  by_cases h : b ∈ O
  · rw [frzF_in h] at e; exact e
  · rw [frzF_out h] at e; exact s b o e
theorem RpT.rpk {F : Hp} : ∀ {vs : List (Key × V)} {ds : List (Key × D)}, RpT F vs ds → RpK F vs (ds.map fun p => (kD p.1, p.2))
  | _, _, .nil => .nil
  | _, _, .cons h r => .cons h r.rpk
theorem Ow.frz {F H F' : Hp} {O : List Addr} {v : V} {t : T} {d : D} (h : Ow F H O v t) (s : Same F F') (k : ∀ a ∈ O, F' a = H a) (f : frzT t = some d) : Rp F' v d := by
  cases h with
  | va r => cases f; exact r.mono s
  | lst h r => cases f; exact .lst ((k _ (List.mem_singleton.mpr rfl)).trans h) (r.mono s)
  | dic h r => cases f; exact .dic (.inl ((k _ (List.mem_singleton.mpr rfl)).trans h)) (r.rpk.mono s)
  | fdc h r => cases f; exact .dic (.inr ⟨_, s _ _ h⟩) (r.rpk.mono s)
  | ins h1 h2 r => cases f
  | hole => cases f
  | ob h st => cases f
/-- a part of what is held is held no more: it never changes from now on -/
theorem Bas.freeze {Tq : List (Addr × Str)} {Z : Zb Tq} {F H : Hp} {O1 O2 : List Addr} (b : Bas Z F H (O1 ++ O2)) : Bas Z (frzF F H O2) H O1 ∧ Same F (frzF F H O2) ∧ (∀ a ∈ O2, frzF F H O2 a = H a) ∧ Frm Tq H F (O1 ++ O2) H (frzF F H O2) O1 := by
  have s : Same F (frzF F H O2) := frzF_from b.right.dis
  have fr : Frm Tq H F (O1 ++ O2) H (frzF F H O2) O1 := ⟨s, fun _ _ h _ _ => h, fun _ h => h, fun a h => by
    by_cases q : a ∈ O2
    · exact .inr (.inr (List.mem_append_right _ q))
    · rw [frzF_out q] at h
      exact .inl h, fun a ha => .inl (List.mem_append_left _ ha), TabM.refl _⟩
  refine ⟨⟨frzF_to b.sub, b.left.nd, fun a ha => ?_, b.abs.trans fr⟩, s, fun a ha => frzF_in ha, fr⟩
  rw [frzF_out fun z => (List.nodup_append.mp b.nd).2.2 a ha a z rfl]
  exact b.left.dis a ha

/-! ### expressions -/
def Post {Tq : List (Addr × Str)} (Z : Zb Tq) (σ : L2.St) (H0 F0 : Hp) (O0 : List Addr) (P : R → Env → Prop) : VK := fun v H => ∃ F O r env, Bas Z F H O ∧ StR F H O σ env v r ∧ Frm Tq H0 F0 O0 H F O ∧ P r env
def PostA {Tq : List (Addr × Str)} (Z : Zb Tq) (σ : L2.St) (H0 F0 : Hp) (O0 : List Addr) (P : A → Env → Prop) : VK := fun v H => ∃ F O a env, Bas Z F H O ∧ OwE F H O σ env ∧ StA F v a ∧ Frm Tq H0 F0 O0 H F O ∧ P a env
def PostAs {Tq : List (Addr × Str)} (Z : Zb Tq) (σ : L2.St) (H0 F0 : Hp) (O0 : List Addr) (P : List A → Env → Prop) : List V → Hp → Prop := fun vs H => ∃ F O as env, Bas Z F H O ∧ OwE F H O σ env ∧ StAs F vs as ∧ Frm Tq H0 F0 O0 H F O ∧ P as env
def PostT {Tq : List (Addr × Str)} (Z : Zb Tq) (σ : L2.St) (H0 F0 : Hp) (O0 : List Addr) (P : Bool → Env → Prop) : Bool → Hp → Prop := fun b H => ∃ F O env, Bas Z F H O ∧ OwE F H O σ env ∧ Frm Tq H0 F0 O0 H F O ∧ P b env

def WE {Tq : List (Addr × Str)} (Z : Zb Tq) (X : Cx) (e : Expr) (env : Env) (P : R → Env → Prop) : Prop :=
  ∀ (pins : List (Addr × Obj)) (s : Shared) (σ : L2.St) (H F : Hp) (O : List Addr), Inv X pins σ H s → Bas Z F H O → OwE F H O σ env →
    wpAny (model X.prog X.w) X.A (eval e X.env) (EP X pins σ (Post Z σ H F O P)) X.xe s
def WA {Tq : List (Addr × Str)} (Z : Zb Tq) (X : Cx) (e : Expr) (env : Env) (P : A → Env → Prop) : Prop := WE Z X e env fun r env' => toA r fun a => P a env'
def WT {Tq : List (Addr × Str)} (Z : Zb Tq) (X : Cx) (e : Expr) (env : Env) (P : Bool → Env → Prop) : Prop :=
  ∀ (pins : List (Addr × Obj)) (s : Shared) (σ : L2.St) (H F : Hp) (O : List Addr), Inv X pins σ H s → Bas Z F H O → OwE F H O σ env →
    wpAny (model X.prog X.w) X.A (isTrue e X.env (eval e X.env)) (TP X pins σ (PostT Z σ H F O P)) X.xe s
/-- a test, whatever its value is taken from -/
def WW {Tq : List (Addr × Str)} (Z : Zb Tq) (X : Cx) (e : Expr) (env : Env) (P : Bool → Env → Prop) : Prop :=
  ∀ (whole : Sem Value) (pins : List (Addr × Obj)) (s : Shared) (σ : L2.St) (H F : Hp) (O : List Addr), Inv X pins σ H s → Bas Z F H O → OwE F H O σ env →
    wpAny (model X.prog X.w) X.A (isTrue e X.env whole) (TP X pins σ (PostT Z σ H F O P)) X.xe s
theorem WW.t {Tq : List (Addr × Str)} {Z : Zb Tq} {X : Cx} {e : Expr} {env : Env} {P : Bool → Env → Prop} (h : WW Z X e env P) : WT Z X e env P := h _

section
variable {Tq : List (Addr × Str)} {Z : Zb Tq} {X : Cx} {e a b : Expr} {env : Env} {pins : List (Addr × Obj)} {s : Shared} {σ : L2.St} {H F : Hp} {O : List Addr}
theorem EP.imp {Q Q' : VK} (h : ∀ v H', Q v H' → Q' v H') : ∀ u s', EP X pins σ Q u s' → EP X pins σ Q' u s' := fun _ _ ⟨v, H', I, r, q⟩ => ⟨v, H', I, r, h v H' q⟩
theorem Post.toA {H0 F0 : Hp} {O0 : List Addr} {P : A → Env → Prop} {v : V} (h : Post Z σ H0 F0 O0 (fun r env' => QL.toA r fun a => P a env') v H) : PostA Z σ H0 F0 O0 P v H := by
  obtain ⟨F, O, r, env, b, st, fr, p⟩ := h
  cases r with
  | bor a i pp => exact ⟨F, O, .bor a i pp, env, b, st.1, st.2, fr, p⟩
  | t t =>
    obtain ⟨O1, O2, rfl, e, o⟩ := st
    cases hf : frzT t with
    | none => unfold QL.toA at p; simp only [hf] at p
    | some d =>
      unfold QL.toA at p
      simp only [hf] at p
      obtain ⟨b', s, k, fr'⟩ := b.freeze
      exact ⟨_, O1, .va d, env, b', e.stay s fun _ _ => rfl, o.frz s k hf, fr.trans fr', p⟩
theorem Post.imp {H0 F0 : Hp} {O0 : List Addr} {P P' : R → Env → Prop} (hp : ∀ r env, P r env → P' r env) {v : V} (h : Post Z σ H0 F0 O0 P v H) : Post Z σ H0 F0 O0 P' v H := by
  obtain ⟨F, O, r, env, b, st, fr, p⟩ := h
  exact ⟨F, O, r, env, b, st, fr, hp _ _ p⟩
theorem Post.from {H0 F0 H1 F1 : Hp} {O0 O1 : List Addr} {P : R → Env → Prop} (fr : Frm Tq H0 F0 O0 H1 F1 O1) {v : V} (h : Post Z σ H1 F1 O1 P v H) : Post Z σ H0 F0 O0 P v H := by
  obtain ⟨F, O, r, env, b, st, fr', p⟩ := h
  exact ⟨F, O, r, env, b, st, fr.trans fr', p⟩
theorem PostA.from {H0 F0 H1 F1 : Hp} {O0 O1 : List Addr} {P : A → Env → Prop} (fr : Frm Tq H0 F0 O0 H1 F1 O1) {v : V} (h : PostA Z σ H1 F1 O1 P v H) : PostA Z σ H0 F0 O0 P v H := by
  obtain ⟨F, O, r, env, b, e, st, fr', p⟩ := h
  exact ⟨F, O, r, env, b, e, st, fr.trans fr', p⟩
theorem PostT.from {H0 F0 H1 F1 : Hp} {O0 O1 : List Addr} {P : Bool → Env → Prop} (fr : Frm Tq H0 F0 O0 H1 F1 O1) {v : Bool} (h : PostT Z σ H1 F1 O1 P v H) : PostT Z σ H0 F0 O0 P v H := by
  obtain ⟨F, O, r, b, e, fr', p⟩ := h
  exact ⟨F, O, r, b, e, fr.trans fr', p⟩
theorem WE.imp {P P' : R → Env → Prop} (h : WE Z X e env P) (hp : ∀ r env, P r env → P' r env) : WE Z X e env P' := fun pins s σ H F O I b o => thn (h pins s σ H F O I b o) (EP.imp fun _ _ => Post.imp hp)
theorem WT.imp {P P' : Bool → Env → Prop} (h : WT Z X e env P) (hp : ∀ r env, P r env → P' r env) : WT Z X e env P' := fun pins s σ H F O I b o =>
  thn (h pins s σ H F O I b o) fun _ _ ⟨H', I', F, O, r, b, e, fr, p⟩ => ⟨H', I', F, O, r, b, e, fr, hp _ _ p⟩
theorem WA.run {P : A → Env → Prop} (h : WA Z X e env P) (I : Inv X pins σ H s) (b : Bas Z F H O) (o : OwE F H O σ env) :
    wpAny (model X.prog X.w) X.A (eval e X.env) (EP X pins σ (PostA Z σ H F O P)) X.xe s := thn (h pins s σ H F O I b o) (EP.imp fun _ _ => Post.toA)

/-- readings of the hand layer made of these -/
def tE {Tq : List (Addr × Str)} (Z : Zb Tq) (X : Cx) (e : Expr) : TE := fun σ H Q => ∃ env F O P, Bas Z F H O ∧ OwE F H O σ env ∧ WE Z X e env P ∧ ∀ v H', Post Z σ H F O P v H' → Q v H'
def tA {Tq : List (Addr × Str)} (Z : Zb Tq) (X : Cx) (e : Expr) : TE := fun σ H Q => ∃ env F O P, Bas Z F H O ∧ OwE F H O σ env ∧ WA Z X e env P ∧ ∀ v H', PostA Z σ H F O P v H' → Q v H'
def tT {Tq : List (Addr × Str)} (Z : Zb Tq) (X : Cx) (e : Expr) : TT := fun σ H Q => ∃ env F O P, Bas Z F H O ∧ OwE F H O σ env ∧ WT Z X e env P ∧ ∀ v H', PostT Z σ H F O P v H' → Q v H'
theorem pe_E : PE X e (tE Z X e) := ⟨fun pins s σ H Q I ⟨env, F, O, P, b, o, w, q⟩ => thn (w pins s σ H F O I b o) (EP.imp q)⟩
theorem pe_A : PE X e (tA Z X e) := ⟨fun pins s σ H Q I ⟨env, F, O, P, b, o, w, q⟩ => thn (w.run I b o) (EP.imp q)⟩
theorem pt_T : PT X e (tT Z X e) := ⟨fun pins s σ H Q I ⟨env, F, O, P, b, o, w, q⟩ => thn (w pins s σ H F O I b o) fun _ _ ⟨H', I', p⟩ => ⟨H', I', q _ _ p⟩⟩
/-- from the hand layer -/
theorem we_of {t : TE} {P : R → Env → Prop} (h : PE X e t) (w : ∀ σ H F O, Bas Z F H O → OwE F H O σ env → t σ H (Post Z σ H F O P)) : WE Z X e env P := fun pins s σ H F O I b o => h.run pins s σ H _ I (w σ H F O b o)
theorem wt_of {t : TT} {P : Bool → Env → Prop} (h : PT X e t) (w : ∀ σ H F O, Bas Z F H O → OwE F H O σ env → t σ H (PostT Z σ H F O P)) : WT Z X e env P := fun pins s σ H F O I b o => h.run pins s σ H _ I (w σ H F O b o)

/-! ### arguments -/
def WAs {Tq : List (Addr × Str)} (Z : Zb Tq) (X : Cx) : List Expr → Env → (List A → Env → Prop) → Prop
  | [], env, P => P [] env
  | e :: es, env, P => (starEach (e :: es) X.env = (false, eval e X.env) :: starEach es X.env) ∧ WA Z X e env fun a env1 => WAs Z X es env1 fun as env2 => P (a :: as) env2
def tAs {Tq : List (Addr × Str)} (Z : Zb Tq) (X : Cx) (es : List Expr) : TA := fun σ H Q => ∃ env F O P, Bas Z F H O ∧ OwE F H O σ env ∧ WAs Z X es env P ∧ ∀ v H', PostAs Z σ H F O P v H' → Q v H'
theorem pa_As : ∀ {es : List Expr}, PA X es (tAs Z X es)
  | [] => ⟨fun pos pins s σ H Q I ⟨env, F, O, P, b, o, w, q⟩ => pa_nil.run pos pins s σ H Q I (q [] H ⟨F, O, [], env, b, o, .nil, Frm.refl _ _ _, w⟩)⟩
  | e :: es => ⟨fun pos pins s σ H Q I ⟨env, F, O, P, b, o, w, q⟩ => by
    have hp := pa_cons (X := X) (pe_A (Z := Z) (e := e)) (pa_As (es := es)) w.1
    refine hp.run pos pins s σ H Q I ⟨env, F, O, _, b, o, w.2, ?_⟩
    rintro v1 H1 ⟨F1, O1, a1, env1, b1, o1, st1, fr1, w1⟩
    refine ⟨env1, F1, O1, _, b1, o1, w1, ?_⟩
    rintro vs H2 ⟨F2, O2, as, env2, b2, o2, st2, fr2, w2⟩
    exact q _ _ ⟨F2, O2, a1 :: as, env2, b2, o2, .cons (st1.mono fr2.fz) st2, fr1.trans fr2, w2⟩⟩
/-- the same with named arguments -/
def WKs {Tq : List (Addr × Str)} (Z : Zb Tq) (X : Cx) : List Keyword → Env → (List A → Env → Prop) → Prop
  | [], env, P => P [] env
  | k :: ks, env, P => WA Z X k.value env fun a env1 => WKs Z X ks env1 fun as env2 => P (a :: as) env2
def tKs {Tq : List (Addr × Str)} (Z : Zb Tq) (X : Cx) (es : List Keyword) : TA := fun σ H Q => ∃ env F O P, Bas Z F H O ∧ OwE F H O σ env ∧ WKs Z X es env P ∧ ∀ v H', PostAs Z σ H F O P v H' → Q v H'
theorem pk_Ks : ∀ {es : List Keyword}, PK X es (tKs Z X es)
  | [] => ⟨fun pos pins s σ H Q I ⟨env, F, O, P, b, o, w, q⟩ => pk_nil.run pos pins s σ H Q I (q [] H ⟨F, O, [], env, b, o, .nil, Frm.refl _ _ _, w⟩)⟩
  | ⟨nm, e, kp⟩ :: es => ⟨fun pos pins s σ H Q I ⟨env, F, O, P, b, o, w, q⟩ => by
    have hp := pk_cons (X := X) (nm := nm) (kpos := kp) (pe_A (Z := Z) (e := e)) (pk_Ks (es := es))
    refine hp.run pos pins s σ H Q I ⟨env, F, O, _, b, o, w, ?_⟩
    rintro v1 H1 ⟨F1, O1, a1, env1, b1, o1, st1, fr1, w1⟩
    refine ⟨env1, F1, O1, _, b1, o1, w1, ?_⟩
    rintro vs H2 ⟨F2, O2, as, env2, b2, o2, st2, fr2, w2⟩
    exact q _ _ ⟨F2, O2, a1 :: as, env2, b2, o2, .cons (st1.mono fr2.fz) st2, fr1.trans fr2, w2⟩⟩

/-! ### what an argument is seen as -/
inductive Vw (F H : Hp) : V → D → Prop
  | pure {v : V} {d : D} : Rp F v d → Vw F H v d
  | lst {a : Addr} {xs : List V} {ds : List D} : H a = some (.lst xs) → RpA F xs ds → Vw F H (.ref a) (.list ds)
  | dic {a : Addr} {kvs : List (Key × V)} {ds : List (D × D)} : H a = some (.dK kvs) → RpK F kvs ds → Vw F H (.ref a) (.dict ds)
theorem Vw.rp {v : V} {d : D} (h : Vw F H v d) (s : Same F H) : Rp H v d := by
  cases h with
  | pure r => exact r.mono s
  | lst h r => exact .lst h (r.mono s)
  | dic h r => exact .dic (.inl h) (r.mono s)
def View (a : A) (env : Env) (k : D → Prop) : Prop := match a with
  | .va d => () = () ∧ k d
  | .bor a i p => match getP i p env with
    | some (.lst a' ds) => a' = a ∧ k (.list ds)
    | some (.dic a' kvs) => a' = a ∧ k (.dict (kvs.map fun p => (kD p.1, p.2)))
    | some (.fdc a' kvs) => a' = a ∧ k (.dict (kvs.map fun p => (kD p.1, p.2)))
    | _ => False
theorem View.vw {v : V} {a : A} {k : D → Prop} (h : View a env k) (o : OwE F H O σ env) (st : StA F v a) : ∃ d, Vw F H v d ∧ k d := by
  cases a with
  | va d => exact ⟨d, .pure st, h.2⟩
  | bor a i p =>
    unfold View at h
    simp only at h
    cases hg : getP i p env with
    | none => rw [hg] at h; exact h.elim
    | some u =>
      rw [hg] at h
      obtain ⟨w, ⟨Oj, O', h1, _, _⟩, _⟩ := o.focus hg
      have st : v = .ref a := st
      subst st
      cases h1 with
      | va r => exact h.elim
      | lst h1 r => obtain ⟨rfl, h⟩ := h; exact ⟨_, .lst h1 r, h⟩
      | dic h1 r => obtain ⟨rfl, h⟩ := h; exact ⟨_, .dic h1 r.rpk, h⟩
      | fdc h1 r => obtain ⟨rfl, h⟩ := h; exact ⟨_, .pure (.dic (.inr ⟨_, h1⟩) r.rpk), h⟩
      | ins h1 h2 r => exact h.elim
      | hole => exact h.elim
      | ob h1 st => exact h.elim

/-! ### something new is made; all that was there stays -/
def NewV (F H : Hp) (k : T → Prop) : VK := fun v H' => ∃ F' O' t, Same F F' ∧ Same H H' ∧ Same F' H' ∧ (∀ a, F' a ≠ none → F a ≠ none ∨ H a = none) ∧ O'.Nodup ∧ (∀ a ∈ O', H a = none ∧ F' a = none) ∧ Ow F' H' O' v t ∧ k t
theorem NewV.val {k : T → Prop} {v : V} {d : D} (b : Same F H) (r : Rp F v d) (h : k (.va d)) : NewV F H k v H :=
  ⟨F, [], _, Same.refl _, Same.refl _, b, fun _ z => .inl z, List.nodup_nil, fun _ z => (nomatch z), .va r, h⟩
theorem same_new {H : Hp} {p : Addr} {o : HO} (h : H p = none) : Same H (upd H p o) := fun b x e => by rw [upd_ne (ne_of_none e h)]; exact e
theorem Same.freeF {F H : Hp} (s : Same F H) {p : Addr} (h : H p = none) : F p = none := s.free h
theorem same_upd2 {F H : Hp} (s : Same F H) {p : Addr} {o : HO} : Same (upd F p o) (upd H p o) := fun b x e => by
  by_cases h : b = p
  · subst h; rw [upd_same] at e ⊢; exact e
  · rw [upd_ne h] at e ⊢; exact s b x e
theorem NewV.lst {k : T → Prop} {p : Addr} {xs : List V} {ds : List D} (b : Same F H) (r : RpA F xs ds) (n : H p = none) (h : k (.lst p ds)) : NewV F H k (.ref p) (upd H p (.lst xs)) := by
  refine ⟨F, [p], .lst p ds, Same.refl _, same_new n, b.trans (same_new n), fun _ z => .inl z, List.nodup_cons.mpr ⟨fun z => (nomatch z), List.nodup_nil⟩, fun a ha => ?_, .lst upd_same r, h⟩
  rw [List.mem_singleton.mp ha]
  exact ⟨n, b.free n⟩
theorem NewV.tup {k : T → Prop} {p : Addr} {xs : List V} {ds : List D} (b : Same F H) (r : RpA F xs ds) (n : H p = none) (h : k (.va (.tuple ds))) : NewV F H k (.ref p) (upd H p (.tup xs)) := by
  have nf : F p = none := b.free n
  refine ⟨upd F p (.tup xs), [], .va (.tuple ds), same_new nf, same_new n, same_upd2 b, fun a z => ?_, List.nodup_nil, fun _ z => (nomatch z), .va (.tup upd_same (r.mono (same_new nf))), h⟩
  by_cases e : a = p
  · subst e; exact .inr n
  · rw [upd_ne e] at z; exact .inl z
theorem NewV.post {k : T → Prop} {v : V} {H' : Hp} {P : R → Env → Prop} (h : NewV F H k v H') (b : Bas Z F H O) (o : OwE F H O σ env) (hp : ∀ t, k t → P (.t t) env) : Post Z σ H F O P v H' := by
  obtain ⟨F', O', t, s1, s2, s3, nf, nd, no, ow, p⟩ := h
  have keep : ∀ a ∈ O, H' a = H a := fun a ha => by
    cases q : H a with
    | none => exact absurd q (o.there a ha)
    | some x => exact s2 a x q
  have fr : Frm Tq H F O H' F' (O ++ O') := ⟨s1, fun a x e _ _ => s2 a x e, (fun a e => by
      cases q : H a with
      | none => exact absurd q e
      | some x => rw [s2 a x q]; exact fun z => nomatch z), fun a e => (nf a e).imp_right .inl, fun a ha => (List.mem_append.mp ha).imp_right fun z => (no a z).1, tab_same s2⟩
  refine ⟨F', O ++ O', .t t, env, ⟨s3, List.nodup_append.mpr ⟨b.nd, nd, fun x hx y hy e => ?_⟩, fun a ha => ?_, b.abs.trans fr⟩, ⟨O, O', rfl, o.stay s1 keep, ow⟩, fr, hp t p⟩
  · subst e; exact o.there x hx (no x hy).1
  · rcases List.mem_append.mp ha with ha | ha
    · cases q : F' a with
      | none => rfl
      | some x =>
        rcases nf a (by rw [q]; exact fun z => nomatch z) with z | z
        · exact absurd (b.dis a ha) z
        · exact absurd z (o.there a ha)
    · exact (no a ha).2
end
end QL

/-! QC: rules of expressions. -/
namespace QL
open PySem PySem.Spec PyProof.Rows L2

/-! ### lists of data -/
section
variable {F H : Hp}
theorem RpA.len : ∀ {vs : List V} {ds : List D}, RpA F vs ds → vs.length = ds.length
  | _, _, .nil => rfl
  | _, _, .cons _ r => congrArg (· + 1) r.len
theorem RpA.app : ∀ {vs us : List V} {ds es : List D}, RpA F vs ds → RpA F us es → RpA F (vs ++ us) (ds ++ es)
  | _, _, _, _, .nil, r => r
  | _, _, _, _, .cons h r, r' => .cons h (r.app r')
theorem RpA.get : ∀ {vs : List V} {ds : List D} {i : Nat} {v : V}, RpA F vs ds → vs[i]? = some v → ∃ d, ds[i]? = some d ∧ Rp F v d
  | _, _, _, _, .nil, e => nomatch e
  | _, _, 0, _, .cons h r, e => by cases e; exact ⟨_, rfl, h⟩
  | _, _, i + 1, _, .cons h r, e => r.get (i := i) e
theorem RpA.get' : ∀ {vs : List V} {ds : List D} {i : Nat} {d : D}, RpA F vs ds → ds[i]? = some d → ∃ v, vs[i]? = some v ∧ Rp F v d
  | _, _, _, _, .nil, e => nomatch e
  | _, _, 0, _, .cons h r, e => by cases e; exact ⟨_, rfl, h⟩
  | _, _, i + 1, _, .cons h r, e => r.get' (i := i) e
theorem RpA.take : ∀ {vs : List V} {ds : List D} (n : Nat), RpA F vs ds → RpA F (vs.take n) (ds.take n)
  | _, _, 0, _ => .nil
  | _, _, _ + 1, .nil => .nil
  | _, _, n + 1, .cons h r => .cons h (r.take n)
theorem RpA.drop : ∀ {vs : List V} {ds : List D} (n : Nat), RpA F vs ds → RpA F (vs.drop n) (ds.drop n)
  | _, _, 0, r => r
  | _, _, _ + 1, .nil => .nil
  | _, _, n + 1, .cons _ r => r.drop n
theorem RpA.set {v : V} {d : D} (h : Rp F v d) : ∀ {vs : List V} {ds : List D} (i : Nat), RpA F vs ds → RpA F (vs.set i v) (ds.set i d)
  | _, _, _, .nil => .nil
  | _, _, 0, .cons _ r => .cons h r
  | _, _, i + 1, .cons q r => .cons q (r.set h i)
theorem RpA.rep {vs : List V} {ds : List D} (r : RpA F vs ds) : ∀ k : Nat, RpA F (List.replicate k vs).flatten (List.replicate k ds).flatten
  | 0 => .nil
  | k + 1 => by rw [List.replicate_succ, List.replicate_succ, List.flatten_cons, List.flatten_cons]; exact r.app (r.rep k)
theorem RpA.rev {vs : List V} {ds : List D} (r : RpA F vs ds) : RpA F vs.reverse ds.reverse := by
  induction vs generalizing ds with
  | nil => cases r; exact .nil
  | cons v vs ih => cases r with
    | cons h r => rw [List.reverse_cons, List.reverse_cons]; exact (ih r).app (.cons h .nil)
theorem RpA.ints : ∀ {ns : List Int} {vs : List V}, RpA F vs (ns.map PyData.int) → vs = ns.map V.int
  | [], _, .nil => rfl
  | n :: ns, _, .cons h r => by cases h; rw [r.ints]; rfl
theorem RpA.of_ints : ∀ (ns : List Int), RpA F (ns.map V.int) (ns.map PyData.int)
  | [] => .nil
  | n :: ns => .cons (.int n) (RpA.of_ints ns)
theorem RpA.bls : ∀ {ns : List Bool} {vs : List V}, RpA F vs (ns.map PyData.bool) → vs = ns.map V.bl
  | [], _, .nil => rfl
  | n :: ns, _, .cons h r => by cases h; rw [r.bls]; rfl
theorem RpA.strs : ∀ {ns : List Str} {vs : List V}, RpA F vs (ns.map PyData.str) → vs = ns.map V.str
  | [], _, .nil => rfl
  | n :: ns, _, .cons h r => by cases h; rw [r.strs]; rfl

theorem Vw.int {v : V} {i : Int} (h : Vw F H v (.int i)) : v = .int i := by cases h with | pure r => cases r; rfl
theorem Vw.str {v : V} {i : Str} (h : Vw F H v (.str i)) : v = .str i := by cases h with | pure r => cases r; rfl
theorem Vw.bl {v : V} {i : Bool} (h : Vw F H v (.bool i)) : v = .bl i := by cases h with | pure r => cases r; rfl
theorem Vw.non {v : V} (h : Vw F H v .none) : v = .non := by cases h with | pure r => cases r; rfl
theorem Vw.tup {v : V} {ds : List D} (h : Vw F H v (.tuple ds)) : ∃ a xs, v = .ref a ∧ F a = some (.tup xs) ∧ RpA F xs ds := by
  cases h with | pure r => cases r with | tup h r => exact ⟨_, _, rfl, h, r⟩
theorem Vw.lst' {v : V} {ds : List D} (h : Vw F H v (.list ds)) (s : Same F H) : ∃ a xs, v = .ref a ∧ H a = some (.lst xs) ∧ RpA F xs ds := by
  cases h with
  | pure r => cases r with | lst h r => exact ⟨_, _, rfl, s _ _ h, r⟩
  | lst h r => exact ⟨_, _, rfl, h, r⟩
end

/-! ### names, constants, displays -/
section
variable {Tq : List (Addr × Str)} {Z : Zb Tq} {X : Cx} {e a b c : Expr} {es : List Expr} {env : Env} {pos : Pos} {P : R → Env → Prop}

def varR (env : Env) (i : Nat) (k : R → Prop) : Prop := match env[i]? with
  | some (some (.va d)) => k (.t (.va d))
  | some (some t) => match t.addr with
    | some a => k (.bor a i [])
    | none => False
  | _ => False
theorem w_var (i : Nat) {x : Str} (h : varR env i fun r => P r env) (hN : X.N[i]? = some x := by rfl) (hv : Vis X.env.scope x := by first | exact Or.inl rfl | exact Or.inr (Or.inl rfl) | exact Or.inr (Or.inr rfl))
    (hd : (x == ("__debug__" : Str)) = false := by decide) (hcd : (x == ("__classdict__" : Str)) = false := by decide) : WE Z X (.Name x pos) env P := we_of (pe_var hN hv hd hcd) fun σ H F O b o => by
  unfold varR at h
  cases hi : env[i]? with
  | none => rw [hi] at h; exact h.elim
  | some q =>
    cases q with
    | none => rw [hi] at h; exact h.elim
    | some t =>
      rw [hi] at h
      obtain ⟨w, hw, Oj, O', h1, h2, h3⟩ := o.focusI hi
      refine ⟨w, hw, ?_⟩
      have owned : ∀ a, t.addr = some a → P (.bor a i []) env → Post Z σ H F O P w H := fun a ha p => ⟨F, O, .bor a i [], env, b, ⟨o, h1.ref ha⟩, Frm.refl _ _ _, p⟩
      cases t with
      | va d =>
        cases h1 with
        | va r => exact ⟨F, O, .t _, env, b, ⟨O, [], (List.append_nil O).symm, o, .va r⟩, Frm.refl _ _ _, h⟩
      | lst a ds => exact owned a rfl h
      | dic a ds => exact owned a rfl h
      | fdc a ds => exact owned a rfl h
      | ins a C fs => exact owned a rfl h
      | hole a => exact owned a rfl h
      | ob a φ =>
        cases a with
        | none => exact h.elim
        | some a => exact owned a rfl h
theorem post_val {σ : L2.St} {H F : Hp} {O : List Addr} {v : V} {d : D} (b : Bas Z F H O) (o : OwE F H O σ env) (r : Rp F v d) (h : P (.t (.va d)) env) : Post Z σ H F O P v H :=
  ⟨F, O, .t _, env, b, ⟨O, [], (List.append_nil O).symm, o, .va r⟩, Frm.refl _ _ _, h⟩
theorem w_int {i : Int} {j : Nat} (h : P (.t (.va (.int i))) env) : WE Z X (.Constant (.int i) j pos) env P := we_of pe_int fun σ H F O b o => post_val b o (.int i) h
theorem w_bl {i : Bool} {j : Nat} (h : P (.t (.va (.bool i))) env) : WE Z X (.Constant (.bool i) j pos) env P := we_of pe_bl fun σ H F O b o => post_val b o (.bl i) h
theorem w_str {i : Str} {j : Nat} (h : P (.t (.va (.str i))) env) : WE Z X (.Constant (.str i) j pos) env P := we_of pe_str fun σ H F O b o => post_val b o (.str i) h
theorem w_non {j : Nat} (h : P (.t (.va .none)) env) : WE Z X (.Constant .none j pos) env P := we_of pe_non fun σ H F O b o => post_val b o .non h
/-- a module's constant -/
theorem w_glob {x : Str} {v : V} {u : Value} {d : D} (hm : X.mg x = some u) (r : RelV v u) (q : ∀ F : Hp, Rp F v d) (h : P (.t (.va d)) env) (hg : Gl X x := by rfl) (hd : (x == ("__debug__" : Str)) = false := by decide) : WE Z X (.Name x pos) env P :=
  we_of (pe_glob hg hm r hd) fun σ H F O b o => post_val b o (q F) h

/-- what stands in a display: what a name held is from then on frozen there -/
def absorb : List A → Env → (List D → Env → Prop) → Prop
  | [], env, k => k [] env
  | .va d :: as, env, k => absorb as env fun ds env' => k (d :: ds) env'
  | .bor a i p :: as, env, k => match getP i p env with
    | some t => t.addr = some a ∧ match frzT t with
      | some d => absorb as (setP i p (.va d) env) fun ds env' => k (d :: ds) env'
      | none => False
    | none => False
theorem absorb_ok {Tq : List (Addr × Str)} {Z : Zb Tq} {σ : L2.St} {H : Hp} : ∀ {as : List A} {vs : List V} {F : Hp} {O : List Addr} {env : Env} {k : List D → Env → Prop}, StAs F vs as → Bas Z F H O → OwE F H O σ env → absorb as env k →
    ∃ F' O' ds env', Bas Z F' H O' ∧ OwE F' H O' σ env' ∧ RpA F' vs ds ∧ Frm Tq H F O H F' O' ∧ k ds env'
  | [], _, F, O, env, k, .nil, b, o, h => ⟨F, O, [], env, b, o, .nil, Frm.refl _ _ _, h⟩
  | .va d :: as, _, F, O, env, k, .cons st r, b, o, h => by
    obtain ⟨F', O', ds, env', b', o', r', fr, q⟩ := absorb_ok r b o h
    exact ⟨F', O', d :: ds, env', b', o', .cons (Rp.mono fr.fz st) r', fr, q⟩
  | .bor a i p :: as, _, F, O, env, k, .cons st r, b, o, h => by
    unfold absorb at h
    cases hg : getP i p env with
    | none => rw [hg] at h; exact h.elim
    | some t =>
      rw [hg] at h
      obtain ⟨ha, h⟩ := h
      cases hf : frzT t with
      | none => rw [hf] at h; exact h.elim
      | some d =>
        rw [hf] at h
        obtain ⟨w, ⟨Oj, O', h1, h2, h3⟩, _⟩ := o.focus hg
        have hw := h1.ref ha
        have st : _ = V.ref a := st
        subst st hw
        have b2 : Bas Z F H (O' ++ Oj) := b.perm (h2.trans List.perm_append_comm)
        obtain ⟨b3, s3, k3, fr3⟩ := b2.freeze
        have rp := h1.frz s3 k3 hf
        obtain ⟨O'', q1, q2⟩ := h3 _ H [] (.va d) s3 (fun _ _ => rfl) (.va rp)
        have b4 : Bas Z (frzF F H Oj) H O'' := b3.perm q2.symm
        have fr4 : Frm Tq H F O H (frzF F H Oj) O'' := fr3.perm (fun c => (h2.trans List.perm_append_comm).symm.mem_iff) fun c hc => q2.mem_iff.mp hc
        obtain ⟨F5, O5, ds, env5, b5, o5, r5, fr5, q5⟩ := absorb_ok (r.mono s3) b4 q1 h
        exact ⟨F5, O5, d :: ds, env5, b5, o5, .cons (rp.mono fr5.fz) r5, fr4.trans fr5, q5⟩
theorem w_tup {x1 : _} (h : WAs Z X es env fun as env1 => absorb as env1 fun ds env2 => ds.length ≤ sizeLine ∧ P (.t (.va (.tuple ds))) env2) : WE Z X (.Tuple es x1 pos) env P :=
  we_of (pe_tup pa_As) fun σ H F O b o => ⟨env, F, O, _, b, o, h, fun vs H1 ⟨F1, O1, as, env1, b1, o1, st1, fr1, h1⟩ => by
    obtain ⟨F2, O2, ds, env2, b2, o2, r2, fr2, z, q⟩ := absorb_ok st1 b1 o1 h1
    refine ⟨by rw [r2.len]; exact z, fun p hp => ?_⟩
    exact ((NewV.tup b2.sub r2 hp (k := fun t => t = .va (.tuple ds)) rfl).post b2 o2 (fun t e => by subst e; exact q)).from (fr1.trans fr2)⟩
theorem w_lst (h : WAs Z X es env fun as env1 => absorb as env1 fun ds env2 => ds.length ≤ sizeLine ∧ ∀ p, P (.t (.lst p ds)) env2) : WE Z X (.List es pos) env P :=
  we_of (pe_lst pa_As) fun σ H F O b o => ⟨env, F, O, _, b, o, h, fun vs H1 ⟨F1, O1, as, env1, b1, o1, st1, fr1, h1⟩ => by
    obtain ⟨F2, O2, ds, env2, b2, o2, r2, fr2, z, q⟩ := absorb_ok st1 b1 o1 h1
    refine ⟨by rw [r2.len]; exact z, fun p hp => ?_⟩
    exact ((NewV.lst b2.sub r2 hp (k := fun t => t = .lst p ds) rfl).post b2 o2 (fun t e => by subst e; exact q p)).from (fr1.trans fr2)⟩

/-! ### operators -/
def DOp (X : Cx) (f : Value → Value → Sem Value) (g : D → D → (T → Prop) → Prop) : Prop :=
  ∀ (pins : List (Addr × Obj)) (s : Shared) (σ : L2.St) (H F : Hp) (v1 v2 : V) (u1 u2 : Value) (d1 d2 : D) (k : T → Prop), Inv X pins σ H s → Same F H → Vw F H v1 d1 → Vw F H v2 d2 → RelV v1 u1 → RelV v2 u2 → g d1 d2 k →
    wpAny (model X.prog X.w) X.A (f u1 u2) (EP X pins σ (NewV F H k)) X.xe s
def rD (g : D → D → (T → Prop) → Prop) : R2 := fun x y H Q => ∃ F d1 d2 k, Same F H ∧ Vw F H x d1 ∧ Vw F H y d2 ∧ g d1 d2 k ∧ ∀ v H', NewV F H k v H' → Q v H'
theorem DOp.r {f : Value → Value → Sem Value} {g : D → D → (T → Prop) → Prop} (h : DOp X f g) : OpR X f (rD g) := fun pins s σ H x y v u Q I rx ry ⟨F, d1, d2, k, sF, h1, h2, hg, q⟩ =>
  thn (h pins s σ H F x y v u d1 d2 k I sF h1 h2 rx ry hg) (EP.imp q)
/-- two arguments, then an operation by values -/
def W2 {Tq : List (Addr × Str)} (Z : Zb Tq) (X : Cx) (a b : Expr) (env : Env) (k : D → D → Env → Prop) : Prop := WA Z X a env fun a1 e1 => WA Z X b e1 fun a2 e2 => View a1 e2 fun d1 => View a2 e2 fun d2 => k d1 d2 e2
theorem w2_run {g : D → D → (T → Prop) → Prop} {σ : L2.St} {H F : Hp} {O : List Addr} (b0 : Bas Z F H O) (o : OwE F H O σ env) (h : W2 Z X a b env fun d1 d2 e2 => g d1 d2 fun t => P (.t t) e2) :
    tOp (rD g) (tA Z X a) (tA Z X b) σ H (Post Z σ H F O P) := by
  refine ⟨env, F, O, _, b0, o, h, fun v1 H1 ⟨F1, O1, a1, env1, b1, o1, st1, fr1, h1⟩ => ?_⟩
  refine ⟨env1, F1, O1, _, b1, o1, h1, fun v2 H2 ⟨F2, O2, a2, env2, b2, o2, st2, fr2, h2⟩ => ?_⟩
  obtain ⟨d1, w1, h3⟩ := View.vw h2 o2 (st1.mono fr2.fz)
  obtain ⟨d2, w2, h4⟩ := View.vw h3 o2 st2
  exact ⟨F2, d1, d2, _, b2.sub, w1, w2, h4, fun v H' n => (n.post b2 o2 fun t q => q).from (fr1.trans fr2)⟩
theorem w_bin {op : Operator} {g : D → D → (T → Prop) → Prop} (ho : DOp X (binaryOp op) g) (h : W2 Z X a b env fun d1 d2 e2 => g d1 d2 fun t => P (.t t) e2) : WE Z X (.BinOp a op b pos) env P :=
  we_of (pe_op ho.r pe_A pe_A) fun σ H F O b0 o => w2_run b0 o h
theorem w_cmp {op : CmpOp} {g : D → D → (T → Prop) → Prop} (ho : DOp X (compareOp op) g) (h : W2 Z X a b env fun d1 d2 e2 => g d1 d2 fun t => P (.t t) e2) (hm : behindInMarks op b = false := by first | exact nomark _ | rfl) :
    WE Z X (.Compare a [op] [b] pos) env P := we_of (pe_cmpR ho.r pe_A pe_A hm) fun σ H F O b0 o => w2_run b0 o h
theorem post_bool {σ : L2.St} {H F0 H0 : Hp} {O0 : List Addr} {K : Bool → Env → Prop} {v : V} (h : Post Z σ H0 F0 O0 (fun r e1 => ∃ k, r = .t (.va (.bool k)) ∧ K k e1) v H) : ∃ k F O env, v = .bl k ∧ Bas Z F H O ∧ OwE F H O σ env ∧ Frm Tq H0 F0 O0 H F O ∧ K k env := by
  obtain ⟨F1, O1, r, env1, b1, st, fr1, k, e1, h1⟩ := h
  subst e1
  obtain ⟨O1', O2, rfl, o1, ow⟩ := st
  cases ow with
  | va r =>
    cases r with
    | bl k =>
      rw [List.append_nil] at b1 fr1
      exact ⟨k, F1, O1', env1, rfl, b1, o1, fr1, h1⟩
theorem wt_cmp {op : CmpOp} {g : D → D → (T → Prop) → Prop} {P : Bool → Env → Prop} (ho : DOp X (compareOp op) g) (h : W2 Z X a b env fun d1 d2 e2 => g d1 d2 fun t => ∃ k, t = .va (.bool k) ∧ P k e2) (hm : behindInMarks op b = false := by first | exact nomark _ | rfl) :
    WT Z X (.Compare a [op] [b] pos) env P := wt_of (pt_cmpR ho.r pe_A pe_A hm) fun σ H F O b0 o => by
  refine ⟨env, F, O, _, b0, o, h, fun v1 H1 ⟨F1, O1, a1, env1, b1, o1, st1, fr1, h1⟩ => ?_⟩
  refine ⟨env1, F1, O1, _, b1, o1, h1, fun v2 H2 ⟨F2, O2, a2, env2, b2, o2, st2, fr2, h2⟩ => ?_⟩
  obtain ⟨d1, w1, h3⟩ := View.vw h2 o2 (st1.mono fr2.fz)
  obtain ⟨d2, w2, h4⟩ := View.vw h3 o2 st2
  refine ⟨F2, d1, d2, _, b2.sub, w1, w2, h4, fun v H' n => ?_⟩
  obtain ⟨k, F3, O3, env3, rfl, b3, o3, fr3, p⟩ := post_bool (K := P) (n.post b2 o2 (P := fun r e1 => ∃ k, r = .t (.va (.bool k)) ∧ P k e1) fun t ⟨k, e, q⟩ => ⟨k, by rw [e], q⟩)
  exact ⟨k, rfl, F3, O3, env3, b3, o3, (fr1.trans fr2).trans fr3, p⟩

/-! #### the operations -/
def intD (C : Int → Int → Prop) (f : Int → Int → Int) (d1 d2 : D) (k : T → Prop) : Prop := match d1, d2 with
  | .int i, .int j => C i j ∧ k (.va (.int (f i j)))
  | _, _ => False
theorem dop_int {f : Value → Value → Sem Value} {C : Int → Int → Prop} {g : Int → Int → Int} (h : OpR X f (rI C fun i j => .int (g i j))) : DOp X f (intD C g) := by
  intro pins s σ H F v1 v2 u1 u2 d1 d2 k I sF w1 w2 r1 r2 hg
  cases d1 with
  | int i =>
    cases d2 with
    | int j =>
      cases w1.int
      cases w2.int
      exact h pins s σ H _ _ u1 u2 _ I r1 r2 ⟨i, j, rfl, rfl, hg.1, NewV.val sF (.int _) hg.2⟩
    | _ => exact hg.elim
  | _ => exact hg.elim
def subD : D → D → (T → Prop) → Prop := fun d1 d2 k => match d1, d2 with
  | .int i, .int j => k (.va (.int (i - j)))
  | _, _ => False
theorem dop_sub : DOp X (binaryOp .Sub) subD := by
  intro pins s σ H F v1 v2 u1 u2 d1 d2 k I sF w1 w2 r1 r2 hg
  cases d1 with
  | int i =>
    cases d2 with
    | int j =>
      cases w1.int
      cases w2.int
      exact op_sub pins s σ H _ _ u1 u2 _ I r1 r2 ⟨i, j, rfl, rfl, NewV.val sF (.int _) hg⟩
    | _ => exact hg.elim
  | _ => exact hg.elim
def addD : D → D → (T → Prop) → Prop := fun d1 d2 k => match d1, d2 with
  | .int i, .int j => k (.va (.int (i + j)))
  | .int i, .bool j => k (.va (.int (i + b2i j)))
  | .str x, .str y => x.length + y.length ≤ sizeLine ∧ k (.va (.str (x ++ y)))
  | .tuple xs, .tuple ys => xs.length + ys.length ≤ sizeLine ∧ k (.va (.tuple (xs ++ ys)))
  | .list xs, .list ys => xs.length + ys.length ≤ sizeLine ∧ ∀ p, k (.lst p (xs ++ ys))
  | _, _ => False
theorem dop_add : DOp X (binaryOp .Add) addD := by
  intro pins s σ H F v1 v2 u1 u2 d1 d2 k I sF w1 w2 r1 r2 hg
  cases d1 with
  | int i =>
    cases d2 with
    | int j =>
      cases w1.int
      cases w2.int
      exact op_add pins s σ H _ _ u1 u2 _ I r1 r2 ⟨i, j, rfl, rfl, NewV.val sF (.int _) hg⟩
    | bool j =>
      cases w1.int
      cases w2.bl
      exact op_add_ib pins s σ H _ _ u1 u2 _ I r1 r2 ⟨i, j, rfl, rfl, NewV.val sF (.int _) hg⟩
    | _ => exact hg.elim
  | str i =>
    cases d2 with
    | str j =>
      cases w1.str
      cases w2.str
      exact op_add_str pins s σ H _ _ u1 u2 _ I r1 r2 ⟨i, j, rfl, rfl, hg.1, NewV.val sF (.str _) hg.2⟩
    | _ => exact hg.elim
  | tuple xs =>
    cases d2 with
    | tuple ys =>
      obtain ⟨a, vs, rfl, h1, q1⟩ := w1.tup
      obtain ⟨b, us, rfl, h2, q2⟩ := w2.tup
      refine op_catA pins s σ H _ _ u1 u2 _ I r1 r2 ⟨a, b, vs, us, rfl, rfl, SqT.of (sF _ _ h1), SqT.of (sF _ _ h2), by rw [q1.len, q2.len]; exact hg.1, fun e => ?_, fun _ e => ?_, fun _ _ p hp => ?_⟩
      · subst e
        cases q1
        exact NewV.val sF (.tup h2 q2) hg.2
      · subst e
        cases q2
        refine NewV.val sF (.tup h1 ?_) hg.2
        rw [List.append_nil]
        exact q1
      · exact NewV.tup sF (q1.app q2) hp hg.2
    | _ => exact hg.elim
  | list xs =>
    cases d2 with
    | list ys =>
      obtain ⟨a, vs, rfl, h1, q1⟩ := w1.lst' sF
      obtain ⟨b, us, rfl, h2, q2⟩ := w2.lst' sF
      exact op_cat pins s σ H _ _ u1 u2 _ I r1 r2 ⟨a, b, vs, us, rfl, rfl, h1, h2, by rw [q1.len, q2.len]; exact hg.1, fun p hp => NewV.lst sF (q1.app q2) hp (hg.2 p)⟩
    | _ => exact hg.elim
  | _ => exact hg.elim
/-- * : one factor below 2^64, or both small enough -/
def CMulQ (i j : Int) : Prop := CMul i j ∨ CMulW i j
theorem CMulQ.ok {i j : Int} (h : CMulQ i j) : IntMulOk i j := h.elim CMul.ok CMulW.ok
theorem cmul_l {i j : Int} (h1 : -18446744073709551616 < i) (h2 : i < 18446744073709551616) : CMulQ i j := .inl (.inl ⟨h1, h2⟩)
theorem cmul_r {i j : Int} (h1 : -18446744073709551616 < j) (h2 : j < 18446744073709551616) : CMulQ i j := .inl (.inr ⟨h1, h2⟩)
def mulD : D → D → (T → Prop) → Prop := fun d1 d2 k => match d1, d2 with
  | .int i, .int j => CMulQ i j ∧ k (.va (.int (i * j)))
  | .list xs, .int n => (-(2 ^ 63) ≤ n ∧ n < 2 ^ 63 ∧ xs.length * n.toNat ≤ sizeLine) ∧ ∀ p, k (.lst p (List.replicate n.toNat xs).flatten)
  | _, _ => False
theorem dop_mul : DOp X (binaryOp .Mult) mulD := by
  intro pins s σ H F v1 v2 u1 u2 d1 d2 k I sF w1 w2 r1 r2 hg
  cases d1 with
  | int i =>
    cases d2 with
    | int j =>
      cases w1.int
      cases w2.int
      exact (opI (C := CMulQ) (g := fun i j => i * j) fun _ _ _ _ _ _ _ hc q => mul_int q hc.ok) pins s σ H _ _ u1 u2 _ I r1 r2 ⟨i, j, rfl, rfl, hg.1, NewV.val sF (.int _) hg.2⟩
    | _ => exact hg.elim
  | list xs =>
    cases d2 with
    | int n =>
      cases w2.int
      obtain ⟨a, vs, rfl, h1, q1⟩ := w1.lst' sF
      exact op_rep pins s σ H _ _ u1 u2 _ I r1 r2 ⟨a, n, vs, rfl, rfl, h1, hg.1.1, hg.1.2.1, by rw [q1.len]; exact hg.1.2.2, fun p hp => NewV.lst sF (q1.rep _) hp (hg.2 p)⟩
    | _ => exact hg.elim
  | _ => exact hg.elim
def CPowQ (i j : Int) : Prop := CPow i j ∨ (0 ≤ j ∧ (Builtin.Int.intBits i : Int) * j ≤ 2 ^ 27)
theorem dop_pow : DOp X (binaryOp .Pow) (intD CPowQ fun i j => i ^ j.toNat) := dop_int (opI fun i j _ _ _ _ _ hc q => hc.elim (fun h => pow_int_small h.1 h.2.1 h.2.2 q) fun h => pow_int h.1 h.2 q)
theorem dop_mod : DOp X (binaryOp .Mod) (intD (fun _ j => 0 < j) fun i j => i % j) := dop_int op_mod
def CDivQ (_ j : Int) : Prop := 0 < j ∧ j < 18446744073709551616
theorem cdivq {i j : Int} (h : CDivQ i j) : CDivW i j := wide_div (b := 64) h.1 (by have := h.1; have := h.2; omega) (by decide) (by decide)
theorem dop_fdiv : DOp X (binaryOp .FloorDiv) (intD CDivQ fun i j => i / j) := dop_int (opI fun i j _ _ _ _ _ hc q => by
  have h1 : (0 : Int) < j := hc.1
  exact floordiv_int (by omega) (by rw [Int.fdiv_eq_ediv_of_nonneg i (by omega)]; exact q) (.inl (PyProof.noPylong_of_log2 (cdivq hc).2)))

/-! #### comparisons -/
def cmpI (f : Int → Int → Bool) : D → D → (T → Prop) → Prop := fun d1 d2 k => match d1, d2 with
  | .int i, .int j => k (.va (.bool (f i j)))
  | _, _ => False
theorem dop_cmpI {op : Value → Value → Sem Value} {f : Int → Int → Bool} (h : OpR X op (rI0 fun i j => .bl (f i j))) : DOp X op (cmpI f) := by
  intro pins s σ H F v1 v2 u1 u2 d1 d2 k I sF w1 w2 r1 r2 hg
  cases d1 with
  | int i =>
    cases d2 with
    | int j =>
      cases w1.int
      cases w2.int
      exact h pins s σ H _ _ u1 u2 _ I r1 r2 ⟨i, j, rfl, rfl, NewV.val sF (.bl _) hg⟩
    | _ => exact hg.elim
  | _ => exact hg.elim
theorem dop_lt : DOp X (compareOp .Lt) (cmpI fun i j => decide (i < j)) := dop_cmpI op_lt
theorem dop_le : DOp X (compareOp .LtE) (cmpI fun i j => decide (i ≤ j)) := dop_cmpI op_le
theorem dop_gt : DOp X (compareOp .Gt) (cmpI fun i j => decide (j < i)) := dop_cmpI op_gt
theorem dop_ge : DOp X (compareOp .GtE) (cmpI fun i j => decide (j ≤ i)) := dop_cmpI op_ge
/-- == of data without dicts -/
def eqD : D → D → (T → Prop) → Prop := fun d1 d2 k => match d1, d2 with
  | .int i, .int j => k (.va (.bool (decide (i = j))))
  | .str i, .str j => k (.va (.bool (decide (i = j))))
  | d1, d2 => SeqAt.shaped d1 = true ∧ SeqAt.shaped d2 = true ∧ k (.va (.bool (PyData.eqv d1 d2)))
def neD : D → D → (T → Prop) → Prop := fun d1 d2 k => match d1, d2 with
  | .int i, .int j => k (.va (.bool (!decide (i = j))))
  | .str i, .str j => k (.va (.bool (!decide (i = j))))
  | d1, d2 => SeqAt.shaped d1 = true ∧ SeqAt.shaped d2 = true ∧ k (.va (.bool (!PyData.eqv d1 d2)))
mutual
theorem Rp.reads {pins : List (Addr × Obj)} {σ : L2.St} {H : Hp} {s : Shared} (I : Inv X pins σ H s) : ∀ {v : V} {d : D} {u : Value}, Rp H v d → RelV v u → d.hasDict = false → ∃ as, Reads s.heap u d as
  | _, _, _, .non, r, _ => by cases r; exact ⟨_, .none⟩
  | _, _, _, .bl b, r, _ => by cases r; exact ⟨_, .bool b⟩
  | _, _, _, .int i, r, _ => by obtain ⟨t, rfl⟩ := r; exact ⟨_, .int i t⟩
  | _, _, _, .str i, r, _ => by obtain ⟨t, rfl⟩ := r; exact ⟨_, .str i t⟩
  | _, _, _, .lst h q, r, hd => by
    cases r
    obtain ⟨its, rv, ⟨o, n, ho, hc, _, hs⟩, _⟩ := I.list (SqL.of h)
    obtain ⟨as, hr⟩ := RpA.reads I q rv (by simpa [PyData.hasDict] using hd)
    exact ⟨_, .list ho hc hs hr⟩
  | _, _, _, .tup h q, r, hd => by
    cases r
    obtain ⟨its, rv, ⟨o, ho, hc, n, hs⟩, _⟩ := I.tuple (SqT.of h)
    obtain ⟨as, hr⟩ := RpA.reads I q rv (by simpa [PyData.hasDict] using hd)
    exact ⟨_, .tuple ho hc hs hr⟩
  | _, _, _, .dic h q, r, hd => by simp [PyData.hasDict] at hd
theorem RpA.reads {pins : List (Addr × Obj)} {σ : L2.St} {H : Hp} {s : Shared} (I : Inv X pins σ H s) : ∀ {vs : List V} {ds : List D} {us : List Value}, RpA H vs ds → Vals vs us → PyData.hasDictAll ds = false → ∃ as, ReadsAll s.heap us ds as
  | _, _, _, .nil, r, _ => by cases r; exact ⟨_, .nil⟩
  | _, _, _, .cons h q, r, hd => by
    cases r with
    | cons r1 r2 =>
      rw [PyData.hasDictAll, Bool.or_eq_false_iff] at hd
      obtain ⟨as, q1⟩ := Rp.reads I h r1 hd.1
      obtain ⟨bs, q2⟩ := RpA.reads I q r2 hd.2
      exact ⟨_, .cons q1 q2⟩
end
theorem shaped_noDict {d : D} (h : SeqAt.shaped d = true) : d.hasDict = false := by
  unfold SeqAt.shaped at h
  rw [Bool.and_eq_true] at h
  exact PyData.hasDict_of_canLay d h.1
theorem eqD_gen {F : Hp} (hu : X.A.units + 64 < cLine) {pins : List (Addr × Obj)} {s : Shared} {σ : L2.St} {H : Hp} {v1 v2 : V} {u1 u2 : Value} {d1 d2 : D} {k : T → Prop} (I : Inv X pins σ H s) (sF : Same F H) (w1 : Vw F H v1 d1) (w2 : Vw F H v2 d2)
    (r1 : RelV v1 u1) (r2 : RelV v2 u2) (h1 : SeqAt.shaped d1 = true) (h2 : SeqAt.shaped d2 = true) (q : k (.va (.bool (PyData.eqv d1 d2)))) : wpAny (model X.prog X.w) X.A (compareOp .Eq u1 u2) (EP X pins σ (NewV F H k)) X.xe s := by
  obtain ⟨as, q1⟩ := (w1.rp sF).reads I r1 (shaped_noDict h1)
  obtain ⟨bs, q2⟩ := (w2.rp sF).reads I r2 (shaped_noDict h2)
  exact SeqAt.compareEq_shaped q1 q2 h1 h2 hu ⟨.bl _, H, I, rfl, NewV.val sF (.bl _) q⟩
theorem neD_gen {F : Hp} (hu : X.A.units + 64 < cLine) {pins : List (Addr × Obj)} {s : Shared} {σ : L2.St} {H : Hp} {v1 v2 : V} {u1 u2 : Value} {d1 d2 : D} {k : T → Prop} (I : Inv X pins σ H s) (sF : Same F H) (w1 : Vw F H v1 d1) (w2 : Vw F H v2 d2)
    (r1 : RelV v1 u1) (r2 : RelV v2 u2) (h1 : SeqAt.shaped d1 = true) (h2 : SeqAt.shaped d2 = true) (q : k (.va (.bool (!PyData.eqv d1 d2)))) : wpAny (model X.prog X.w) X.A (compareOp .NotEq u1 u2) (EP X pins σ (NewV F H k)) X.xe s := by
  obtain ⟨as, q1⟩ := (w1.rp sF).reads I r1 (shaped_noDict h1)
  obtain ⟨bs, q2⟩ := (w2.rp sF).reads I r2 (shaped_noDict h2)
  exact SeqAt.compareNe_shaped q1 q2 h1 h2 hu ⟨.bl _, H, I, rfl, NewV.val sF (.bl _) q⟩
theorem scal_ii {i j : Int} : scal (.int i) (.int j) = true := rfl
theorem scal_ss {i j : Str} : scal (.str i) (.str j) = true := rfl
theorem dop_eq (hu : X.A.units + 64 < cLine) : DOp X (compareOp .Eq) eqD := by
  intro pins s σ H F v1 v2 u1 u2 d1 d2 k I sF w1 w2 r1 r2 hg
  unfold eqD at hg
  split at hg
  · cases w1.int
    cases w2.int
    refine op_eq pins s σ H _ _ u1 u2 _ I r1 r2 ⟨rfl, NewV.val sF (.bl _) ?_⟩
    rw [dec_int, ← Bool.beq_eq_decide_eq] at *
    exact hg
  · cases w1.str
    cases w2.str
    refine op_eq pins s σ H _ _ u1 u2 _ I r1 r2 ⟨rfl, NewV.val sF (.bl _) ?_⟩
    rw [dec_str, ← Bool.beq_eq_decide_eq] at *
    exact hg
  · exact eqD_gen hu I sF w1 w2 r1 r2 hg.1 hg.2.1 hg.2.2
theorem dop_ne (hu : X.A.units + 64 < cLine) : DOp X (compareOp .NotEq) neD := by
  intro pins s σ H F v1 v2 u1 u2 d1 d2 k I sF w1 w2 r1 r2 hg
  unfold neD at hg
  split at hg
  · cases w1.int
    cases w2.int
    refine op_ne pins s σ H _ _ u1 u2 _ I r1 r2 ⟨rfl, NewV.val sF (.bl _) ?_⟩
    rw [dec_int, ← Bool.beq_eq_decide_eq] at *
    exact hg
  · cases w1.str
    cases w2.str
    refine op_ne pins s σ H _ _ u1 u2 _ I r1 r2 ⟨rfl, NewV.val sF (.bl _) ?_⟩
    rw [dec_str, ← Bool.beq_eq_decide_eq] at *
    exact hg
  · exact neD_gen hu I sF w1 w2 r1 r2 hg.1 hg.2.1 hg.2.2
/-- is None, is not None -/
def isN (neg : Bool) : D → D → (T → Prop) → Prop := fun d1 d2 k => match d2 with
  | .none => k (.va (.bool (match d1 with | .none => !neg | _ => neg)))
  | _ => False
theorem vnon {F H : Hp} {v : V} {d : D} (w : Vw F H v d) : decide (v = V.non) = (match d with | .none => true | _ => false) := by
  cases w with
  | pure r => cases r <;> rfl
  | lst h r => rfl
  | dic h r => rfl
theorem dop_isN : DOp X (compareOp .Is) (isN false) := by
  intro pins s σ H F v1 v2 u1 u2 d1 d2 k I sF w1 w2 r1 r2 hg
  cases d2 with
  | none =>
    cases w2.non
    refine op_isN pins s σ H _ _ u1 u2 _ I r1 r2 ⟨rfl, NewV.val sF (.bl _) ?_⟩
    rw [vnon w1]
    cases d1 <;> exact hg
  | _ => exact hg.elim
theorem dop_notN : DOp X (compareOp .IsNot) (isN true) := by
  intro pins s σ H F v1 v2 u1 u2 d1 d2 k I sF w1 w2 r1 r2 hg
  cases d2 with
  | none =>
    cases w2.non
    refine op_notN pins s σ H _ _ u1 u2 _ I r1 r2 ⟨rfl, NewV.val sF (.bl _) ?_⟩
    rw [vnon w1]
    cases d1 <;> exact hg
  | _ => exact hg.elim
/-- -a -/
def W1 {Tq : List (Addr × Str)} (Z : Zb Tq) (X : Cx) (a : Expr) (env : Env) (k : D → Env → Prop) : Prop := WA Z X a env fun a1 e1 => View a1 e1 fun d1 => k d1 e1
def negD (d : D) (k : T → Prop) : Prop := match d with
  | .int i => k (.va (.int (-i)))
  | _ => False
theorem w_neg (h : W1 Z X a env fun d e => negD d fun t => P (.t t) e) : WE Z X (.UnaryOp .USub a pos) env P :=
  we_of (pe_un un_neg pe_A) fun σ H F O b0 o => ⟨env, F, O, _, b0, o, h, fun v1 H1 ⟨F1, O1, a1, env1, b1, o1, st1, fr1, h1⟩ => by
    obtain ⟨d1, w1, h3⟩ := View.vw h1 o1 st1
    cases d1 with
    | int i =>
      cases w1.int
      exact ⟨i, rfl, (post_val b1 o1 (.int _) h3).from fr1⟩
    | _ => exact h3.elim⟩

/-! ### tests: and, or, not; conditional expressions -/
variable {PT : Bool → Env → Prop} {rest : List Expr}
theorem ww_and1 (h : WT Z X a env PT) : WW Z X (.BoolOp .And [a] pos) env PT := fun wh pins s σ H F O I b0 o => (pw_and1 (pt_T (e := a))).run wh pins s σ H _ I ⟨env, F, O, _, b0, o, h, fun _ _ q => q⟩
theorem ww_or1 (h : WT Z X a env PT) : WW Z X (.BoolOp .Or [a] pos) env PT := fun wh pins s σ H F O I b0 o => (pw_or1 (pt_T (e := a))).run wh pins s σ H _ I ⟨env, F, O, _, b0, o, h, fun _ _ q => q⟩
theorem pw_W {e : Expr} : PW X e (fun σ H Q => ∃ env F O P, Bas Z F H O ∧ OwE F H O σ env ∧ WW Z X e env P ∧ ∀ v H', PostT Z σ H F O P v H' → Q v H') :=
  ⟨fun wh pins s σ H Q I ⟨env, F, O, P, b, o, w, q⟩ => thn (w wh pins s σ H F O I b o) fun _ _ ⟨H', I', p⟩ => ⟨H', I', q _ _ p⟩⟩
theorem ww_and (h : WT Z X a env fun k e1 => (k = true → WW Z X (.BoolOp .And (b :: rest) pos) e1 PT) ∧ (k = false → PT false e1)) : WW Z X (.BoolOp .And (a :: b :: rest) pos) env PT := fun wh pins s σ H F O I b0 o =>
  (pw_and (pt_T (e := a)) pw_W).run wh pins s σ H _ I ⟨env, F, O, _, b0, o, h, fun k H1 ⟨F1, O1, env1, b1, o1, fr1, h1⟩ => by
    cases k with
    | true => exact iteT ⟨env1, F1, O1, _, b1, o1, h1.1 rfl, fun _ _ q => q.from fr1⟩
    | false => exact iteF ⟨F1, O1, env1, b1, o1, fr1, h1.2 rfl⟩⟩
theorem ww_or (h : WT Z X a env fun k e1 => (k = false → WW Z X (.BoolOp .Or (b :: rest) pos) e1 PT) ∧ (k = true → PT true e1)) : WW Z X (.BoolOp .Or (a :: b :: rest) pos) env PT := fun wh pins s σ H F O I b0 o =>
  (pw_or (pt_T (e := a)) pw_W).run wh pins s σ H _ I ⟨env, F, O, _, b0, o, h, fun k H1 ⟨F1, O1, env1, b1, o1, fr1, h1⟩ => by
    cases k with
    | false => exact iteF ⟨env1, F1, O1, _, b1, o1, h1.1 rfl, fun _ _ q => q.from fr1⟩
    | true => exact iteT ⟨F1, O1, env1, b1, o1, fr1, h1.2 rfl⟩⟩
theorem wt_not (h : WT Z X a env fun k e1 => PT (!k) e1) : WT Z X (.UnaryOp .Not a pos) env PT := wt_of (pt_not (pt_T (e := a))) fun σ H F O b0 o => ⟨env, F, O, _, b0, o, h, fun _ _ q => q⟩
/-- a value that is a bool, as a test -/
theorem wt_val (h : WE Z X e env fun r e1 => ∃ k, r = .t (.va (.bool k)) ∧ PT k e1) (he : ∀ whole, isTrue e X.env whole = (do let v ← whole; standAt e.pos; holding [v] (truthy v)) := by intro _; rfl) : WT Z X e env PT :=
  wt_of (pt_val (pe_E (e := e)) he) fun σ H F O b0 o => ⟨env, F, O, _, b0, o, h, fun v H1 ⟨F1, O1, r, env1, b1, st, fr1, k, e1, h1⟩ => by
    subst e1
    obtain ⟨O1', O2, rfl, o1, ow⟩ := st
    cases ow with
    | va r =>
      cases r with
      | bl k =>
        rw [List.append_nil] at b1 fr1
        exact ⟨k, rfl, F1, O1', env1, b1, o1, fr1, h1⟩⟩
theorem w_ifExp (h : WT Z X c env fun k e1 => (k = true → WE Z X a e1 P) ∧ (k = false → WE Z X b e1 P)) : WE Z X (.IfExp c a b pos) env P :=
  we_of (pe_ifExp (pt_T (e := c)) (pe_E (e := a)) (pe_E (e := b))) fun σ H F O b0 o => ⟨env, F, O, _, b0, o, h, fun k H1 ⟨F1, O1, env1, b1, o1, fr1, h1⟩ => by
    cases k with
    | true => exact iteT ⟨env1, F1, O1, _, b1, o1, h1.1 rfl, fun _ _ q => q.from fr1⟩
    | false => exact iteF ⟨env1, F1, O1, _, b1, o1, h1.2 rfl, fun _ _ q => q.from fr1⟩⟩
/-- and, or, not of bools as values -/
theorem w_one {op : _} (h : WE Z X a env P) : WE Z X (.BoolOp op [a] pos) env P := we_of (pe_one (pe_E (e := a))) fun σ H F O b0 o => ⟨env, F, O, _, b0, o, h, fun _ _ q => q⟩
theorem w_and (h : WE Z X a env fun r e1 => ∃ k, r = .t (.va (.bool k)) ∧ (k = true → WE Z X (.BoolOp .And (b :: rest) pos) e1 P) ∧ (k = false → P (.t (.va (.bool false))) e1)) : WE Z X (.BoolOp .And (a :: b :: rest) pos) env P :=
  we_of (pe_and (pe_E (e := a)) (pe_E (e := .BoolOp .And (b :: rest) pos))) fun σ H F O b0 o => ⟨env, F, O, _, b0, o, h, fun v H1 q => by
    obtain ⟨k, F1, O1, env1, rfl, b1, o1, fr1, h1⟩ := post_bool q
    refine ⟨k, rfl, ?_⟩
    cases k with
    | true => exact iteT ⟨env1, F1, O1, _, b1, o1, h1.1 rfl, fun _ _ q => q.from fr1⟩
    | false => exact iteF ((post_val b1 o1 (.bl _) (h1.2 rfl)).from fr1)⟩
theorem w_or (h : WE Z X a env fun r e1 => ∃ k, r = .t (.va (.bool k)) ∧ (k = false → WE Z X (.BoolOp .Or (b :: rest) pos) e1 P) ∧ (k = true → P (.t (.va (.bool true))) e1)) : WE Z X (.BoolOp .Or (a :: b :: rest) pos) env P :=
  we_of (pe_or (pe_E (e := a)) (pe_E (e := .BoolOp .Or (b :: rest) pos))) fun σ H F O b0 o => ⟨env, F, O, _, b0, o, h, fun v H1 q => by
    obtain ⟨k, F1, O1, env1, rfl, b1, o1, fr1, h1⟩ := post_bool q
    refine ⟨k, rfl, ?_⟩
    cases k with
    | false => exact iteF ⟨env1, F1, O1, _, b1, o1, h1.1 rfl, fun _ _ q => q.from fr1⟩
    | true => exact iteT ((post_val b1 o1 (.bl _) (h1.2 rfl)).from fr1)⟩
theorem w_not (h : WE Z X a env fun r e1 => ∃ k, r = .t (.va (.bool k)) ∧ P (.t (.va (.bool (!k)))) e1) : WE Z X (.UnaryOp .Not a pos) env P :=
  we_of (pe_not (pe_E (e := a))) fun σ H F O b0 o => ⟨env, F, O, _, b0, o, h, fun v H1 q => by
    obtain ⟨k, F1, O1, env1, rfl, b1, o1, fr1, h1⟩ := post_bool q
    exact ⟨k, rfl, (post_val b1 o1 (.bl _) h1).from fr1⟩⟩

end
end QL

/-! QD: statements; defs. -/
namespace QL
open PySem PySem.Spec PyProof.Rows L2

/-! ### slots stored -/
theorem OwE.set {F H : Hp} : ∀ {O : List Addr} {σ : L2.St} {e : Env} {O2 : List Addr} {v : V} {t : T} (i : Nat), OwE F H O σ e → Ow F H O2 v t → i < e.length →
    ∃ O' Od, OwE F H O' (σ.set i (some v)) (e.set i (some t)) ∧ (O2 ++ O).Perm (O' ++ Od)
  | _, _, _, _, _, _, _, .nil, _, h => nomatch h
  | _, _, _, O2, v, t, 0, .un (O := O) r, w, _ => ⟨O2 ++ O, [], .so w r, by rw [List.append_nil]⟩
  | _, _, _, O2, v, t, i + 1, .un (O := O) r, w, h => by
    obtain ⟨O', Od, h1, h2⟩ := OwE.set i r w (Nat.lt_of_succ_lt_succ h)
    exact ⟨O', Od, .un h1, h2⟩
  | _, _, _, O2, v, t, 0, .so (O1 := Oa) (O2 := Ob) _ r, w, _ => ⟨O2 ++ Ob, Oa, .so w r, by rw [List.append_assoc]; exact (List.perm_append_comm (l₁ := Oa) (l₂ := Ob)).append_left O2⟩
  | _, _, _, O2, v, t, i + 1, .so (O1 := Oa) (O2 := Ob) q r, w, h => by
    obtain ⟨O', Od, h1, h2⟩ := OwE.set i r w (Nat.lt_of_succ_lt_succ h)
    refine ⟨Oa ++ O', Od, .so q h1, ?_⟩
    rw [List.append_assoc]
    refine List.Perm.trans ?_ (h2.append_left Oa)
    rw [← List.append_assoc, ← List.append_assoc]
    exact List.perm_append_comm.append_right Ob
theorem OwE.drop {F H : Hp} : ∀ {O : List Addr} {σ : L2.St} {e : Env} (i : Nat), OwE F H O σ e → ∃ O' Od, OwE F H O' σ (e.set i none) ∧ O.Perm (O' ++ Od)
  | _, _, _, _, .nil => ⟨[], [], .nil, List.Perm.refl _⟩
  | _, _, _, 0, .un (O := O) r => ⟨O, [], .un r, by rw [List.append_nil]⟩
  | _, _, _, i + 1, .un r => by
    obtain ⟨O', Od, h1, h2⟩ := OwE.drop i r
    exact ⟨O', Od, .un h1, h2⟩
  | _, _, _, 0, .so (O1 := Oa) (O2 := Ob) _ r => ⟨Ob, Oa, .un r, List.perm_append_comm⟩
  | _, _, _, i + 1, .so (O1 := Oa) (O2 := Ob) q r => by
    obtain ⟨O', Od, h1, h2⟩ := OwE.drop i r
    exact ⟨Oa ++ O', Od, .so q h1, by rw [List.append_assoc]; exact h2.append_left Oa⟩
theorem Bas.dropP {Tq : List (Addr × Str)} {Z : Zb Tq} {F H : Hp} {O O' Od : List Addr} (b : Bas Z F H O) (p : O.Perm (O' ++ Od)) : Bas Z F H O' ∧ Frm Tq H F O H F O' :=
  ⟨(b.perm p).left, (Frm.refl H F O).perm (fun _ => Iff.rfl) fun c hc => p.mem_iff.mpr (List.mem_append_left _ hc)⟩

/-! ### statements -/
inductive Out
  | nx (e : Env)
  | ret (t : T) (e : Env)
  | bk (e : Env)
  | ct (e : Env)
def endsOf {Tq : List (Addr × Str)} (Z : Zb Tq) (H0 F0 : Hp) (O0 : List Addr) (P : Out → Prop) : Ends where
  nx := fun σ H => ∃ F O env, Bas Z F H O ∧ OwE F H O σ env ∧ Frm Tq H0 F0 O0 H F O ∧ P (.nx env)
  rt := fun v H => ∃ F O1 O2 σ t env, Bas Z F H (O1 ++ O2) ∧ OwE F H O1 σ env ∧ Ow F H O2 v t ∧ Frm Tq H0 F0 O0 H F (O1 ++ O2) ∧ P (.ret t env)
  bk := fun σ H => ∃ F O env, Bas Z F H O ∧ OwE F H O σ env ∧ Frm Tq H0 F0 O0 H F O ∧ P (.bk env)
  ct := fun σ H => ∃ F O env, Bas Z F H O ∧ OwE F H O σ env ∧ Frm Tq H0 F0 O0 H F O ∧ P (.ct env)
def WS {Tq : List (Addr × Str)} (Z : Zb Tq) (X : Cx) (st : Stmt) (env : Env) (P : Out → Prop) : Prop :=
  ∀ (pins : List (Addr × Obj)) (s : Shared) (σ : L2.St) (H F : Hp) (O : List Addr), Inv X pins σ H s → Bas Z F H O → OwE F H O σ env →
    wpAny (model X.prog X.w) X.A (exec st X.env) (SP X pins (endsOf Z H F O P)) X.xe s
def WSs {Tq : List (Addr × Str)} (Z : Zb Tq) (X : Cx) (st : List Stmt) (env : Env) (P : Out → Prop) : Prop :=
  ∀ (pins : List (Addr × Obj)) (s : Shared) (σ : L2.St) (H F : Hp) (O : List Addr), Inv X pins σ H s → Bas Z F H O → OwE F H O σ env →
    wpAny (model X.prog X.w) X.A (execs st X.env) (SP X pins (endsOf Z H F O P)) X.xe s
/-- what is wanted, weaker -/
structure EndsLe (D D' : Ends) : Prop where
  nx : ∀ σ H, D.nx σ H → D'.nx σ H
  rt : ∀ v H, D.rt v H → D'.rt v H
  bk : ∀ σ H, D.bk σ H → D'.bk σ H
  ct : ∀ σ H, D.ct σ H → D'.ct σ H
theorem EndsLe.refl (D : Ends) : EndsLe D D := ⟨fun _ _ h => h, fun _ _ h => h, fun _ _ h => h, fun _ _ h => h⟩
theorem SP.le {X : Cx} {pins : List (Addr × Obj)} {D D' : Ends} (l : EndsLe D D') : ∀ f s', SP X pins D f s' → SP X pins D' f s'
  | .next, _, ⟨σ, H, I, q⟩ => ⟨σ, H, I, l.nx _ _ q⟩
  | .brk, _, ⟨σ, H, I, q⟩ => ⟨σ, H, I, l.bk _ _ q⟩
  | .cont, _, ⟨σ, H, I, q⟩ => ⟨σ, H, I, l.ct _ _ q⟩
  | .ret _, _, ⟨v, σ, H, I, r, q⟩ => ⟨v, σ, H, I, r, l.rt _ _ q⟩
theorem endsOf.from {Tq : List (Addr × Str)} {Z : Zb Tq} {H0 F0 H1 F1 : Hp} {O0 O1 : List Addr} {P P' : Out → Prop} (fr : Frm Tq H0 F0 O0 H1 F1 O1) (hp : ∀ o, P o → P' o) : EndsLe (endsOf Z H1 F1 O1 P) (endsOf Z H0 F0 O0 P') :=
  ⟨fun _ _ ⟨F, O, env, b, o, f, p⟩ => ⟨F, O, env, b, o, fr.trans f, hp _ p⟩, fun _ _ ⟨F, O, O2, σ, t, env, b, o, w, f, p⟩ => ⟨F, O, O2, σ, t, env, b, o, w, fr.trans f, hp _ p⟩,
    fun _ _ ⟨F, O, env, b, o, f, p⟩ => ⟨F, O, env, b, o, fr.trans f, hp _ p⟩, fun _ _ ⟨F, O, env, b, o, f, p⟩ => ⟨F, O, env, b, o, fr.trans f, hp _ p⟩⟩
def tS {Tq : List (Addr × Str)} (Z : Zb Tq) (X : Cx) (st : Stmt) : TS := fun D σ H => ∃ env F O P, Bas Z F H O ∧ OwE F H O σ env ∧ WS Z X st env P ∧ EndsLe (endsOf Z H F O P) D
def tSs {Tq : List (Addr × Str)} (Z : Zb Tq) (X : Cx) (st : List Stmt) : TS := fun D σ H => ∃ env F O P, Bas Z F H O ∧ OwE F H O σ env ∧ WSs Z X st env P ∧ EndsLe (endsOf Z H F O P) D
section
variable {Tq : List (Addr × Str)} {Z : Zb Tq} {X : Cx} {e a b c : Expr} {es : List Expr} {env : Env} {pos : Pos} {P : Out → Prop} {st : Stmt} {rest body els : List Stmt}
theorem ps_S : PS X st (tS Z X st) := ⟨fun pins s σ H D I ⟨env, F, O, P, b, o, w, l⟩ => thn (w pins s σ H F O I b o) (SP.le l)⟩
theorem pss_S : PSs X rest (tSs Z X rest) := ⟨fun pins s σ H D I ⟨env, F, O, P, b, o, w, l⟩ => thn (w pins s σ H F O I b o) (SP.le l)⟩
theorem ws_of {t : TS} (h : PS X st t) (w : ∀ σ H F O, Bas Z F H O → OwE F H O σ env → t (endsOf Z H F O P) σ H) : WS Z X st env P := fun pins s σ H F O I b o => h.run pins s σ H _ I (w σ H F O b o)
theorem WS.imp {P' : Out → Prop} (h : WS Z X st env P) (hp : ∀ o, P o → P' o) : WS Z X st env P' := fun pins s σ H F O I b o => thn (h pins s σ H F O I b o) (SP.le (endsOf.from (Frm.refl _ _ _) hp))
theorem WSs.imp {P' : Out → Prop} (h : WSs Z X rest env P) (hp : ∀ o, P o → P' o) : WSs Z X rest env P' := fun pins s σ H F O I b o => thn (h pins s σ H F O I b o) (SP.le (endsOf.from (Frm.refl _ _ _) hp))
theorem wss_nil (h : P (.nx env)) : WSs Z X [] env P := fun pins s σ H F O I b o => pss_nil.run pins s σ H _ I ⟨F, O, env, b, o, Frm.refl _ _ _, h⟩
/-- a statement, then the rest -/
def seqP {Tq : List (Addr × Str)} (Z : Zb Tq) (X : Cx) (rest : List Stmt) (P : Out → Prop) : Out → Prop
  | .nx e => WSs Z X rest e P
  | .ret t e => P (.ret t e)
  | .bk e => P (.bk e)
  | .ct e => P (.ct e)
theorem wss_cons (h : WS Z X st env (seqP Z X rest P)) : WSs Z X (st :: rest) env P := fun pins s σ H F O I b o =>
  (pss_cons (ps_S (Z := Z)) (pss_S (Z := Z))).run pins s σ H _ I ⟨env, F, O, _, b, o, h, ⟨fun σ' H' ⟨F', O', e', b', o', f', p⟩ => ⟨e', F', O', P, b', o', p, endsOf.from f' fun _ q => q⟩, fun _ _ q => q, fun _ _ q => q, fun _ _ q => q⟩⟩
theorem wss_one (h : WS Z X st env P) : WSs Z X [st] env P := fun pins s σ H F O I b o => (pss_one (ps_S (Z := Z))).run pins s σ H _ I ⟨env, F, O, _, b, o, h, EndsLe.refl _⟩
theorem ws_pass (h : P (.nx env)) : WS Z X (.Pass pos) env P := ws_of ps_pass fun σ H F O b o => ⟨F, O, env, b, o, Frm.refl _ _ _, h⟩
theorem ws_break (h : P (.bk env)) : WS Z X (.Break pos) env P := ws_of ps_break fun σ H F O b o => ⟨F, O, env, b, o, Frm.refl _ _ _, h⟩
theorem ws_continue (h : P (.ct env)) : WS Z X (.Continue pos) env P := ws_of ps_continue fun σ H F O b o => ⟨F, O, env, b, o, Frm.refl _ _ _, h⟩
theorem ws_expr (h : WE Z X e env fun _ e1 => P (.nx e1)) (hs : swapsWith e none pos.line X.env = pure false := by rfl) : WS Z X (.Expr e pos) env P := ws_of (ps_expr (pe_E (Z := Z)) hs) fun σ H F O b o =>
  ⟨env, F, O, _, b, o, h, fun v H1 ⟨F1, O1, r, e1, b1, st, fr, p⟩ => by
    cases r with
    | bor a i q => exact ⟨F1, O1, e1, b1, st.1, fr, p⟩
    | t t =>
      obtain ⟨O2, O3, rfl, o2, _⟩ := st
      exact ⟨F1, O2, e1, b1.left, o2, fr.perm (fun _ => Iff.rfl) fun c hc => List.mem_append_left _ hc, p⟩⟩
/-- what is handed back: a thing of its own; what a name alone holds goes away with it -/
def retR (r : R) (env : Env) (k : T → Env → Prop) : Prop := match r with
  | .t t => k t env
  | .bor a i [] => match env[i]? with
    | some (some t) => t.addr = some a ∧ k t (env.set i none)
    | _ => False
  | .bor a i p => match getP i p env with
    | some t => t.addr = some a ∧ match frzT t with
      | some d => k (.va d) (setP i p (.va d) env)
      | none => False
    | none => False
theorem OwE.takeI {F H : Hp} : ∀ {O : List Addr} {σ : L2.St} {e : Env} {i : Nat} {t : T}, OwE F H O σ e → e[i]? = some (some t) → ∃ w O1 O2, OwE F H O1 σ (e.set i none) ∧ Ow F H O2 w t ∧ O.Perm (O1 ++ O2)
  | _, _, _, _, _, .nil, h => nomatch h
  | _, _, _, 0, t, .un r, h => by cases h
  | _, _, _, i + 1, t, .un (O := O) r, h => by
    obtain ⟨w, O1, O2, h1, h2, h3⟩ := OwE.takeI (i := i) r h
    exact ⟨w, O1, O2, .un h1, h2, h3⟩
  | _, _, _, 0, t, .so (O1 := Oa) (O2 := Ob) q r, h => by
    cases h
    exact ⟨_, Ob, Oa, .un r, q, List.perm_append_comm⟩
  | _, _, _, i + 1, t, .so (O1 := Oa) (O2 := Ob) q r, h => by
    obtain ⟨w, O1, O2, h1, h2, h3⟩ := OwE.takeI (i := i) r h
    exact ⟨w, Oa ++ O1, O2, .so q h1, h2, by rw [List.append_assoc]; exact h3.append_left Oa⟩
theorem retR_ok {σ : L2.St} {F H : Hp} {O : List Addr} {v : V} {r : R} {k : T → Env → Prop} (b : Bas Z F H O) (s : StR F H O σ env v r) (h : retR r env k) :
    ∃ F' O1 O2 t e', Bas Z F' H (O1 ++ O2) ∧ OwE F' H O1 σ e' ∧ Ow F' H O2 v t ∧ Frm Tq H F O H F' (O1 ++ O2) ∧ k t e' := by
  cases r with
  | t t =>
    obtain ⟨O1, O2, rfl, o, w⟩ := s
    exact ⟨F, O1, O2, t, env, b, o, w, Frm.refl _ _ _, h⟩
  | bor a i p =>
    obtain ⟨o, rfl⟩ := s
    cases p with
    | nil =>
      unfold retR at h
      simp only at h
      split at h
      · rename_i t e
        obtain ⟨w, O1, O2, h1, h2, h3⟩ := o.takeI e
        have hw := h2.ref h.1
        subst hw
        exact ⟨F, O1, O2, t, _, b.perm h3, h1, h2, (Frm.refl H F O).perm (fun _ => Iff.rfl) fun c hc => h3.mem_iff.mpr hc, h.2⟩
      · exact h.elim
    | cons f p =>
      unfold retR at h
      simp only at h
      cases hg : getP i (f :: p) env with
      | none => rw [hg] at h; exact h.elim
      | some t =>
        rw [hg] at h
        obtain ⟨ha, h⟩ := h
        cases hf : frzT t with
        | none => rw [hf] at h; exact h.elim
        | some d =>
          rw [hf] at h
          obtain ⟨F', O', ds, e', b', o', r', fr, q⟩ := absorb_ok (k := fun ds e' => ∃ d, ds = [d] ∧ k (.va d) e') (.cons (a := .bor a i (f :: p)) rfl .nil) b o (by
            unfold absorb; simp only [hg, hf]; exact ⟨ha, d, rfl, h⟩)
          obtain ⟨d, rfl, q⟩ := q
          cases r' with
          | cons r1 _ => exact ⟨F', O', [], .va d, e', by rw [List.append_nil]; exact b', o', .va r1, by rw [List.append_nil]; exact fr, q⟩
theorem ws_ret (h : WE Z X e env fun r e1 => retR r e1 fun t e2 => P (.ret t e2)) : WS Z X (.Return (some e) pos) env P := ws_of (ps_ret (pe_E (Z := Z))) fun σ H F O b o =>
  ⟨env, F, O, _, b, o, h, fun v H1 ⟨F1, O1, r, e1, b1, st, fr, p⟩ => by
    obtain ⟨F2, O2, O3, t, e2, b2, o2, w2, fr2, q⟩ := retR_ok b1 st p
    exact ⟨F2, O2, O3, σ, t, e2, b2, o2, w2, fr.trans fr2, q⟩⟩
theorem ws_retN (h : P (.ret (.va .none) env)) : WS Z X (.Return none pos) env P := ws_of ps_retN fun σ H F O b o => ⟨F, O, [], σ, _, env, by rw [List.append_nil]; exact b, o, .va .non, by rw [List.append_nil]; exact Frm.refl _ _ _, h⟩
theorem ws_if (h : WT Z X c env fun k e1 => (k = true → WSs Z X body e1 P) ∧ (k = false → WSs Z X els e1 P)) : WS Z X (.If c body els pos) env P :=
  ws_of (ps_if (pt_T (Z := Z)) (pss_S (Z := Z)) (pss_S (Z := Z))) fun σ H F O b o => ⟨env, F, O, _, b, o, h, fun k H1 ⟨F1, O1, e1, b1, o1, fr, p⟩ => by
    cases k with
    | true => exact iteT ⟨e1, F1, O1, P, b1, o1, p.1 rfl, endsOf.from fr fun _ q => q⟩
    | false => exact iteF ⟨e1, F1, O1, P, b1, o1, p.2 rfl, endsOf.from fr fun _ q => q⟩⟩
/-- x = e: a thing of its own, or what is frozen from then on -/
def storeR (r : R) (i : Nat) (env : Env) (k : Env → Prop) : Prop := i < env.length ∧ match r with
  | .t t => k (env.set i (some t))
  | .bor a j p => absorb [.bor a j p] env fun ds e => match ds with
    | [d] => i < e.length ∧ k (e.set i (some (.va d)))
    | _ => False
theorem storeR_ok {σ : L2.St} {F H : Hp} {O : List Addr} {v : V} {r : R} {i : Nat} {k : Env → Prop} (b : Bas Z F H O) (s : StR F H O σ env v r) (h : storeR r i env k) :
    ∃ F' O' e', Bas Z F' H O' ∧ OwE F' H O' (σ.set i (some v)) e' ∧ Frm Tq H F O H F' O' ∧ k e' := by
  obtain ⟨hi, h⟩ := h
  cases r with
  | t t =>
    obtain ⟨O1, O2, rfl, o, w⟩ := s
    obtain ⟨O', Od, h1, h2⟩ := o.set i w hi
    obtain ⟨b', fr⟩ := b.dropP (List.perm_append_comm.trans h2)
    exact ⟨F, O', _, b', h1, fr, h⟩
  | bor a j p =>
    obtain ⟨o, rfl⟩ := s
    obtain ⟨F', O1, ds, e1, b1, o1, r1, fr1, q⟩ := absorb_ok (.cons (a := .bor a j p) rfl .nil) b o h
    cases r1 with
    | cons r1 r2 =>
      cases r2
      obtain ⟨hi', q⟩ := q
      obtain ⟨O', Od, h1, h2⟩ := o1.set i (.va r1) hi'
      obtain ⟨b', fr⟩ := b1.dropP h2
      exact ⟨F', O', _, b', h1, fr1.trans fr, q⟩
theorem ws_set (i : Nat) {x : Str} {pos' : Pos} (h : WE Z X e env fun r e1 => storeR r i e1 fun e2 => P (.nx e2)) (hN : X.N.Nodup) (hi : X.N[i]? = some x := by rfl) (hx : Loc X.env.scope x := by first | exact Or.inl rfl | exact Or.inr rfl) (hs : swapsWith e (some (.Name x pos')) pos.line X.env = pure false := by rfl)
    (hf : X.fn x = true ∨ X.env.scope.names.lookup x = some .local := by first | exact .inl rfl | exact .inr rfl) : WS Z X (.Assign [.Name x pos'] e pos) env P :=
  ws_of (ps_set hN hi hx (pe_E (Z := Z)) hs hf) fun σ H F O b o => ⟨env, F, O, _, b, o, h, fun v H1 ⟨F1, O1, r, e1, b1, st, fr, p⟩ => by
    obtain ⟨F2, O2, e2, b2, o2, fr2, q⟩ := storeR_ok b1 st p
    exact ⟨F2, O2, e2, b2, o2, fr.trans fr2, q⟩⟩
/-- x op= e -/
theorem ws_aug (i : Nat) {x : Str} {pos' : Pos} {op : Operator} {g : D → D → (T → Prop) → Prop} (ho : DOp X (inplaceOp op) g)
    (h : ∃ d0, env[i]? = some (some (.va d0)) ∧ WA Z X e env fun a2 e2 => View a2 e2 fun d2 => i < e2.length ∧ g d0 d2 fun t => P (.nx (e2.set i (some t)))) (hN : X.N.Nodup) (hi : X.N[i]? = some x := by rfl) (hx : Loc X.env.scope x := by first | exact Or.inl rfl | exact Or.inr rfl)
    (hf : X.fn x = true ∨ X.env.scope.names.lookup x = some .local := by first | exact .inl rfl | exact .inr rfl) : WS Z X (.AugAssign (.Name x pos') op e pos) env P := by
  obtain ⟨d0, e0, h⟩ := h
  have hp : PIp X op (rD g) := fun pins s σ H x y v u Q I r1 r2 q => ho.r pins s σ H x y v u Q I r1 r2 q
  refine ws_of (ps_aug hN hi hx (pe_A (Z := Z)) hp hf) fun σ H F O b o => ?_
  obtain ⟨w, hw, Oj, O', h1, h2, h3⟩ := o.focusI e0
  cases h1 with
  | va r0 =>
    refine ⟨w, hw, env, F, O, _, b, o, h, fun v2 H2 ⟨F2, O2, a2, e2, b2, o2, st2, fr2, p⟩ => ?_⟩
    obtain ⟨d2, w2, hl, hg⟩ := View.vw p o2 st2
    refine ⟨F2, d0, d2, _, b2.sub, .pure (r0.mono fr2.fz), w2, hg, fun v3 H3 n => ?_⟩
    obtain ⟨F3, O3, r3, e3, b3, st3, fr3, t, er, e3e, q⟩ := n.post b2 o2 (P := fun r e => ∃ t, r = .t t ∧ e = e2 ∧ P (.nx (e2.set i (some t)))) fun t q => ⟨t, rfl, rfl, q⟩
    subst er e3e
    obtain ⟨F4, O4, e4, b4, o4, fr4, q4⟩ := storeR_ok (i := i) (k := fun e => P (.nx e)) b3 st3 ⟨hl, q⟩
    exact ⟨F4, O4, e4, b4, o4, (fr2.trans fr3).trans fr4, q4⟩

/-! ### while -/
def loopP (P : Out → Prop) (N : Env → Prop) : Out → Prop
  | .nx e => N e
  | .ct e => N e
  | .bk e => P (.nx e)
  | .ret t e => P (.ret t e)
theorem loop_le {H0 F0 H1 F1 : Hp} {O0 O1 : List Addr} (fr : Frm Tq H0 F0 O0 H1 F1 O1) {N : Env → Prop} {Nh : L2.St → Hp → Prop} (hn : ∀ σ H F O env, Bas Z F H O → OwE F H O σ env → Frm Tq H1 F1 O1 H F O → N env → Nh σ H) :
    EndsLe (endsOf Z H1 F1 O1 (loopP P N)) { endsOf Z H0 F0 O0 P with nx := Nh, ct := Nh, bk := (endsOf Z H0 F0 O0 P).nx } :=
  ⟨fun _ _ ⟨F, O, env, b, o, f, p⟩ => hn _ _ F O env b o f p, fun _ _ ⟨F, O, O2, σ, t, env, b, o, w, f, p⟩ => ⟨F, O, O2, σ, t, env, b, o, w, fr.trans f, p⟩,
    fun _ _ ⟨F, O, env, b, o, f, p⟩ => ⟨F, O, env, b, o, fr.trans f, p⟩, fun _ _ ⟨F, O, env, b, o, f, p⟩ => hn _ _ F O env b o f p⟩
theorem ws_while (I : Nat → Env → Prop) (m : Nat) (h0 : I m env) (hs : ∀ m env, I m env → WT Z X c env fun k e1 => (k = true → WSs Z X body e1 (loopP P fun e => ∃ m', m' < m ∧ I m' e)) ∧ (k = false → P (.nx e1)))
    (hp : PassesOwn (model X.prog X.w) X.A X.env X.xe) : WS Z X (.While c body [] pos) env P :=
  ws_of (ps_while hp (pt_T (Z := Z)) (pss_S (Z := Z))) fun σ0 H0 F0 O0 b0 o0 => by
    refine ⟨fun m σ H => ∃ F O env, Bas Z F H O ∧ OwE F H O σ env ∧ Frm Tq H0 F0 O0 H F O ∧ I m env, ⟨m, F0, O0, env, b0, o0, Frm.refl _ _ _, h0⟩, ?_⟩
    rintro m σ H ⟨F, O, env, b, o, fr, hI⟩
    refine ⟨env, F, O, _, b, o, hs m env hI, fun k H1 ⟨F1, O1, e1, b1, o1, fr1, p⟩ => ?_⟩
    cases k with
    | true =>
      refine iteT ⟨fun σ' H' => ∃ m', m' < m ∧ ∃ F O env, Bas Z F H' O ∧ OwE F H' O σ' env ∧ Frm Tq H0 F0 O0 H' F O ∧ I m' env, fun σ' H' ⟨m', hm, q⟩ => ⟨m', hm, q⟩, e1, F1, O1, _, b1, o1, p.1 rfl, ?_⟩
      refine loop_le (fr.trans fr1) ?_
      rintro σ2 H2 F2 O2 e2 b2 o2 f2 ⟨m', hm, q⟩
      exact ⟨m', hm, F2, O2, e2, b2, o2, (fr.trans fr1).trans f2, q⟩
    | false => exact iteF ⟨F1, O1, e1, b1, o1, fr.trans fr1, p.2 rfl⟩
end
end QL

/-! QE: targets, for, comprehensions. -/
namespace QL
open PySem PySem.Spec PyProof.Rows L2

theorem Bas.grow {Tq : List (Addr × Str)} {Z : Zb Tq} {F H F' H' : Hp} {O : List Addr} {σ : L2.St} {env : Env} (b : Bas Z F H O) (o : OwE F H O σ env) (s1 : Same F F') (s2 : Same H H') (s3 : Same F' H') (nf : ∀ a, F' a ≠ none → F a ≠ none ∨ H a = none) :
    Bas Z F' H' O ∧ OwE F' H' O σ env ∧ Frm Tq H F O H' F' O := by
  have keep : ∀ a ∈ O, H' a = H a := fun a ha => by
    cases q : H a with
    | none => exact absurd q (o.there a ha)
    | some x => exact s2 a x q
  have fr : Frm Tq H F O H' F' O := ⟨s1, fun a x e _ _ => s2 a x e, (fun a e => by
      cases q : H a with
      | none => exact absurd q e
      | some x => rw [s2 a x q]; exact fun z => nomatch z), fun a e => (nf a e).imp_right .inl, fun a ha => .inl ha, tab_same s2⟩
  refine ⟨⟨s3, b.nd, fun a ha => ?_, b.abs.trans fr⟩, o.stay s1 keep, fr⟩
  cases q : F' a with
  | none => rfl
  | some x =>
    rcases nf a (by rw [q]; exact fun z => nomatch z) with z | z
    · exact absurd (b.dis a ha) z
    · exact absurd z (o.there a ha)

/-! ### targets -/
theorem wipe_get {σ : L2.St} {i : Nat} : ∀ {vs : List Nat}, (wipe σ vs)[i]? = if i ∈ vs then (if i < σ.length then some none else none) else σ[i]?
  | [] => by simp [wipe]
  | v :: vs => by
    unfold wipe
    rw [List.getElem?_set, wipe_length, wipe_get (vs := vs)]
    by_cases e : v = i
    · subst e; simp
    · rw [if_neg e]
      have : (i ∈ v :: vs) ↔ i ∈ vs := by simp [Ne.symm e]
      simp only [this]
theorem wipe_set {σ : L2.St} {i : Nat} {x : Option V} {vs : List Nat} (h : i ∈ vs) : wipe (σ.set i x) vs = wipe σ vs := by
  apply List.ext_getElem?
  intro j
  rw [wipe_get, wipe_get, List.length_set]
  by_cases e : j ∈ vs
  · rw [if_pos e, if_pos e]
  · rw [if_neg e, if_neg e, List.getElem?_set_ne (fun z => e (by rw [← z]; exact h))]
theorem wipe_wipe {σ : L2.St} {vs : List Nat} : wipe (wipe σ vs) vs = wipe σ vs := by
  apply List.ext_getElem?
  intro j
  rw [wipe_get, wipe_get, wipe_length]
  by_cases e : j ∈ vs
  · rw [if_pos e, if_pos e]
  · rw [if_neg e, if_neg e]
def wipeE (env : Env) : List Nat → Env
  | [] => env
  | v :: vs => (wipeE env vs).set v none
theorem OwE.none_any {F H : Hp} : ∀ {O : List Addr} {σ σ' : L2.St} {e : Env}, OwE F H O σ e → σ'.length = σ.length → (∀ i : Nat, e[i]? ≠ some none → σ'[i]? = σ[i]?) → OwE F H O σ' e
  | _, _, [], _, .nil, _, _ => .nil
  | _, _, _ :: _, _, .nil, l, _ => nomatch l
  | _, _, [], _, .un r, l, _ => nomatch l
  | _, _, x :: σ', _, .un r, l, h => .un (r.none_any (Nat.succ.inj l) fun i hi => h (i + 1) hi)
  | _, _, [], _, .so q r, l, _ => nomatch l
  | _, _, x :: σ', _, .so q r, l, h => by
    have e : x = some _ := Option.some.inj (h 0 fun z => nomatch z)
    subst e
    exact .so q (r.none_any (Nat.succ.inj l) fun i hi => h (i + 1) hi)
theorem OwE.wipeO {F H : Hp} {O : List Addr} {σ : L2.St} {e : Env} (o : OwE F H O σ e) : ∀ vs : List Nat, ∃ O' Od, OwE F H O' σ (wipeE e vs) ∧ O.Perm (O' ++ Od)
  | [] => ⟨O, [], o, by rw [List.append_nil]⟩
  | v :: vs => by
    obtain ⟨O1, Od1, h1, h2⟩ := o.wipeO vs
    obtain ⟨O2, Od2, h3, h4⟩ := h1.drop v
    exact ⟨O2, Od2 ++ Od1, h3, by rw [← List.append_assoc]; exact h2.trans (h4.append_right Od1)⟩
theorem wipeE_get {env : Env} {i : Nat} : ∀ {vs : List Nat}, (wipeE env vs)[i]? = if i ∈ vs then (if i < env.length then some none else none) else env[i]?
  | [] => by simp [wipeE]
  | v :: vs => by
    have hl : ∀ ws : List Nat, (wipeE env ws).length = env.length := fun ws => by
      induction ws with
      | nil => rfl
      | cons w ws ih => unfold wipeE; rw [List.length_set, ih]
    unfold wipeE
    rw [List.getElem?_set, hl, wipeE_get (vs := vs)]
    by_cases e : v = i
    · subst e; simp
    · rw [if_neg e]
      have : (i ∈ v :: vs) ↔ i ∈ vs := by simp [Ne.symm e]
      simp only [this]
/-- the slots of a block's names: what stands there does not matter -/
theorem OwE.wiped {F H : Hp} {O : List Addr} {σ σ' : L2.St} {e : Env} {vs : List Nat} (o : OwE F H O σ (wipeE e vs)) (h : wipe σ' vs = wipe σ vs) : OwE F H O σ' (wipeE e vs) := by
  have hl : σ'.length = σ.length := by have := congrArg List.length h; rw [wipe_length, wipe_length] at this; exact this
  have hw : (wipeE e vs).length = e.length := by
    clear o h hl
    induction vs with
    | nil => rfl
    | cons w ws ih => unfold wipeE; rw [List.length_set, ih]
  refine o.none_any hl fun i hi => ?_
  have g := congrArg (fun l => l[i]?) h
  simp only [wipe_get] at g
  by_cases z : i ∈ vs
  · rw [wipeE_get, if_pos z] at hi
    by_cases y : i < e.length
    · rw [if_pos y] at hi; exact absurd rfl hi
    · have q := o.len
      rw [hw] at q
      rw [List.getElem?_eq_none (by omega), List.getElem?_eq_none (by omega)]
  · rw [if_neg z, if_neg z] at g
    exact g

abbrev TF := D → Env → (Env → Prop) → Prop
abbrev TFs := List D → Env → (Env → Prop) → Prop
/-- a target's store, over data; ix: its names' slots -/
def GOk {Tq : List (Addr × Str)} (Z : Zb Tq) (g : TG) (f : TF) (ix : List Nat) : Prop := ∀ (v : V) (d : D) (σ : L2.St) (H F : Hp) (O : List Addr) (env : Env) (k : Env → Prop) (Q : L2.St → Hp → Prop), Bas Z F H O → OwE F H O σ env → Rp F v d → f d env k →
  (∀ σ' O' e', Bas Z F H O' → OwE F H O' σ' e' → (∀ a ∈ O', a ∈ O) → (∀ vs : List Nat, (∀ i ∈ ix, i ∈ vs) → wipe σ' vs = wipe σ vs) → k e' → Q σ' H) → g v σ H Q
def GsOk {Tq : List (Addr × Str)} (Z : Zb Tq) (g : TGs) (f : TFs) (ix : List Nat) : Prop := ∀ (v : List V) (d : List D) (σ : L2.St) (H F : Hp) (O : List Addr) (env : Env) (k : Env → Prop) (Q : L2.St → Hp → Prop), Bas Z F H O → OwE F H O σ env → RpA F v d → f d env k →
  (∀ σ' O' e', Bas Z F H O' → OwE F H O' σ' e' → (∀ a ∈ O', a ∈ O) → (∀ vs : List Nat, (∀ i ∈ ix, i ∈ vs) → wipe σ' vs = wipe σ vs) → k e' → Q σ' H) → g v σ H Q
def fName (i : Nat) : TF := fun d env k => i < env.length ∧ k (env.set i (some (.va d)))
def fNil : TFs := fun ds env k => ds = [] ∧ k env
def fCons (f : TF) (fs : TFs) : TFs := fun ds env k => match ds with
  | d :: r => f d env fun e => fs r e k
  | [] => False
def fTup (n : Nat) (fs : TFs) : TF := fun d env k => match d with
  | .tuple ds => ds.length = n ∧ fs ds env k
  | _ => False
theorem gok_name {Tq : List (Addr × Str)} {Z : Zb Tq} (i : Nat) : GOk Z (gName i) (fName i) [i] := fun v d σ H F O env k Q b o r h q => by
  obtain ⟨O', Od, h1, h2⟩ := o.set i (.va r) h.1
  obtain ⟨b', fr⟩ := b.dropP h2
  exact q _ O' _ b' h1 (fun a ha => h2.mem_iff.mpr (List.mem_append_left _ ha)) (fun vs hv => wipe_set (hv i (List.mem_singleton.mpr rfl))) h.2
theorem gsok_nil {Tq : List (Addr × Str)} {Z : Zb Tq} : GsOk Z gNil fNil [] := fun v d σ H F O env k Q b o r h q => by
  obtain ⟨rfl, h⟩ := h
  cases r
  exact ⟨rfl, q σ O env b o (fun _ z => z) (fun _ _ => rfl) h⟩
theorem gsok_cons {Tq : List (Addr × Str)} {Z : Zb Tq} {g : TG} {gs : TGs} {f : TF} {fs : TFs} {ix ixs : List Nat} (h1 : GOk Z g f ix) (h2 : GsOk Z gs fs ixs) : GsOk Z (gCons g gs) (fCons f fs) (ix ++ ixs) := fun v d σ H F O env k Q b o r h q => by
  cases r with
  | nil => exact h.elim
  | cons r1 r2 =>
    refine ⟨_, _, rfl, h1 _ _ σ H F O env _ _ b o r1 h fun σ1 O1 e1 b1 o1 s1 w1 h => ?_⟩
    refine h2 _ _ σ1 H F O1 e1 k _ b1 o1 r2 h fun σ2 O2 e2 b2 o2 s2 w2 h => ?_
    exact q σ2 O2 e2 b2 o2 (fun a ha => s1 a (s2 a ha)) (fun vs hv => (w2 vs fun i hi => hv i (List.mem_append_right _ hi)).trans (w1 vs fun i hi => hv i (List.mem_append_left _ hi))) h
theorem gok_tup {Tq : List (Addr × Str)} {Z : Zb Tq} {K : PySem.W.Frag} {n : Nat} {gs : TGs} {fs : TFs} {ix : List Nat} (h1 : GsOk Z gs fs ix) : GOk Z (gTup K n gs) (fTup n fs) ix := fun v d σ H F O env k Q b o r h q => by
  cases d with
  | tuple ds =>
    cases r with
    | tup hF r =>
      exact ⟨_, _, rfl, SqT.of (b.sub _ _ hF), by rw [r.len]; exact h.1, h1 _ _ σ H F O env k Q b o r h.2 q⟩
  | _ => exact h.elim

section
variable {Tq : List (Addr × Str)} {Z : Zb Tq} {X : Cx} {e a b c tg iter elt : Expr} {es : List Expr} {env : Env} {pos : Pos} {P : Out → Prop} {PR : R → Env → Prop} {body : List Stmt}

/-- target = e, e a tuple -/
theorem ws_asg {g : TG} {f : TF} {ix : List Nat} (hg : PG X tg g) (gk : GOk Z g f ix) (h : WE Z X e env fun r e1 => ∃ d, r = .t (.va d) ∧ f d e1 fun e2 => P (.nx e2)) (hs : swapsWithSole [tg] e pos.line X.env = pure false := by rfl) (hw : swappedStores [tg] e X.env = pure none := by rfl)
    (h1 : (assignEach [tg] X.env).map (·.2) = [assign tg X.env] := by rfl) : WS Z X (.Assign [tg] e pos) env P :=
  ws_of (ps_asg (pe_E (Z := Z)) hg hs hw h1) fun σ H F O b o => ⟨env, F, O, _, b, o, h, fun v H1 ⟨F1, O1, r, e1, b1, st, fr, d, er, p⟩ => by
    subst er
    obtain ⟨O2, O3, rfl, o1, w⟩ := st
    cases w with
    | va r =>
      rw [List.append_nil] at b1 fr
      refine gk v d σ H1 F1 O2 e1 _ _ b1 o1 r p fun σ2 O4 e2 b2 o2 s2 _ q => ⟨F1, O4, e2, b2, o2, fr.perm (fun _ => Iff.rfl) s2, q⟩⟩

/-! ### what is walked -/
def Gives (J : It) (ds : List D) (F1 : Hp) : Prop := ∀ (F' H' : Hp), Same F1 F' → Same F' H' → ∀ i : Nat,
  (∀ d, ds[i]? = some d → J.go i H' ∧ ∀ x H'', J.yld i H' x H'' → ∃ F'', Rp F'' x d ∧ Same F' F'' ∧ Same H' H'' ∧ Same F'' H'' ∧ ∀ a, F'' a ≠ none → F' a ≠ none ∨ H' a = none) ∧ (ds[i]? = none → J.stop i H')
def WI {Tq : List (Addr × Str)} (Z : Zb Tq) (X : Cx) (tg iter : Expr) (env : Env) (P : List D → Env → Prop) : Prop :=
  ∀ (pins : List (Addr × Obj)) (s : Shared) (σ : L2.St) (H F : Hp) (O : List Addr), Inv X pins σ H s → Bas Z F H O → OwE F H O σ env →
    wpAny (model X.prog X.w) X.A (eval iter X.env) (fun v s1 => wpAny (model X.prog X.w) X.A (pyIter v) (PIE X pins σ tg fun J H1 => ∃ F1 O1 ds e1, Bas Z F1 H1 O1 ∧ OwE F1 H1 O1 σ e1 ∧ Frm Tq H F O H1 F1 O1 ∧ Gives J ds F1 ∧ P ds e1) X.xe s1) X.xe s
def tI {Tq : List (Addr × Str)} (Z : Zb Tq) (X : Cx) (tg iter : Expr) : TI := fun σ H Rr => ∃ env F O P, Bas Z F H O ∧ OwE F H O σ env ∧ WI Z X tg iter env P ∧
  ∀ J H1 F1 O1 ds e1, Bas Z F1 H1 O1 → OwE F1 H1 O1 σ e1 → Frm Tq H F O H1 F1 O1 → Gives J ds F1 → P ds e1 → Rr J H1
theorem PIE.imp {pins : List (Addr × Obj)} {σ : L2.St} {R1 R2 : It → Hp → Prop} (h : ∀ J H1, R1 J H1 → R2 J H1) : ∀ v s, PIE X pins σ tg R1 v s → PIE X pins σ tg R2 v s := fun _ _ ⟨it, fp, tn, J, H', e, I, T, t0, f, q⟩ => ⟨it, fp, tn, J, H', e, I, T, t0, f, h _ _ q⟩
theorem pi_I : PI X tg iter (tI Z X tg iter) := ⟨fun pins s σ H Rr I ⟨env, F, O, P, b, o, w, q⟩ =>
  thn (w pins s σ H F O I b o) fun v s1 h => thn h (PIE.imp fun J H1 ⟨F1, O1, ds, e1, b1, o1, fr, g, p⟩ => q J H1 F1 O1 ds e1 b1 o1 fr g p)⟩
theorem wi_of {wi : TI} {P : List D → Env → Prop} (h : PI X tg iter wi) (w : ∀ σ H F O, Bas Z F H O → OwE F H O σ env → wi σ H fun J H1 => ∃ F1 O1 ds e1, Bas Z F1 H1 O1 ∧ OwE F1 H1 O1 σ e1 ∧ Frm Tq H F O H1 F1 O1 ∧ Gives J ds F1 ∧ P ds e1) : WI Z X tg iter env P :=
  fun pins s σ H F O I b o => h.run pins s σ H _ I (w σ H F O b o)
theorem gives_list {K : PySem.W.Frag} {a : Addr} {xs : List V} {ds : List D} {F : Hp} (h : F a = some (.lst xs)) (r : RpA F xs ds) : Gives (Itl K a) ds F := fun F' H' s1 s2 i => by
  have hq : SqL K H' a xs := SqL.of (s2 _ _ (s1 _ _ h))
  refine ⟨fun d hd => ?_, fun hn => ?_⟩
  · obtain ⟨v, hv, rv⟩ := r.get' hd
    refine ⟨⟨xs, v, hq, hv⟩, fun x H'' ⟨e, q⟩ => ?_⟩
    subst e
    have := (q xs hq).symm.trans hv
    cases this
    exact ⟨F', rv.mono s1, Same.refl _, Same.refl _, s2, fun _ z => .inl z⟩
  · exact ⟨xs, hq, by rw [r.len]; exact List.getElem?_eq_none_iff.mp hn⟩
theorem gives_tup {K : PySem.W.Frag} {a : Addr} {xs : List V} {ds : List D} {F : Hp} (h : F a = some (.tup xs)) (r : RpA F xs ds) : Gives (Itt K a) ds F := fun F' H' s1 s2 i => by
  have hq : SqT K H' a xs := SqT.of (s2 _ _ (s1 _ _ h))
  refine ⟨fun d hd => ?_, fun hn => ?_⟩
  · obtain ⟨v, hv, rv⟩ := r.get' hd
    refine ⟨⟨xs, v, hq, hv⟩, fun x H'' ⟨e, q⟩ => ?_⟩
    subst e
    have := (q xs hq).symm.trans hv
    cases this
    exact ⟨F', rv.mono s1, Same.refl _, Same.refl _, s2, fun _ z => .inl z⟩
  · exact ⟨xs, hq, by rw [r.len]; exact List.getElem?_eq_none_iff.mp hn⟩
def tupOf (ds : List D) (k : List D → Prop) : Prop := match ds with
  | [.tuple xs] => k xs
  | _ => False
def lstOf (ds : List D) (k : List D → Prop) : Prop := match ds with
  | [.list xs] => k xs
  | _ => False
/-- for x in a tuple -/
theorem wi_tup {P : List D → Env → Prop} (h : WA Z X iter env fun a e1 => absorb [a] e1 fun ds e2 => tupOf ds fun xs => P xs e2) : WI Z X tg iter env P :=
  wi_of (pi_tup (pe_A (Z := Z))) fun σ H F O b o => ⟨env, F, O, _, b, o, h, fun v H1 ⟨F1, O1, a, e1, b1, o1, st, fr, p⟩ => by
    obtain ⟨F2, O2, ds, e2, b2, o2, r2, fr2, q⟩ := absorb_ok (.cons st .nil) b1 o1 p
    cases r2 with
    | cons r rr =>
      cases rr
      unfold tupOf at q
      split at q
      · rename_i xs e
        cases e
        cases r with
        | tup h1 r1 => exact ⟨_, rfl, ⟨_, SqT.of (b2.sub _ _ h1)⟩, F2, O2, xs, e2, b2, o2, fr.trans fr2, gives_tup h1 r1, q⟩
      · exact q.elim⟩
/-- for x in a list -/
theorem wi_list {P : List D → Env → Prop} (h : WA Z X iter env fun a e1 => absorb [a] e1 fun ds e2 => lstOf ds fun xs => P xs e2) : WI Z X tg iter env P :=
  wi_of (pi_list (pe_A (Z := Z))) fun σ H F O b o => ⟨env, F, O, _, b, o, h, fun v H1 ⟨F1, O1, a, e1, b1, o1, st, fr, p⟩ => by
    obtain ⟨F2, O2, ds, e2, b2, o2, r2, fr2, q⟩ := absorb_ok (.cons st .nil) b1 o1 p
    cases r2 with
    | cons r rr =>
      cases rr
      unfold lstOf at q
      split at q
      · rename_i xs e
        cases e
        cases r with
        | lst h1 r1 => exact ⟨_, rfl, ⟨_, SqL.of (b2.sub _ _ h1)⟩, F2, O2, xs, e2, b2, o2, fr.trans fr2, gives_list h1 r1, q⟩
      · exact q.elim⟩
/-- range -/
def rangeD (lo : Int) (n : Nat) : List D := (List.range n).map fun (k : Nat) => PyData.int (lo + (k : Int))
theorem gives_range {lo : Int} {n : Nat} {F : Hp} : Gives (Itr lo n) (rangeD lo n) F := fun F' H' s1 s2 i => by
  refine ⟨fun d hd => ?_, fun hn => ?_⟩
  · unfold rangeD at hd
    rw [List.getElem?_map] at hd
    by_cases hi : i < n
    · rw [List.getElem?_range hi] at hd
      cases hd
      refine ⟨hi, fun x H'' ⟨e, q⟩ => ?_⟩
      subst e q
      exact ⟨F', .int _, Same.refl _, Same.refl _, s2, fun _ z => .inl z⟩
    · rw [List.getElem?_eq_none (by simpa using hi)] at hd
      cases hd
  · unfold rangeD at hn
    rw [List.getElem?_eq_none_iff, List.length_map, List.length_range] at hn
    exact hn
/-- several arguments, as they are seen at the end -/
def Views (as : List A) (env : Env) (k : List D → Prop) : Prop := match as with
  | [] => k []
  | a :: as => View a env fun d => Views as env fun ds => k (d :: ds)
inductive Vws (F H : Hp) : List V → List D → Prop
  | nil : Vws F H [] []
  | cons {v : V} {vs : List V} {d : D} {ds : List D} : Vw F H v d → Vws F H vs ds → Vws F H (v :: vs) (d :: ds)
theorem Views.vws {σ : L2.St} {F H : Hp} {O : List Addr} (o : OwE F H O σ env) : ∀ {as : List A} {vs : List V} {k : List D → Prop}, StAs F vs as → Views as env k → ∃ ds, Vws F H vs ds ∧ k ds
  | [], _, k, .nil, h => ⟨[], .nil, h⟩
  | a :: as, _, k, .cons st r, h => by
    obtain ⟨d, w, h⟩ := View.vw h o st
    obtain ⟨ds, ws, h⟩ := Views.vws o r h
    exact ⟨d :: ds, .cons w ws, h⟩
def rng1 (ds : List D) (k : List D → Prop) : Prop := match ds with
  | [.int j] => (-4611686018427387904 ≤ j ∧ j < 4611686018427387904) ∧ k (rangeD 0 j.toNat)
  | _ => False
theorem wi_range1 {P : List D → Env → Prop} {p : Pos} (hm : X.mg "range" = none) (h : WAs Z X [a] env fun as e1 => Views as e1 fun ds => rng1 ds fun xs => P xs e1) (hg : Gl X "range" := by rfl) : WI Z X tg (.Call (.Name "range" p) [a] [] pos) env P :=
  wi_of (pi_range1 hg hm (pa_As (Z := Z)) h.1) fun σ H F O b o => ⟨env, F, O, _, b, o, h, fun vs H1 ⟨F1, O1, as, e1, b1, o1, st, fr, p⟩ => by
    obtain ⟨ds, ws, q⟩ := Views.vws o1 st p
    unfold rng1 at q
    split at q
    · cases ws with
      | cons w ws =>
        cases ws
        cases w.int
        exact ⟨_, rfl, q.1.1, q.1.2, F1, O1, _, e1, b1, o1, fr, gives_range, q.2⟩
    · exact q.elim⟩
def rng2 (ds : List D) (k : List D → Prop) : Prop := match ds with
  | [.int i, .int j] => (-4611686018427387904 ≤ i ∧ i < 4611686018427387904 ∧ -4611686018427387904 ≤ j ∧ j < 4611686018427387904) ∧ k (rangeD i (j - i).toNat)
  | _ => False
theorem wi_range2 {P : List D → Env → Prop} {p : Pos} (hm : X.mg "range" = none) (h : WAs Z X [a, b] env fun as e1 => Views as e1 fun ds => rng2 ds fun xs => P xs e1) (hg : Gl X "range" := by rfl) (hs : starEach [a, b] X.env = [(false, eval a X.env), (false, eval b X.env)] := by rfl) (hs2 : starEach [b] X.env = [(false, eval b X.env)] := by rfl) : WI Z X tg (.Call (.Name "range" p) [a, b] [] pos) env P :=
  wi_of (pi_range2 hg hm (pa_As (Z := Z)) hs hs2) fun σ H F O b o => ⟨env, F, O, _, b, o, h, fun vs H1 ⟨F1, O1, as, e1, b1, o1, st, fr, p⟩ => by
    obtain ⟨ds, ws, q⟩ := Views.vws o1 st p
    unfold rng2 at q
    split at q
    · cases ws with
      | cons w ws =>
        cases ws with
        | cons w' ws =>
          cases ws
          cases w.int
          cases w'.int
          exact ⟨_, _, rfl, q.1, F1, O1, _, e1, b1, o1, fr, gives_range, q.2⟩
    · exact q.elim⟩

/-! ### for -/
def ForI {Tq : List (Addr × Str)} (Z : Zb Tq) (X : Cx) (f : TF) (body : List Stmt) (P : Out → Prop) (ds : List D) (e1 : Env) : Prop :=
  ∃ I : Nat → Env → Prop, I 0 e1 ∧ (∀ k d e, ds[k]? = some d → I k e → f d e fun e' => WSs Z X body e' (loopP P (I (k + 1)))) ∧ ∀ e, I ds.length e → P (.nx e)
theorem ws_for {g : TG} {f : TF} {ix : List Nat} (hp : PassesOwn (model X.prog X.w) X.A X.env X.xe) (hc : X.calm = true) (hg : PG X tg g) (gk : GOk Z g f ix) (h : WI Z X tg iter env (ForI Z X f body P)) (hs : ∀ x, foldedSetIterable iter X.env x = pure x := by intro _; rfl) :
    WS Z X (.For tg iter body [] pos) env P :=
  ws_of (ps_for hp hc (pi_I (Z := Z)) hg (pss_S (Z := Z)) hs) fun σ0 H0 F0 O0 b0 o0 => ⟨env, F0, O0, _, b0, o0, h, fun J H1 F1 O1 ds e1 b1 o1 fr1 gv ⟨I, i0, step, done⟩ => by
    refine ⟨fun i m σ H => m = ds.length - i ∧ i ≤ ds.length ∧ ∃ F O e, Bas Z F H O ∧ OwE F H O σ e ∧ Frm Tq H1 F1 O1 H F O ∧ I i e, ⟨_, rfl, Nat.zero_le _, F1, O1, e1, b1, o1, Frm.refl _ _ _, i0⟩, ?_⟩
    rintro i m σ H ⟨rfl, hi, F, O, e, b, o, fr, hI⟩
    obtain ⟨g1, g2⟩ := gv F H fr.fz b.sub i
    by_cases hlt : i < ds.length
    · obtain ⟨go, yl⟩ := g1 ds[i] (List.getElem?_eq_getElem hlt)
      refine .inr ⟨go, fun σ' H' => ∃ F O e, Bas Z F H' O ∧ OwE F H' O σ' e ∧ Frm Tq H1 F1 O1 H' F O ∧ I (i + 1) e, fun σ' H' q => ⟨ds.length - (i + 1), by omega, rfl, hlt, q⟩, fun x H' y => ?_⟩
      obtain ⟨F', rx, s1, s2, s3, nf⟩ := yl x H' y
      obtain ⟨b2, o2, fr2⟩ := b.grow o s1 s2 s3 nf
      refine gk x _ σ H' F' O e _ _ b2 o2 rx (step i _ e (List.getElem?_eq_getElem hlt) hI) fun σ3 O3 e3 b3 o3 s3 _ h3 => ?_
      have fr3 : Frm Tq H1 F1 O1 H' F' O3 := (fr.trans fr2).perm (fun _ => Iff.rfl) s3
      refine ⟨e3, F', O3, _, b3, o3, h3, loop_le (fr1.trans fr3) ?_⟩
      exact fun σ4 H4 F4 O4 e4 b4 o4 f4 q => ⟨F4, O4, e4, b4, o4, fr3.trans f4, q⟩
    · have e' : i = ds.length := by omega
      subst e'
      exact .inl ⟨g2 (List.getElem?_eq_none (Nat.le_refl _)), F, O, e, b, o, fr1.trans fr, done e hI⟩⟩

/-! ### comprehensions -/
/-- the contexts in which a comprehension's block may run -/
abbrev Blk (X : Cx) (scope : Scope) (k : Cx → Prop) : Prop := ∀ (s : Shared) (H : Hp) (C : Addr) (cl : List (Str × Addr)) (fp : List Addr), k (X.blk s H scope (compEnvC scope cl C X.env) fp)
def tAB {Tq : List (Addr × Str)} (Z : Zb Tq) (X : Cx) (scope : Scope) (e : Expr) : TE := fun σ H Q => ∃ env F O P, Bas Z F H O ∧ OwE F H O σ env ∧ (Blk X scope fun X' => WA Z X' e env P) ∧ ∀ v H', PostA Z σ H F O P v H' → Q v H'
def tTB {Tq : List (Addr × Str)} (Z : Zb Tq) (X : Cx) (scope : Scope) (e : Expr) : TT := fun σ H Q => ∃ env F O P, Bas Z F H O ∧ OwE F H O σ env ∧ (Blk X scope fun X' => WT Z X' e env P) ∧ ∀ v H', PostT Z σ H F O P v H' → Q v H'
theorem pe_AB {scope : Scope} (s : Shared) (H : Hp) (C : Addr) (cl : List (Str × Addr)) (fp : List Addr) : PE (X.blk s H scope (compEnvC scope cl C X.env) fp) elt (tAB Z X scope elt) :=
  ⟨fun pins s' σ H' Q I ⟨env, F, O, P, b, o, w, q⟩ => thn ((w s H C cl fp).run I b o) (EP.imp q)⟩
theorem pt_TB {scope : Scope} (s : Shared) (H : Hp) (C : Addr) (cl : List (Str × Addr)) (fp : List Addr) : PT (X.blk s H scope (compEnvC scope cl C X.env) fp) c (tTB Z X scope c) :=
  ⟨fun pins s' σ H' Q I ⟨env, F, O, P, b, o, w, q⟩ => thn (w s H C cl fp pins s' σ H' F O I b o) fun _ _ ⟨H2, I2, p⟩ => ⟨H2, I2, q _ _ p⟩⟩
/-- one turn's element -/
def ElI {Tq : List (Addr × Str)} (Z : Zb Tq) (X : Cx) (scope : Scope) (elt : Expr) (vs : List Nat) (I : List D → Env → Prop) (acc : List D) (e2 : Env) : Prop :=
  Blk X scope fun X' => WA Z X' elt e2 fun a e3 => absorb [a] e3 fun ds e4 => match ds with
    | [y] => acc.length < sizeLine ∧ I (acc ++ [y]) (wipeE e4 vs)
    | _ => False
structure LcI {Tq : List (Addr × Str)} (Z : Zb Tq) (X : Cx) (scope : Scope) (f : TF) (elt : Expr) (vs : List Nat) (T : Env → (Bool → Env → Prop) → Prop) (P : R → Env → Prop) (ds : List D) (e1 : Env) : Prop where
  ex : ∃ I : Nat → List D → Env → Prop, I 0 [] (wipeE e1 vs) ∧ (∀ k d acc e, ds[k]? = some d → I k acc e → f d e fun e' => T e' fun bb e2 => (bb = true → ElI Z X scope elt vs (I (k + 1)) acc e2) ∧ (bb = false → I (k + 1) acc (wipeE e2 vs))) ∧
    ∀ acc e, I ds.length acc e → ∀ p, P (.t (.lst p acc)) e
theorem lc_read {g : TG} {f : TF} {ix : List Nat} {scope : Scope} {vs : List Nat} {tt : TT} {T : Env → (Bool → Env → Prop) → Prop} (gk : GOk Z g f ix) (hix : ∀ i ∈ ix, i ∈ vs)
    (tk : ∀ σ H F O env k (Q : Bool → Hp → Prop), Bas Z F H O → OwE F H O σ env → T env k → (∀ bb H' F' O' e', Bas Z F' H' O' → OwE F' H' O' σ e' → Frm Tq H F O H' F' O' → k bb e' → Q bb H') → tt σ H Q)
    {σ0 : L2.St} {H0 F0 : Hp} {O0 : List Addr} (b0 : Bas Z F0 H0 O0) (o0 : OwE F0 H0 O0 σ0 env) (h : WI Z X tg iter env (LcI Z X scope f elt vs T PR)) :
    tLc (tI Z X tg iter) g tt (tAB Z X scope elt) vs σ0 H0 (Post Z σ0 H0 F0 O0 PR) := by
  refine ⟨env, F0, O0, _, b0, o0, h, fun J H1 F1 O1 ds e1 b1 o1 fr1 gv ⟨I, i0, step, done⟩ D hD => ?_⟩
  have fD : F1 D = none := b1.sub.free hD
  refine ⟨fun i m H => m = ds.length - i ∧ i ≤ ds.length ∧ ∃ F O e e0 acc accV, Bas Z F H (O ++ [D]) ∧ OwE F H O (wipe σ0 vs) e ∧ e = wipeE e0 vs ∧ H D = some (.lst accV) ∧ RpA F accV acc ∧ Frm Tq H1 F1 O1 H F (O ++ [D]) ∧ I i acc e, ⟨_, rfl, Nat.zero_le _, ?_⟩, ?_⟩
  · -- the start
    obtain ⟨O2, Od, h2, h3⟩ := o1.wipeO vs
    have hn : ∀ a ∈ O1, a ≠ D := fun a ha z => by subst z; exact o1.there a ha hD
    have fr : Frm Tq H1 F1 O1 (upd H1 D (.lst [])) F1 (O2 ++ [D]) := ⟨Same.refl _, fun a o e _ _ => same_new hD a o e, fun a e => by
      by_cases z : a = D
      · subst z; rw [upd_same]; exact fun z => nomatch z
      · rw [upd_ne z]; exact e, fun a e => .inl e, fun a ha => (List.mem_append.mp ha).elim (fun z => .inl (h3.mem_iff.mpr (List.mem_append_left _ z))) fun z => .inr (by rw [List.mem_singleton.mp z]; exact hD), tab_new hD⟩
    have b2 := (b1.dropP h3).1
    refine ⟨F1, O2, wipeE e1 vs, e1, [], [], ⟨b1.sub.trans (same_new hD), List.nodup_append.mpr ⟨b2.nd, List.nodup_cons.mpr ⟨fun z => (nomatch z), List.nodup_nil⟩, fun a ha c hc z => ?_⟩, fun a ha => ?_, b1.abs.trans fr⟩, ?_, rfl, upd_same, .nil, fr, i0⟩
    · rw [List.mem_singleton.mp hc] at z
      exact hn a (h3.mem_iff.mpr (List.mem_append_left _ ha)) z
    · rcases List.mem_append.mp ha with ha | ha
      · exact b2.dis a ha
      · rw [List.mem_singleton.mp ha]; exact fD
    · have o3 : OwE F1 (upd H1 D (.lst [])) O2 σ0 (wipeE e1 vs) := h2.stay (Same.refl _) fun a ha => upd_ne (hn a (h3.mem_iff.mpr (List.mem_append_left _ ha)))
      exact o3.wiped wipe_wipe
  · rintro i m H ⟨rfl, hi, F, O, e, e0, acc, accV, b, o, he0, hDl, rA, fr, hI⟩
    obtain ⟨g1, g2⟩ := gv F H fr.fz b.sub i
    by_cases hlt : i < ds.length
    · obtain ⟨go, yl⟩ := g1 ds[i] (List.getElem?_eq_getElem hlt)
      refine .inr ⟨go, fun H' => ∃ F O e e0 acc accV, Bas Z F H' (O ++ [D]) ∧ OwE F H' O (wipe σ0 vs) e ∧ e = wipeE e0 vs ∧ H' D = some (.lst accV) ∧ RpA F accV acc ∧ Frm Tq H1 F1 O1 H' F (O ++ [D]) ∧ I (i + 1) acc e, fun H' q => ⟨ds.length - (i + 1), by omega, rfl, hlt, q⟩, fun x H' y => ?_⟩
      obtain ⟨F', rx, s1, s2, s3, nf⟩ := yl x H' y
      have dD : ∀ a ∈ [D], Held H a := fun a ha => by rw [List.mem_singleton.mp ha]; exact ⟨_, hDl, fun _ z => nomatch z⟩
      have bL := b.left
      obtain ⟨b2, o2, fr2⟩ := bL.grow o s1 s2 s3 nf
      have b2D : Bas Z F' H' (O ++ [D]) := Bas.frame fr2 b b2 dD
      refine gk x _ (wipe σ0 vs) H' F' O e _ _ b2 o2 rx (step i _ acc e (List.getElem?_eq_getElem hlt) hI) fun σ3 O3 e3 b3 o3 s3' w3 h3 => ?_
      have hw : wipe σ3 vs = wipe (wipe σ0 vs) vs := w3 vs hix
      rw [wipe_wipe] at hw
      refine ⟨hw, ?_⟩
      have hD3 : H' D = some (.lst accV) := s2 _ _ hDl
      have dD3 : ∀ a ∈ [D], Held H' a := fun a ha => by rw [List.mem_singleton.mp ha]; exact ⟨_, hD3, fun _ z => nomatch z⟩
      have fr23 : Frm Tq H F O H' F' O3 := fr2.perm (fun _ => Iff.rfl) s3'
      have b3D : Bas Z F' H' (O3 ++ [D]) := Bas.frame fr23 b b3 dD
      have frD : Frm Tq H1 F1 O1 H' F' (O3 ++ [D]) := fr.trans fr23.frame
      refine tk σ3 H' F' O3 e3 _ _ b3 o3 h3 fun bb H4 F4 O4 e4 b4 o4 fr4 h4 => ?_
      have hD4 : H4 D = some (.lst accV) := fr4.out D _ hD3 (fun _ z => nomatch z) fun z => (List.nodup_append.mp b3D.nd).2.2 D z D (List.mem_singleton.mpr rfl) rfl
      have b4D : Bas Z F4 H4 (O4 ++ [D]) := Bas.frame fr4 b3D b4 dD3
      have frD4 : Frm Tq H1 F1 O1 H4 F4 (O4 ++ [D]) := frD.trans fr4.frame
      have dD4 : ∀ a ∈ [D], Held H4 a := fun a ha => by rw [List.mem_singleton.mp ha]; exact ⟨_, hD4, fun _ z => nomatch z⟩
      -- a turn's end
      have fin : ∀ {H5 F5 : Hp} {O5 : List Addr} {e5 : Env} {acc5 : List PyData} {accV5 : List V}, Bas Z F5 H5 (O5 ++ [D]) → OwE F5 H5 O5 σ3 e5 → H5 D = some (.lst accV5) → RpA F5 accV5 acc5 → Frm Tq H1 F1 O1 H5 F5 (O5 ++ [D]) → I (i + 1) acc5 (wipeE e5 vs) →
          ∃ F O e e0 acc accV, Bas Z F H5 (O ++ [D]) ∧ OwE F H5 O (wipe σ0 vs) e ∧ e = wipeE e0 vs ∧ H5 D = some (.lst accV) ∧ RpA F accV acc ∧ Frm Tq H1 F1 O1 H5 F (O ++ [D]) ∧ I (i + 1) acc e := fun {H5 F5 O5 e5 acc5 accV5} b5 o5 hD5 r5 fr5 hI5 => by
        obtain ⟨O6, Od6, h6, p6⟩ := o5.wipeO vs
        have p6' : (O5 ++ [D]).Perm ((O6 ++ [D]) ++ Od6) := (p6.append_right [D]).trans (by
          rw [List.append_assoc, List.append_assoc]
          exact List.perm_append_comm.append_left O6)
        refine ⟨F5, O6, wipeE e5 vs, e5, acc5, accV5, (b5.perm p6').left, h6.wiped ?_, rfl, hD5, r5, fr5.perm (fun _ => Iff.rfl) fun c hc => p6'.mem_iff.mpr (List.mem_append_left _ hc), hI5⟩
        rw [wipe_wipe]
        exact hw.symm
      cases bb with
      | false => exact iteF (fin b4D o4 hD4 (rA.mono (s1.trans fr4.fz)) frD4 (h4.2 rfl))
      | true =>
        refine iteT ⟨e4, F4, O4, _, b4, o4, h4.1 rfl, fun y H5 ⟨F5, O5, a5, e5, b5, o5, st5, fr5, p5⟩ => ?_⟩
        obtain ⟨F6, O6, ds6, e6, b6, o6, r6, fr6, q6⟩ := absorb_ok (.cons st5 .nil) b5 o5 p5
        have fr56 := fr5.trans fr6
        cases r6 with
        | cons r7 rr =>
          cases rr
          obtain ⟨hz, q7⟩ := q6
          have hD5 : H5 D = some (.lst accV) := fr5.out D _ hD4 (fun _ z => nomatch z) fun z => (List.nodup_append.mp b4D.nd).2.2 D z D (List.mem_singleton.mpr rfl) rfl
          have b6D : Bas Z F6 H5 (O6 ++ [D]) := Bas.frame fr56 b4D b6 dD4
          have frD6 : Frm Tq H1 F1 O1 H5 F6 (O6 ++ [D]) := frD4.trans fr56.frame
          have nD : ∀ a ∈ O6, a ≠ D := fun a ha z => (List.nodup_append.mp b6D.nd).2.2 a ha D (List.mem_singleton.mpr rfl) z
          have fD6 : F6 D = none := b6D.dis D (List.mem_append_right _ (List.mem_singleton.mpr rfl))
          have rA6 : RpA F6 accV acc := rA.mono (s1.trans (fr4.fz.trans fr56.fz))
          refine ⟨accV, hD5, by rw [rA6.len]; exact hz, ?_⟩
          have hs : Same F6 (upd H5 D (.lst (accV ++ [y]))) := fun a x ha => by
            have z : a ≠ D := fun z => by subst z; rw [fD6] at ha; cases ha
            rw [upd_ne z]; exact b6D.sub a x ha
          have fr7 : Frm Tq H5 F6 (O6 ++ [D]) (upd H5 D (.lst (accV ++ [y]))) F6 (O6 ++ [D]) := ⟨Same.refl _, fun a x ha _ hn => by
            rw [upd_ne fun z => hn (by rw [z]; exact List.mem_append_right _ (List.mem_singleton.mpr rfl))]; exact ha, fun a ha => by
            by_cases z : a = D
            · subst z; rw [upd_same]; exact fun z => nomatch z
            · rw [upd_ne z]; exact ha, fun a ha => .inl ha, fun a ha => .inl ha, tab_upd fun o e => by rw [hD5] at e; cases e; exact ⟨(fun _ z => nomatch z), (fun _ z => nomatch z)⟩⟩
          exact fin ⟨hs, b6D.nd, b6D.dis, b6D.abs.trans fr7⟩ (o6.stay (Same.refl _) fun a ha => upd_ne (nD a ha)) upd_same (rA6.app (.cons r7 .nil)) (frD6.trans fr7) q7
    · have e' : i = ds.length := by omega
      subst e'
      refine .inl ⟨g2 (List.getElem?_eq_none (Nat.le_refl _)), F, O ++ [D], .t (.lst D acc), e, b, ⟨O, [D], rfl, ?_, .lst hDl rA⟩, fr1.trans fr, done acc e hI D⟩
      subst he0
      exact o.wiped wipe_wipe.symm
theorem w_lc {g : TG} {f : TF} {ix : List Nat} {scope : Scope} {own : List (Str × Nat)} (hc : X.calm = true) (hN : X.N.Nodup) (ok : BlkOk X.N X.env.scope scope own) (hg : Blk X scope fun X' => PG X' tg g) (gk : GOk Z g f ix) (hix : ∀ i ∈ ix, i ∈ own.map (·.2))
    (h : WI Z X tg iter env (LcI Z X scope f elt (own.map (·.2)) (fun e k => k true e) PR)) (hs : ∀ x, foldedSetIterable iter X.env x = pure x := by intro _; rfl) : WE Z X (.ListComp elt [⟨tg, iter, [], 0⟩] scope pos) env PR :=
  we_of (pe_lc (own := own) hc hN (pi_I (Z := Z)) ok hg (fun _ _ _ _ _ => pts_nil) (pe_AB (Z := Z)) hs) fun σ H F O b o => lc_read gk hix (fun σ H F O env k Q b o t q => q true H F O env b o (Frm.refl _ _ _) t) b o h
theorem w_lcIf {g : TG} {f : TF} {ix : List Nat} {scope : Scope} {own : List (Str × Nat)} (hc : X.calm = true) (hN : X.N.Nodup) (ok : BlkOk X.N X.env.scope scope own) (hg : Blk X scope fun X' => PG X' tg g) (gk : GOk Z g f ix) (hix : ∀ i ∈ ix, i ∈ own.map (·.2))
    (h : WI Z X tg iter env (LcI Z X scope f elt (own.map (·.2)) (fun e k => Blk X scope fun X' => WT Z X' c e k) PR)) (hs : ∀ x, foldedSetIterable iter X.env x = pure x := by intro _; rfl) : WE Z X (.ListComp elt [⟨tg, iter, [c], 0⟩] scope pos) env PR :=
  we_of (pe_lc (own := own) hc hN (pi_I (Z := Z)) ok hg (fun s H C cl fp => pts_one (pt_TB (Z := Z) s H C cl fp)) (pe_AB (Z := Z)) hs) fun σ H F O b o =>
    lc_read gk hix (fun σ H F O env k Q b o t q => ⟨env, F, O, k, b, o, t, fun v H' ⟨F1, O1, e1, b1, o1, fr1, p⟩ => q v H' F1 O1 e1 b1 o1 fr1 p⟩) b o h
end
end QL

/-! QF: what a def promises, over data; its body; its calls. -/
namespace QL
open PySem PySem.Spec PyProof.Rows L2

inductive StV (F H : Hp) : List Addr → List V → List T → Prop
  | nil : StV F H [] [] []
  | cons {O1 O2 : List Addr} {v : V} {t : T} {vs : List V} {ts : List T} : Ow F H O1 v t → StV F H O2 vs ts → StV F H (O1 ++ O2) (v :: vs) (t :: ts)
inductive StVO (F H : Hp) : List Addr → List V → List (Option T) → Prop
  | nil : StVO F H [] [] []
  | un {O2 : List Addr} {v : V} {vs : List V} {ts : List (Option T)} : StVO F H O2 vs ts → StVO F H O2 (v :: vs) (none :: ts)
  | cons {O1 O2 : List Addr} {v : V} {t : T} {vs : List V} {ts : List (Option T)} : Ow F H O1 v t → StVO F H O2 vs ts → StVO F H (O1 ++ O2) (v :: vs) (some t :: ts)
theorem StV.len {F H : Hp} : ∀ {O : List Addr} {vs : List V} {ts : List T}, StV F H O vs ts → vs.length = ts.length
  | _, _, _, .nil => rfl
  | _, _, _, .cons _ r => congrArg (· + 1) r.len

/-- an error: its class, its fields -/
structure Ex where
  C : Addr
  fs : List (Str × D)
inductive RpF (F : Hp) : List (Str × V) → List (Str × D) → Prop
  | nil : RpF F [] []
  | cons {n : Str} {v : V} {d : D} {vs : List (Str × V)} {ds : List (Str × D)} : Rp F v d → RpF F vs ds → RpF F ((n, v) :: vs) ((n, d) :: ds)
theorem RpF.mono {F F' : Hp} (s : Same F F') : ∀ {v : List (Str × V)} {d : List (Str × D)}, RpF F v d → RpF F' v d
  | _, _, .nil => .nil
  | _, _, .cons h r => .cons (h.mono s) (RpF.mono s r)
def ExAt (F : Hp) (ex : Ex) (cls : Value) (d : Option Addr) : Prop := cls = .ref ex.C ∧ ((d = none ∧ ex.fs = []) ∨ ∃ dd vfs, d = some dd ∧ F dd = some (.xd vfs) ∧ RpF F vfs ex.fs)

/-- what a def promises: its arguments; what is wanted of its answer and of what the arguments hold then; of an error -/
abbrev Spc := List T → (T → List (Option T) → Prop) → (Ex → List (Option T) → Prop) → Prop
structure FnG (P : Program) (w : World) (K : PySem.W.Frag) (mg : Str → Option Value) (base : Heap) (Tq : List (Addr × Str)) (k : Nat) (f : Addr) (fd : FuncData) (ps : List Str) (sp : Spc) : Prop where
  len : ∀ ts Q E, sp ts Q E → ts.length = ps.length
  run : ∀ (A : Around) (outer : List PySem.Env) (s : Shared) (H : Hp) (args : Args) (us : List Value) (vs : List V) (F : Hp) (O : List Addr) (ts : List T) (QT : T → List (Option T) → Prop) (ET : Ex → List (Option T) → Prop) (E : XK) (tbs : TabZ Tq H F O),
    Room k A → A.guards = some [] → Env0 P w K mg base A outer s H → BindsTo s fd args (ps.zip us) → Vals vs us → Bas ⟨H, F, O, tbs⟩ F H O → StV F H O vs ts → sp ts QT ET →
    (∀ ex ts' cls d H' F' O', Bas ⟨H, F, O, tbs⟩ F' H' O' → StVO F' H' O' vs ts' → ExAt F' ex cls d → ET ex ts' → E cls d H') →
    codeAny (model P w) A (.call (.ref f) args) (CR (L2.CX P w) outer P w H s (fun v H' => ∃ F' O1 O2 t ts', Bas ⟨H, F, O, tbs⟩ F' H' (O1 ++ O2) ∧ StVO F' H' O1 vs ts' ∧ Ow F' H' O2 v t ∧ QT t ts') E) s
theorem FnG.mono {P : Program} {w : World} {K : PySem.W.Frag} {mg : Str → Option Value} {base : Heap} {Tq : List (Addr × Str)} {j k : Nat} {f : Addr} {fd : FuncData} {ps : List Str} {sp : Spc} (G : FnG P w K mg base Tq j f fd ps sp) (h : j ≤ k) : FnG P w K mg base Tq k f fd ps sp :=
  ⟨G.len, fun A outer s H args us vs F O ts QT ET E tbs hr => G.run A outer s H args us vs F O ts QT ET E tbs (hr.mono h)⟩

/-! ### the arguments taken, and put back -/
def deref : List A → Env → (List T → Env → Prop) → Prop
  | [], env, k => k [] env
  | .va d :: as, env, k => deref as env fun ts e => k (.va d :: ts) e
  | .bor a i p :: as, env, k => match getP i p env with
    | some t => t.addr = some a ∧ deref as (setP i p (.hole a) env) fun ts e => k (t :: ts) e
    | none => False
def putb : List A → List (Option T) → Env → (Env → Prop) → Prop
  | [], _, env, k => k env
  | .va _ :: as, _ :: ts, env, k => putb as ts env k
  | .bor a i p :: as, some t :: ts, env, k => getP i p env = some (.hole a) ∧ t.addr = some a ∧ putb as ts (setP i p t env) k
  | _, _, _, _ => False
theorem deref_ok {σ : L2.St} {F H : Hp} : ∀ {as : List A} {vs : List V} {O : List Addr} {env : Env} {k : List T → Env → Prop}, StAs F vs as → OwE F H O σ env → deref as env k →
    ∃ ts e Oc Or, O.Perm (Oc ++ Or) ∧ StV F H Oc vs ts ∧ OwE F H Or σ e ∧ k ts e
  | [], _, O, env, k, .nil, o, h => ⟨[], env, [], O, List.Perm.refl _, .nil, o, h⟩
  | .va d :: as, _, O, env, k, .cons st r, o, h => by
    obtain ⟨ts, e, Oc, Or, p, s, o', q⟩ := deref_ok r o h
    exact ⟨.va d :: ts, e, [] ++ Oc, Or, p, .cons (.va st) s, o', q⟩
  | .bor a i p :: as, _, O, env, k, .cons st r, o, h => by
    unfold deref at h
    cases hg : getP i p env with
    | none => rw [hg] at h; exact h.elim
    | some t =>
      rw [hg] at h
      obtain ⟨w, ⟨Oj, O', h1, h2, h3⟩, _⟩ := o.focus hg
      have hw := h1.ref h.1
      have st : _ = V.ref a := st
      subst st hw
      obtain ⟨O'', q1, q2⟩ := h3 F H [] (.hole a) (Same.refl _) (fun _ _ => rfl) .hole
      obtain ⟨ts, e, Oc, Or, p', s, o', q⟩ := deref_ok r q1 h.2
      refine ⟨t :: ts, e, Oj ++ Oc, Or, ?_, .cons h1 s, o', q⟩
      rw [List.append_assoc]
      exact h2.trans ((q2.symm.trans p').append_left Oj)
theorem putb_ok {σ : L2.St} {F F0 H : Hp} : ∀ {as : List A} {vs : List V} {ts : List (Option T)} {Oc Or : List Addr} {env : Env} {k : Env → Prop}, StAs F0 vs as → StVO F H Oc vs ts → OwE F H Or σ env → putb as ts env k →
    ∃ e O3 Od, OwE F H O3 σ e ∧ (Oc ++ Or).Perm (O3 ++ Od) ∧ k e
  | [], _, _, _, Or, env, k, .nil, .nil, o, h => ⟨env, Or, [], o, by rw [List.append_nil]; exact List.Perm.refl _, h⟩
  | .va d :: as, _, _, _, Or, env, k, .cons _ r, .un s, o, h => by
    obtain ⟨e, O3, Od, o', p, q⟩ := putb_ok r s o h
    exact ⟨e, O3, Od, o', p, q⟩
  | .va d :: as, _, _, _, Or, env, k, .cons _ r, .cons (O1 := O1) (O2 := O2) _ s, o, h => by
    obtain ⟨e, O3, Od, o', p, q⟩ := putb_ok r s o h
    refine ⟨e, O3, O1 ++ Od, o', ?_, q⟩
    rw [List.append_assoc, ← List.append_assoc O3]
    exact (p.append_left O1).trans (by rw [← List.append_assoc]; exact List.perm_append_comm.append_right Od)
  | .bor a i p :: as, _, _, _, Or, env, k, .cons st r, .un s, o, h => h.elim
  | .bor a i p :: as, _, _, _, Or, env, k, .cons st r, .cons (O1 := O1) (O2 := O2) w s, o, h => by
    obtain ⟨hg, ha, h⟩ := h
    obtain ⟨w', ⟨Oj, O', h1, h2, h3⟩, _⟩ := o.focus hg
    have st : _ = V.ref a := st
    subst st
    cases h1
    obtain ⟨O'', q1, q2⟩ := h3 F H O1 _ (Same.refl _) (fun _ _ => rfl) w
    obtain ⟨e, O3, Od, o', p', q⟩ := putb_ok r s q1 h
    refine ⟨e, O3, Od, o', ?_, q⟩
    refine List.Perm.trans ?_ p'
    have e1 : (O2 ++ O'').Perm (O2 ++ (O1 ++ Or)) := (q2.trans (h2.symm.append_left O1 |>.trans (List.Perm.refl _))).append_left O2
    refine List.Perm.trans ?_ e1.symm
    rw [← List.append_assoc]
    exact List.perm_append_comm.append_right Or
def callD (sp : Spc) (as : List A) (env : Env) (PT : T → Env → Prop) (ET : Ex → Env → Prop) : Prop :=
  deref as env fun ts e2 => sp ts (fun t ts' => putb as ts' e2 fun e3 => PT t e3) (fun ex ts' => putb as ts' e2 fun e3 => ET ex e3)
/-- what is wanted of an error, with the slots -/
def wxOf {Tq : List (Addr × Str)} (Z : Zb Tq) (ET : Ex → Env → Prop) : WX := fun cls d σ H => ∃ F O env ex, Bas Z F H O ∧ OwE F H O σ env ∧ ExAt F ex cls d ∧ ET ex env

section
variable {Tq : List (Addr × Str)} {Z : Zb Tq} {X : Cx} {env : Env} {P : R → Env → Prop} {ET : Ex → Env → Prop}
theorem call_g {k : Nat} {f : Addr} {fd : FuncData} {ps : List Str} {sp : Spc} {as : List A} {vs : List V} {us us0 : List Value} {kw : List (Str × Value)} {pins : List (Addr × Obj)} {s : Shared} {σ : L2.St} {H F : Hp} {O : List Addr}
    (G : FnG X.prog X.w X.K X.mg X.base Tq k f fd ps sp) (hr : Room k X.A) (hg : X.A.guards = some []) (tk : Takes X (wxOf Z ET)) (hb : BindsTo s fd ⟨us0, kw⟩ (ps.zip us)) (I : Inv X pins σ H s) (b : Bas Z F H O) (o : OwE F H O σ env)
    (st : StAs F vs as) (r : Vals vs us) (h : callD sp as env (fun t e => P (.t t) e) ET) : wpAny (model X.prog X.w) X.A (call (.ref f) us0 kw) (EP X pins σ (Post Z σ H F O P)) X.xe s := by
  obtain ⟨ts, e2, Oc, Or, pm, sv, o2, h⟩ := deref_ok st o h
  have bc := (b.perm pm).left.entry
  have ex : ∀ c ∈ Or, Held H c := o2.held
  refine wpAny_call (codeAny_mono (G.run X.A X.stack s H ⟨us0, kw⟩ us vs F Oc ts _ _ (fun cls d H' => ∃ e ts' F' O', Bas ⟨H, F, Oc, (b.perm pm).left.tabs⟩ F' H' O' ∧ StVO F' H' O' vs ts' ∧ ExAt F' e cls d ∧ putb as ts' e2 fun e3 => ET e e3) (b.perm pm).left.tabs hr hg I.env0 hb r bc sv h
    fun e ts' cls d H' F' O' b' s' x' q => ⟨e, ts', F', O', b', s', x', q⟩) fun rs s' hq => ?_)
  have back : ∀ {F' H' : Hp} {O1 O2 : List Addr} {ts' : List (Option T)} {kk : Env → Prop}, Bas ⟨H, F, Oc, (b.perm pm).left.tabs⟩ F' H' (O1 ++ O2) → StVO F' H' O1 vs ts' → putb as ts' e2 kk →
      ∃ e3 O3, OwE F' H' O3 σ e3 ∧ Bas Z F' H' (O3 ++ O2) ∧ Frm Tq H F O H' F' (O3 ++ O2) ∧ kk e3 := fun {F' H' O1 O2 ts' kk} b' s' q => by
    have fr := b'.abs
    have b3 := Bas.frame fr (b.perm pm) b' ex
    have keep := fr.rest (R := Or) (pm.nodup b.nd) ex
    obtain ⟨e3, O3, Od, o3, p3, q3⟩ := putb_ok st s' (o2.stay fr.fz keep) q
    have p4 : ((O1 ++ O2) ++ Or).Perm ((O3 ++ O2) ++ Od) := by
      have e1 : ((O1 ++ O2) ++ Or).Perm ((O1 ++ Or) ++ O2) := by
        rw [List.append_assoc, List.append_assoc]
        exact List.perm_append_comm.append_left O1
      have e2 : ((O3 ++ O2) ++ Od).Perm ((O3 ++ Od) ++ O2) := by
        rw [List.append_assoc, List.append_assoc]
        exact List.perm_append_comm.append_left O3
      exact e1.trans ((p3.append_right O2).trans e2.symm)
    exact ⟨e3, O3, o3, (b3.perm p4).left, (fr.frame (R := Or)).perm (fun c => pm.symm.mem_iff) (fun c hc => p4.mem_iff.mpr (List.mem_append_left _ hc)), q3⟩
  cases rs with
  | error e =>
    refine tk e s' (XE.of_call I (fun cls d H' hE => ?_) hq)
    obtain ⟨x, ts', F', O', b', sv', xa, q⟩ := hE
    obtain ⟨e3, O3, o3, b3, fr3, q3⟩ := back (O2 := []) (by rw [List.append_nil]; exact b') sv' q
    rw [List.append_nil] at b3 fr3
    exact ⟨F', O3, e3, x, b3, o3, xa, q3⟩
  | ok fl =>
    cases fl with
    | ret u =>
      refine EP.imp (fun v H' q => ?_) u s' (I.after hq)
      obtain ⟨F', O1, O2, t, ts', b', sv', w', q⟩ := q
      obtain ⟨e3, O3, o3, b3, fr3, q3⟩ := back b' sv' q
      exact ⟨F', O3 ++ O2, .t t, e3, b3, ⟨O3, O2, rfl, o3, w'⟩, fr3, q3⟩
    | next => exact hq.elim
    | brk => exact hq.elim
    | cont => exact hq.elim

/-! ### f(a, ..), f(a, .., k = b, ..) -/
/-- the parameters in their order, from what is written by place (us) and by name (ws, names ks): g and its twins over data -/
structure KwB (K : PySem.W.Frag) (fd : FuncData) (ps ks : List Str) (n m : Nat) (g : {α : Type} → List α → List α → (List α)) (ds : List Value) (dds : List D) : Prop where
  to : ∀ (s : Shared) (us ws : List Value), K.In s.heap → us.length = n → ws.length = m → BindsTo s fd ⟨us, ks.zip ws⟩ (ps.zip (g us ws ++ ds))
variable {x : Str} {p pos : Pos} {e : Expr} {es : List Expr}
def vaAll (ds : List D) : List A := ds.map A.va
theorem w_call {k : Nat} {f : Addr} {fd : FuncData} {ps : List Str} {sp : Spc} {ds : List Value} {vds : List V} {dds : List D} (G : FnG X.prog X.w X.K X.mg X.base Tq k f fd ps sp) (hr : Room k X.A) (hgd : X.A.guards = some []) (tk : Takes X (wxOf Z ET))
    (hm : X.mg x = some (.ref f)) (hk : PySem.W.keepIn X.K (.ref f) = true) (hb : Binds X.K fd ps ds) (hd : Vals vds ds) (hdd : ∀ F : Hp, StAs F vds (vaAll dds)) (h : WAs Z X (e :: es) env fun as e1 => callD sp (as ++ vaAll dds) e1 (fun t e => P (.t t) e) ET)
    (hg : Gl X x := by rfl) (hdb : (x == ("__debug__" : Str)) = false := by decide) (he : starEach (e :: es) X.env = (false, eval e X.env) :: starEach es X.env := by rfl) (hpl : (backTo pos (starEach es X.env)).any (·.1) = false := by rfl) :
    WE Z X (.Call (.Name x p) (e :: es) [] pos) env P := fun pins s σ H F O I b o => by
  refine wpAny_Call_Name_kw (ld_glob I hg hm ?_ hdb)
  refine PySem.W.callWith_K (h₀ := X.base) I.ok.mod.kin hk (thn ((pa_As (Z := Z)).run pos pins s σ H (PostAs Z σ H F O _) I ⟨env, F, O, _, b, o, h, fun _ _ q => q⟩) fun us s1 ⟨vs, H1, I1, r, F1, O1, as, e1, b1, o1, st, fr, q⟩ => ⟨I1.kIn, ?_⟩) he hpl
  have sapp : ∀ {vs : List V} {as : List A}, StAs F1 vs as → StAs F1 (vs ++ vds) (as ++ vaAll dds) := fun {vs as} z => by
    induction z with
    | nil => exact hdd F1
    | cons a _ ih => exact .cons a ih
  have r2 : Vals (vs ++ vds) (us ++ ds) := r.append hd
  have hl : (us ++ ds).length = ps.length := by
    obtain ⟨ts, e2, Oc, Or, pm, sv, o2, hh⟩ := deref_ok (sapp st) o1 q
    rw [← r2.length, sv.len, G.len _ _ _ hh]
  exact thn (call_g (us0 := us) (kw := []) (us := us ++ ds) G hr hgd tk (hb s1 us I1.kIn hl) I1 b1 o1 (sapp st) r2 q) (EP.imp fun v H' q => q.from fr)
theorem w_call0 {k : Nat} {f : Addr} {fd : FuncData} {ps : List Str} {sp : Spc} {ds : List Value} {vds : List V} {dds : List D} (G : FnG X.prog X.w X.K X.mg X.base Tq k f fd ps sp) (hr : Room k X.A) (hgd : X.A.guards = some []) (tk : Takes X (wxOf Z ET))
    (hm : X.mg x = some (.ref f)) (hk : PySem.W.keepIn X.K (.ref f) = true) (hb : Binds X.K fd ps ds) (hd : Vals vds ds) (hdd : ∀ F : Hp, StAs F vds (vaAll dds)) (h : callD sp (vaAll dds) env (fun t e => P (.t t) e) ET)
    (hg : Gl X x := by rfl) (hdb : (x == ("__debug__" : Str)) = false := by decide) : WE Z X (.Call (.Name x p) [] [] pos) env P := fun pins s σ H F O I b o => by
  refine wpAny_Call_Name_kw (ld_glob I hg hm ?_ hdb)
  have hl : ds.length = ps.length := by
    obtain ⟨ts, e2, Oc, Or, pm, sv, o2, hh⟩ := deref_ok (hdd F) o h
    rw [← hd.length, sv.len, G.len _ _ _ hh]
  exact PySem.W.callWith_K0 I.kIn hk (call_g (us0 := []) (kw := []) (us := ds) G hr hgd tk (hb s [] I.kIn hl) I b o (hdd F) hd h)
end

/-! ### a def's body -/
def startE (N : List Str) (ts : List T) : Env := ts.map some ++ List.replicate (N.length - ts.length) none
theorem StV.start {F H : Hp} {N : List Str} : ∀ {O : List Addr} {vs : List V} {ts : List T}, StV F H O vs ts → ∀ m, OwE F H O (vs.map some ++ List.replicate m none) (ts.map some ++ List.replicate m none)
  | _, _, _, .nil, m => by
    induction m with
    | zero => exact .nil
    | succ m ih => exact .un ih
  | _, _, _, .cons w r, m => .so w (r.start (N := N) m)
/-- what the parameters' slots hold at the end: what was handed in, as it is now -/
def back (ts : List T) (e : Env) (k : List (Option T) → Prop) : Prop := match ts, e with
  | t :: ts, u :: e => match t.addr with
    | none => back ts e fun r => k (none :: r)
    | some a => match u with
      | some u => u.addr = some a ∧ back ts e fun r => k (some u :: r)
      | none => False
  | _ :: _, [] => False
  | [], _ => k []
theorem back_ok {F F0 H0 H : Hp} : ∀ {O0 O : List Addr} {vs : List V} {ts : List T} {σ : L2.St} {e : Env} {k : List (Option T) → Prop}, StV F0 H0 O0 vs ts → OwE F H O σ e → back ts e k → ∃ O' Od ts', O.Perm (O' ++ Od) ∧ StVO F H O' vs ts' ∧ k ts'
  | _, O, _, _, _, _, k, .nil, o, h => ⟨[], O, [], List.Perm.refl _, .nil, by unfold back at h; exact h⟩
  | _, _, _, _, _, _, k, .cons w0 r0, .nil, h => h.elim
  | _, _, _, _, _, _, k, .cons (t := t0) w0 r0, .un r, h => by
    unfold back at h
    cases h0 : t0.addr with
    | none =>
      rw [h0] at h
      obtain ⟨O', Od, ts', p, s, q⟩ := back_ok r0 r h
      exact ⟨O', Od, _, p, .un s, q⟩
    | some a => rw [h0] at h; exact h.elim
  | _, _, _, _, _, _, k, .cons (t := t0) w0 r0, .so (O1 := O1) (t := t) w r, h => by
    unfold back at h
    cases h0 : t0.addr with
    | none =>
      rw [h0] at h
      obtain ⟨O', Od, ts', p, s, q⟩ := back_ok r0 r h
      refine ⟨O', O1 ++ Od, _, ?_, .un s, q⟩
      exact (p.append_left O1).trans (by rw [← List.append_assoc, ← List.append_assoc]; exact List.perm_append_comm.append_right Od)
    | some a =>
      rw [h0] at h
      obtain ⟨O', Od, ts', p, s, q⟩ := back_ok r0 r h.2
      have e1 := w0.ref h0
      have e2 := w.ref h.1
      subst e1 e2
      exact ⟨O1 ++ O', Od, _, by rw [List.append_assoc]; exact p.append_left O1, .cons w s, q⟩
def finP (QT : T → List (Option T) → Prop) (ts : List T) : Out → Prop
  | .ret t e => back ts e (QT t)
  | .nx e => back ts e (QT (.va .none))
  | _ => False
/-- the context of a def's body -/
abbrev BX (P : Program) (w : World) (K : PySem.W.Frag) (mg : Str → Option Value) (base : Heap) (N : List Str) (qual : Str) (st : Stmt) (f : Addr) (cdv : Value) (A : Around) (outer : List PySem.Env) (s : Shared) (H : Hp) (E : XK) : Cx :=
  cxOf (L2.CX P w) P w K mg base N qual (defScope st) f cdv A outer s H E
theorem fn_g {P : Program} {w : World} {K : PySem.W.Frag} {mg : Str → Option Value} {base : Heap} {Tq : List (Addr × Str)} {x qual : Str} {st : Stmt} {f : Addr} {fd : FuncData} {N ps : List Str} {k : Nat} {sp : Spc} (Fn : Fun K x qual st f fd) (S : FnScope N ps (defScope st)) (len : ∀ ts Q E, sp ts Q E → ts.length = ps.length)
    (hbody : ∀ (cdv : Value) (A : Around) (outer : List PySem.Env) (s : Shared) (H : Hp) (E : XK) (Z : Zb Tq) (ts : List T) (QT : T → List (Option T) → Prop) (ET : Ex → List (Option T) → Prop), Room k (BX P w K mg base N qual st f cdv A outer s H E).A → (BX P w K mg base N qual st f cdv A outer s H E).A.guards = some [] →
      PassesOwn (model P w) (BX P w K mg base N qual st f cdv A outer s H E).A (BX P w K mg base N qual st f cdv A outer s H E).env (BX P w K mg base N qual st f cdv A outer s H E).xe →
      Takes (BX P w K mg base N qual st f cdv A outer s H E) (wxOf Z fun ex e => back ts e (ET ex)) → sp ts QT ET → WSs Z (BX P w K mg base N qual st f cdv A outer s H E) (defBody st) (startE N ts) (finP QT ts)) : FnG P w K mg base Tq (k + 1) f fd ps sp := by
  obtain ⟨oc, od, kV, doc, pm, an, cdv, ct, osl, rfl, lk, hcd⟩ := Fn.ex
  refine ⟨len, fun A outer s H args us vs F O ts QT ET E tbs hr hg e0 hb r b sv hsp hE => ?_⟩
  have hl : vs.length = ps.length := sv.len.trans (len _ _ _ hsp)
  refine Att.call_fn (e0.mod.kin.keeps fun b o e => (e0.bs b o e).1) (e0.mod.nolimit.keeps fun b o e => (e0.bs b o e).1) lk hcd hr.depth hb ?_ (fun s1 ic => ?_) S.co S.gen S.kind
  · refine List.all_eq_true.mpr fun y hy => ?_
    rcases S.par y.1 (List.of_mem_zip hy).1 with q | q <;> rw [q] <;> rfl
  · have I : Inv (BX P w K mg base N qual st f cdv A outer s H E) [] (L2.start N vs) H s1 := inv_start S hr.hd e0 hl r ic
    have tk : Takes (BX P w K mg base N qual st f cdv A outer s H E) (wxOf ⟨H, F, O, tbs⟩ fun ex e => back ts e (ET ex)) := by
      refine (takes_of (X := BX P w K mg base N qual st f cdv A outer s H E) (E := E) rfl rfl rfl rfl).imp fun cls d σ H' ⟨F', O', env, ex, b', o', xa, q⟩ => ?_
      obtain ⟨O1, Od, ts', p1, s1, q⟩ := back_ok sv o' q
      exact hE ex _ cls d H' F' O1 (b'.perm p1).left s1 xa q
    have hgd : (BX P w K mg base N qual st f cdv A outer s H E).A.guards = some [] := hg
    have body := hbody cdv A outer s H E ⟨H, F, O, tbs⟩ ts QT ET (hr.deeper _) hgd (passes_of (X := BX P w K mg base N qual st f cdv A outer s H E) rfl) tk hsp
    have o0 : OwE F H O (L2.start N vs) (startE N ts) := by
      unfold L2.start startE
      rw [sv.len]
      exact sv.start (N := N) _
    refine wpAny_mono (body [] s1 (L2.start N vs) H F O I b o0) (fun fl s' hs => ?_) fun e s' hs => hs
    have fin : ∀ {σ' : L2.St} {H' F' : Hp} {O1 O2 : List Addr} {t : T} {e : Env} {v : V} {u : Value}, Inv (BX P w K mg base N qual st f cdv A outer s H E) [] σ' H' s' → RelV v u → Bas ⟨H, F, O, tbs⟩ F' H' (O1 ++ O2) → (∃ σ'', OwE F' H' O1 σ'' e) → Ow F' H' O2 v t → back ts e (QT t) →
        CE outer P w H s (fun v H' => ∃ F' O1 O2 t ts', Bas ⟨H, F, O, tbs⟩ F' H' (O1 ++ O2) ∧ StVO F' H' O1 vs ts' ∧ Ow F' H' O2 v t ∧ QT t ts') u s' := fun {σ' H' F' O1 O2 t e v u} J rv b' ⟨σ'', o'⟩ w' q => by
      obtain ⟨O3, Od, ts', p3, s3, q⟩ := back_ok sv o' q
      refine ⟨v, H', J.os, J.bare, J.base, J.hok, rv, F', O3, O2, t, _, ?_, s3, w', q⟩
      have p4 : (O1 ++ O2).Perm ((O3 ++ O2) ++ Od) := (p3.append_right O2).trans (by
        rw [List.append_assoc, List.append_assoc]
        exact List.perm_append_comm.append_left O3)
      exact (b'.perm p4).left
    cases fl with
    | ret u =>
      obtain ⟨v, σ', H', J, rv, F', O1, O2, σ'', t, e, b', o', w', _, q⟩ := hs
      exact fin J rv b' ⟨σ'', o'⟩ w' q
    | next =>
      obtain ⟨σ', H', J, F', O1, e, b', o', _, q⟩ := hs
      exact fin (v := V.non) (u := Value.none) (t := .va .none) (O2 := []) J rfl (by rw [List.append_nil]; exact b') ⟨_, o'⟩ (.va .non) q
    | brk =>
      obtain ⟨_, _, _, _, _, _, _, _, _, q⟩ := hs
      exact q.elim
    | cont =>
      obtain ⟨_, _, _, _, _, _, _, _, _, q⟩ := hs
      exact q.elim
end QL

/-! QG: subscripts, slices, items stored, pairs stored, calls of built-ins. -/
namespace QL
open PySem PySem.Spec PyProof.Rows L2

theorem mutL {Tq : List (Addr × Str)} {Z : Zb Tq} {F H : Hp} {O : List Addr} {σ : L2.St} {env : Env} {i : Nat} {p : List Str} {a : Addr} {ds : List D} (b : Bas Z F H O) (o : OwE F H O σ env) (hg : getP i p env = some (.lst a ds)) :
    ∃ xs, H a = some (.lst xs) ∧ RpA F xs ds ∧ ∀ ys es, RpA F ys es → ∃ O', Bas Z F (upd H a (.lst ys)) O' ∧ OwE F (upd H a (.lst ys)) O' σ (setP i p (.lst a es) env) ∧ Frm Tq H F O (upd H a (.lst ys)) F O' := by
  obtain ⟨w, ⟨Oj, O', h1, h2, h3⟩, _⟩ := o.focus hg
  cases h1 with
  | lst hH r =>
    refine ⟨_, hH, r, fun ys es r' => ?_⟩
    have nd := h2.nodup b.nd
    have ha : a ∈ O := h2.mem_iff.mpr (List.mem_append_left _ (List.mem_singleton.mpr rfl))
    have hn : ∀ c ∈ O', c ≠ a := fun c hc z => (List.nodup_append.mp nd).2.2 a (List.mem_singleton.mpr rfl) c hc z.symm
    obtain ⟨O'', q1, q2⟩ := h3 F (upd H a (.lst ys)) [a] (.lst a es) (Same.refl _) (fun c hc => upd_ne (hn c hc)) (.lst upd_same r')
    have pm : O.Perm O'' := h2.trans q2.symm
    have fr : Frm Tq H F O (upd H a (.lst ys)) F O'' := ⟨Same.refl _, fun c x e _ n => by rw [upd_ne fun z => n (by rw [z]; exact ha)]; exact e, fun c e => by
      by_cases z : c = a
      · subst z; rw [upd_same]; exact fun z => nomatch z
      · rw [upd_ne z]; exact e, fun c e => .inl e, fun c hc => .inl (pm.mem_iff.mpr hc), tab_own hH⟩
    have da := b.dis a ha
    refine ⟨O'', ⟨fun c x e => ?_, pm.nodup b.nd, fun c hc => b.dis c (pm.mem_iff.mpr hc), b.abs.trans fr⟩, q1, fr⟩
    rw [upd_ne fun z => by rw [z, da] at e; cases e]
    exact b.sub c x e

/-! ### subscripts -/
theorem RpA.at {F : Hp} {xs : List V} {ds : List D} {i : Int} {d : D} (r : RpA F xs ds) (h : atI ds i = some d) : ∃ v, atI xs i = some v ∧ Rp F v d := by
  unfold atI at h ⊢
  rw [r.len]
  cases hn : ixN ds.length i with
  | none => rw [hn] at h; cases h
  | some j => rw [hn] at h; exact r.get' h
def ixD (d1 d2 : D) (k : T → Prop) : Prop := match d1, d2 with
  | .list xs, .int i => ∃ d, atI xs i = some d ∧ k (.va d)
  | .tuple xs, .int i => ∃ d, atI xs i = some d ∧ k (.va d)
  | _, _ => False
section
variable {Tq : List (Addr × Str)} {Z : Zb Tq} {X : Cx} {e a b c o ix : Expr} {es : List Expr} {env : Env} {pos : Pos} {P : R → Env → Prop} {PO : Out → Prop}
theorem ixr : IxR X (rD ixD) := fun value slice pins s σ H x y v u Q I rx ry ⟨F, d1, d2, k, sF, w1, w2, hg, q⟩ hs => by
  refine ix_seq value slice pins s σ H x y v u Q I rx ry ?_ hs
  cases d1 with
  | list xs =>
    cases d2 with
    | int i =>
      obtain ⟨p, vs, rfl, h1, r1⟩ := w1.lst' sF
      cases w2.int
      obtain ⟨d, h3, h4⟩ := hg
      obtain ⟨z, h5, h6⟩ := r1.at h3
      exact .inl ⟨p, vs, i, z, rfl, rfl, SqL.of h1, h5, q _ _ (NewV.val sF h6 h4)⟩
    | _ => exact hg.elim
  | tuple xs =>
    cases d2 with
    | int i =>
      obtain ⟨p, vs, rfl, h1, r1⟩ := w1.tup
      cases w2.int
      obtain ⟨d, h3, h4⟩ := hg
      obtain ⟨z, h5, h6⟩ := r1.at h3
      exact .inr (.inl ⟨p, vs, i, z, rfl, rfl, SqT.of (sF _ _ h1), h5, q _ _ (NewV.val sF h6 h4)⟩)
    | _ => exact hg.elim
  | _ => exact hg.elim
theorem w_ix (h : W2 Z X a b env fun d1 d2 e2 => ixD d1 d2 fun t => P (.t t) e2) (hs : PlainIx b := by intro _ _; rfl) : WE Z X (.Subscript a b pos) env P :=
  we_of (pe_ix ixr pe_A pe_A hs) fun σ H F O b0 o => w2_run b0 o h
/-- a slice's part -/
def PostO {Tq : List (Addr × Str)} (Z : Zb Tq) (σ : L2.St) (H0 F0 : Hp) (O0 : List Addr) (P : Option Int → Env → Prop) : Option Int → Hp → Prop := fun k H => ∃ F O env, Bas Z F H O ∧ OwE F H O σ env ∧ Frm Tq H0 F0 O0 H F O ∧ P k env
def WO {Tq : List (Addr × Str)} (Z : Zb Tq) (X : Cx) : Option Expr → Env → (Option Int → Env → Prop) → Prop
  | none, env, k => k none env
  | some e, env, k => WE Z X e env fun r e1 => ∃ i, r = .t (.va (.int i)) ∧ k (some i) e1
def tO {Tq : List (Addr × Str)} (Z : Zb Tq) (X : Cx) (e : Option Expr) : TO := fun σ H Q => ∃ env F O P, Bas Z F H O ∧ OwE F H O σ env ∧ WO Z X e env P ∧ ∀ v H', PostO Z σ H F O P v H' → Q v H'
theorem post_int {σ : L2.St} {H F0 H0 : Hp} {O0 : List Addr} {K : Int → Env → Prop} {v : V} (h : Post Z σ H0 F0 O0 (fun r e1 => ∃ k, r = .t (.va (.int k)) ∧ K k e1) v H) :
    ∃ k F O env, v = .int k ∧ Bas Z F H O ∧ OwE F H O σ env ∧ Frm Tq H0 F0 O0 H F O ∧ K k env := by
  obtain ⟨F1, O1, r, env1, b1, st, fr1, k, e1, h1⟩ := h
  subst e1
  obtain ⟨O1', O2, rfl, o1, ow⟩ := st
  cases ow with
  | va r =>
    cases r with
    | int k =>
      rw [List.append_nil] at b1 fr1
      exact ⟨k, F1, O1', env1, rfl, b1, o1, fr1, h1⟩
theorem po_O : ∀ {e : Option Expr}, L2.PO X e (tO Z X e)
  | none => ⟨fun pins s σ H Q I ⟨env, F, O, P, b, o, w, q⟩ => po_none.run pins s σ H Q I (q _ _ ⟨F, O, env, b, o, Frm.refl _ _ _, w⟩)⟩
  | some e => ⟨fun pins s σ H Q I ⟨env, F, O, P, b, o, w, q⟩ => (po_some (pe_E (Z := Z))).run pins s σ H Q I ⟨env, F, O, _, b, o, w, fun v H1 h => by
      obtain ⟨k, F1, O1, e1, rfl, b1, o1, fr, p⟩ := post_int h
      exact ⟨k, rfl, q _ _ ⟨F1, O1, e1, b1, o1, fr, p⟩⟩⟩⟩
def cutD (xs : List D) (lo hi : Option Int) : List D := (xs.drop (HT.sIx xs.length 0 lo)).take (HT.sIx xs.length xs.length hi - HT.sIx xs.length 0 lo)
theorem RpA.cut {F : Hp} {vs : List V} {ds : List D} (r : RpA F vs ds) (lo hi : Option Int) : RpA F (cutV vs lo hi) (cutD ds lo hi) := by
  unfold cutV cutD
  rw [r.len]
  exact (r.drop _).take _
def slD (d : D) (lo hi : Option Int) (k : T → Prop) : Prop := match d with
  | .list xs => ∀ p, k (.lst p (cutD xs lo hi))
  | .tuple xs => k (.va (.tuple (cutD xs lo hi)))
  | _ => False
def rSlD : V → Option Int → Option Int → Hp → VK → Prop := fun x lo hi H Q => ∃ F d k, Same F H ∧ Vw F H x d ∧ slD d lo hi k ∧ ∀ v H', NewV F H k v H' → Q v H'
theorem slr : SlR X rSlD := fun pins s σ H x v vl vu lo hi sl Q I rx hs pl pu ⟨F, d, k, sF, w, hg, q⟩ => by
  cases d with
  | list xs =>
    obtain ⟨p, vs, rfl, h1, r1⟩ := w.lst' sF
    exact sl_list pins s σ H _ v vl vu lo hi sl Q I rx hs pl pu ⟨p, vs, rfl, SqL.of h1, fun p' hp' => q _ _ (NewV.lst sF (r1.cut lo hi) hp' (hg p'))⟩
  | tuple xs =>
    obtain ⟨p, vs, rfl, h1, r1⟩ := w.tup
    refine sl_tupA pins s σ H _ v vl vu lo hi sl Q I rx hs pl pu ⟨p, vs, rfl, SqT.of (sF _ _ h1), fun hw => ?_, fun _ p' hp' => q _ _ (NewV.tup sF (r1.cut lo hi) hp' hg)⟩
    have hx : cutD xs lo hi = xs := by
      unfold cutD
      rw [← r1.len, hw.1, hw.2, List.drop_zero, r1.len, Nat.sub_zero, List.take_length]
    unfold slD at hg
    simp only [hx] at hg
    exact q _ _ (NewV.val sF (.tup h1 r1) hg)
  | _ => exact hg.elim
theorem w_sl {lo hi : Option Expr} {p2 : Pos} (h : WA Z X a env fun a1 e1 => WO Z X lo e1 fun l e2 => WO Z X hi e2 fun u e3 => View a1 e3 fun d => slD d l u fun t => P (.t t) e3) : WE Z X (.Subscript a (.Slice lo hi none p2) pos) env P :=
  we_of (pe_slice slr pe_A po_O po_O) fun σ H F O b0 o => ⟨env, F, O, _, b0, o, h, fun v1 H1 ⟨F1, O1, a1, e1, b1, o1, st1, fr1, h1⟩ => ⟨e1, F1, O1, _, b1, o1, h1, fun l H2 ⟨F2, O2, e2, b2, o2, fr2, h2⟩ =>
    ⟨e2, F2, O2, _, b2, o2, h2, fun u H3 ⟨F3, O3, e3, b3, o3, fr3, h3⟩ => by
      obtain ⟨d, w, h4⟩ := View.vw h3 o3 (st1.mono (fr2.fz.trans fr3.fz))
      exact ⟨F3, d, _, b3.sub, w, h4, fun v H' n => (n.post b3 o3 fun t q => q).from ((fr1.trans fr2).trans fr3)⟩⟩⟩⟩

/-! ### an item stored -/
theorem ws_setix {sp : Pos} (h : WA Z X e env fun a1 e1 => WE Z X o e1 fun r e2 => ∃ a i p, r = .bor a i p ∧ WE Z X ix e2 fun r3 e3 => ∃ n, r3 = .t (.va (.int n)) ∧
      absorb [a1] e3 fun ds e4 => ∃ d ds0 j, ds = [d] ∧ getP i p e4 = some (.lst a ds0) ∧ ixN ds0.length n = some j ∧ PO (.nx (setP i p (.lst a (ds0.set j d)) e4)))
    (hs : swapsWithSole [.Subscript o ix sp] e pos.line X.env = pure false := by rfl) (hw : swappedStores [.Subscript o ix sp] e X.env = pure none := by rfl)
    (h1 : (assignEach [.Subscript o ix sp] X.env).map (·.2) = [assign (.Subscript o ix sp) X.env] := by rfl)
    (ha : ∀ v, assign (.Subscript o ix sp) X.env v = (do
      let ov ← holding [v] (eval o X.env)
      let iv ← holding [v, ov] (eval ix X.env)
      standAt sp
      holding [v, ov, iv] (setItem ov iv v)
      release [v, ov, iv] []) := by intro _; rfl) : WS Z X (.Assign [.Subscript o ix sp] e pos) env PO :=
  ws_of (ps_asg (pe_A (Z := Z)) (pg_sub (pe_E (Z := Z)) (pe_E (Z := Z)) set_list ha) hs hw h1) fun σ H F O b o => ⟨env, F, O, _, b, o, h, fun v H1 ⟨F1, O1, a1, e1, b1, o1, st1, fr1, p⟩ =>
    ⟨e1, F1, O1, _, b1, o1, p, fun ov H2 ⟨F2, O2, r, e2, b2, st2, fr2, a, i, q, er, p⟩ => by
      subst er
      obtain ⟨o2, eov⟩ := st2
      subst eov
      refine ⟨e2, F2, O2, _, b2, o2, p, fun iv H3 h3 => ?_⟩
      obtain ⟨n, F3, O3, e3, rfl, b3, o3, fr3, p⟩ := post_int h3
      obtain ⟨F4, O4, ds, e4, b4, o4, r4, fr4, d, ds0, j, hds, hg, hj, p⟩ := absorb_ok (.cons (st1.mono (fr2.fz.trans fr3.fz)) .nil) b3 o3 p
      subst hds
      cases r4 with
      | cons r4 rn =>
        obtain ⟨xs, hH, rx, upd'⟩ := mutL b4 o4 hg
        obtain ⟨O5, b5, o5, fr5⟩ := upd' (xs.set j v) (ds0.set j d) (rx.set r4 j)
        refine ⟨a, xs, n, j, rfl, rfl, hH, by rw [rx.len]; exact hj, ?_⟩
        exact ⟨F4, O5, _, b5, o5, (((fr1.trans fr2).trans fr3).trans fr4).trans fr5, p⟩⟩⟩

/-! ### x, y = e1, e2 -/
/-- two results, one after the other -/
def parP {Tq : List (Addr × Str)} (Z : Zb Tq) (X : Cx) (b : Expr) (i j : Nat) (k : Env → Prop) (r1 : R) (e1 : Env) : Prop := ∃ t1, r1 = .t t1 ∧ WE Z X b e1 fun r2 e2 => ∃ t2, r2 = .t t2 ∧ i < e2.length ∧ j < e2.length ∧ k ((e2.set i (some t1)).set j (some t2))
theorem ws_par (i j : Nat) {x y : Str} {px py pt : Pos} {kt k2 pt2} (hc : X.calm = true) (hN : X.N.Nodup) (h : WE Z X a env (parP Z X b i j fun e => PO (.nx e)))
    (hi : X.N[i]? = some x := by rfl) (hj : X.N[j]? = some y := by rfl) (hij : i ≠ j := by decide) (hx : X.env.scope.names.lookup x = some .local := by rfl) (hy : X.env.scope.names.lookup y = some .local := by rfl)
    (hw : swappedStores [.Tuple [.Name x px, .Name y py] kt pt] (.Tuple [a, b] k2 pt2) X.env = pure (some [x, y]) := by rfl)
    (hs : swapsWithSole [.Tuple [.Name x px, .Name y py] kt pt] (.Tuple [a, b] k2 pt2) pos.line X.env = pure false := by rfl) (hs1 : starEach [a, b] X.env = (false, eval a X.env) :: starEach [b] X.env := by rfl) (hs2 : starEach [b] X.env = (false, eval b X.env) :: starEach [] X.env := by rfl) :
    WS Z X (.Assign [.Tuple [.Name x px, .Name y py] kt pt] (.Tuple [a, b] k2 pt2) pos) env PO :=
  ws_of (ps_par hc hN hi hj hij hx hy (pa_cons (pe_E (Z := Z)) (pa_cons (pe_E (Z := Z)) pa_nil hs2) hs1) hw hs) fun σ H F O b0 o => by
    refine ⟨env, F, O, _, b0, o, h, fun v1 H1 ⟨F1, O1, r1, e1, b1, st1, fr1, t1, er1, p⟩ => ?_⟩
    subst er1
    obtain ⟨Oa, Ob, rfl, o1, w1⟩ := st1
    refine ⟨e1, F1, Oa, _, b1.left, o1, p, fun v2 H2 ⟨F2, O2, r2, e2, b2, st2, fr2, t2, er2, li, lj, p⟩ => ?_⟩
    subst er2
    obtain ⟨Oc, Od, rfl, o2, w2⟩ := st2
    have ex : ∀ c ∈ Ob, Held H1 c := w1.held
    have b3 := Bas.frame fr2 b1 b2 ex
    have w3 : Ow F2 H2 Ob v1 t1 := w1.stay fr2.fz (fr2.rest b1.nd ex)
    obtain ⟨O5, Oe, o5, p5⟩ := o2.set i w3 li
    obtain ⟨O6, Of, o6, p6⟩ := o5.set j w2 (by rw [List.length_set]; exact lj)
    have pm : ((Oc ++ Od) ++ Ob).Perm (O6 ++ (Of ++ Oe)) := by
      have z1 : ((Oc ++ Od) ++ Ob).Perm (Od ++ (Ob ++ Oc)) := by
        rw [List.append_assoc]
        refine (List.perm_append_comm (l₁ := Oc)).trans ?_
        rw [List.append_assoc]
      refine z1.trans ((p5.append_left Od).trans ?_)
      rw [← List.append_assoc, ← List.append_assoc]
      exact p6.append_right Oe
    have fr3 : Frm Tq H F O H2 F2 ((Oc ++ Od) ++ Ob) := fr1.trans fr2.frame
    refine ⟨v1, v2, rfl, F2, O6, _, (b3.perm pm).left, o6, fr3.perm (fun _ => Iff.rfl) fun c hc => pm.mem_iff.mpr (List.mem_append_left _ hc), p⟩

/-! ### built-in functions -/
def DCall (X : Cx) (f : Value) (g : List D → (T → Prop) → Prop) : Prop :=
  ∀ (pins : List (Addr × Obj)) (s : Shared) (σ : L2.St) (H F : Hp) (vs : List V) (us : List Value) (ds : List D) (k : T → Prop), Inv X pins σ H s → Same F H → Vws F H vs ds → Vals vs us → g ds k →
    wpAny (model X.prog X.w) X.A (call f us) (EP X pins σ (NewV F H k)) X.xe s
def rC (g : List D → (T → Prop) → Prop) : List V → Hp → VK → Prop := fun vs H Q => ∃ F ds k, Same F H ∧ Vws F H vs ds ∧ g ds k ∧ ∀ v H', NewV F H k v H' → Q v H'
theorem DCall.r {f : Value} {g : List D → (T → Prop) → Prop} (h : DCall X f g) : CallR X f (rC g) := fun pins s σ H vs us Q I r ⟨F, ds, k, sF, ws, hg, q⟩ => thn (h pins s σ H F vs us ds k I sF ws r hg) (EP.imp q)
theorem DCall.of {f : Value} {g : List D → (T → Prop) → Prop} {r : List V → Hp → VK → Prop} (hc : CallR X f r) (q : ∀ H F vs ds k, Same F H → Vws F H vs ds → g ds k → r vs H (NewV F H k)) : DCall X f g :=
  fun pins s σ H F vs us ds k I sF ws rv hg => hc pins s σ H vs us _ I rv (q H F vs ds k sF ws hg)
theorem callD_post {g : List D → (T → Prop) → Prop} {σ : L2.St} {H F : Hp} {O : List Addr} {t : TA} (b0 : Bas Z F H O) (o : OwE F H O σ env)
    (h : WAs Z X es env fun as e1 => Views as e1 fun ds => g ds fun t => P (.t t) e1) : tCB (rC g) (tAs Z X es) σ H (Post Z σ H F O P) :=
  ⟨env, F, O, _, b0, o, h, fun vs H1 ⟨F1, O1, as, e1, b1, o1, st, fr, p⟩ => by
    obtain ⟨ds, ws, q⟩ := Views.vws o1 st p
    exact ⟨F1, ds, _, b1.sub, ws, q, fun v H' n => (n.post b1 o1 fun t q => q).from fr⟩⟩
theorem w_callB {g : List D → (T → Prop) → Prop} {x : Str} {id : String} {p : Pos} (hc : DCall X (.builtin id) g) (hm : X.mg x = none) (hv : bootBuiltins x = some (.builtin id)) (h : WAs Z X (e :: es) env fun as e1 => Views as e1 fun ds => g ds fun t => P (.t t) e1)
    (hg : Gl X x := by rfl) (hn : x ≠ "__name__" := by decide) (hdb : (x == ("__debug__" : Str)) = false := by decide)
    (he : starEach (e :: es) X.env = (false, eval e X.env) :: starEach es X.env := by rfl) (hpl : (backTo pos (starEach es X.env)).any (·.1) = false := by rfl) : WE Z X (.Call (.Name x p) (e :: es) [] pos) env P :=
  we_of (pe_callB hc.r hg hm hv pa_As hn hdb he hpl) fun σ H F O b0 o => callD_post (t := tNil) b0 o h
theorem w_callTy {g : List D → (T → Prop) → Prop} {x : Str} {id : String} {p : Pos} (hc : DCall X (.type id) g) (hm : X.mg x = none) (hv : bootBuiltins x = some (.type id)) (h : WAs Z X (e :: es) env fun as e1 => Views as e1 fun ds => g ds fun t => P (.t t) e1)
    (hg : Gl X x := by rfl) (hn : x ≠ "__name__" := by decide) (hdb : (x == ("__debug__" : Str)) = false := by decide)
    (he : starEach (e :: es) X.env = (false, eval e X.env) :: starEach es X.env := by rfl) (hpl : (backTo pos (starEach es X.env)).any (·.1) = false := by rfl) : WE Z X (.Call (.Name x p) (e :: es) [] pos) env P :=
  we_of (pe_callTy hc.r hg hm hv pa_As hn hdb he hpl) fun σ H F O b0 o => callD_post (t := tNil) b0 o h

theorem Vws.one {F H : Hp} {vs : List V} {d : D} (h : Vws F H vs [d]) : ∃ v, vs = [v] ∧ Vw F H v d := by
  cases h with | cons w r => cases r; exact ⟨_, rfl, w⟩
theorem Vws.two {F H : Hp} {vs : List V} {d d' : D} (h : Vws F H vs [d, d']) : ∃ v v', vs = [v, v'] ∧ Vw F H v d ∧ Vw F H v' d' := by
  cases h with | cons w r => cases r with | cons w' r => cases r; exact ⟨_, _, rfl, w, w'⟩
def lenG (ds : List D) (k : T → Prop) : Prop := match ds with
  | [.list xs] => k (.va (.int xs.length))
  | [.tuple xs] => k (.va (.int xs.length))
  | _ => False
theorem dc_len : DCall X (.builtin "len") lenG := .of call_len_seq fun H F vs ds k sF ws h => by
  unfold lenG at h
  split at h
  · obtain ⟨v, rfl, w⟩ := ws.one
    obtain ⟨p, xs, rfl, h1, r1⟩ := w.lst' sF
    exact ⟨p, xs, rfl, .inl (SqL.of h1), NewV.val sF (.int _) (by rw [r1.len]; exact h)⟩
  · obtain ⟨v, rfl, w⟩ := ws.one
    obtain ⟨p, xs, rfl, h1, r1⟩ := w.tup
    exact ⟨p, xs, rfl, .inr (SqT.of (sF _ _ h1)), NewV.val sF (.int _) (by rw [r1.len]; exact h)⟩
  · exact h.elim
def absG (ds : List D) (k : T → Prop) : Prop := match ds with
  | [.int i] => k (.va (.int i.natAbs))
  | _ => False
theorem dc_abs : DCall X (.builtin "abs") absG := .of call_abs fun H F vs ds k sF ws h => by
  unfold absG at h
  split at h
  · rename_i i
    obtain ⟨v, rfl, w⟩ := ws.one
    cases w.int
    have e : (if i < 0 then -i else i) = (i.natAbs : Int) := by split <;> omega
    exact ⟨i, rfl, NewV.val sF (.int _) (by rw [e]; exact h)⟩
  · exact h.elim
def int1G (ds : List D) (k : T → Prop) : Prop := match ds with
  | [.int i] => k (.va (.int i))
  | [.bool b] => k (.va (.int (if b then 1 else 0)))
  | _ => False
theorem dc_int : DCall X (.type "int") int1G := .of call_int1 fun H F vs ds k sF ws h => by
  unfold int1G at h
  split at h
  · obtain ⟨v, rfl, w⟩ := ws.one
    cases w.int
    exact .inl ⟨_, rfl, NewV.val sF (.int _) h⟩
  · obtain ⟨v, rfl, w⟩ := ws.one
    cases w.bl
    exact .inr ⟨_, rfl, NewV.val sF (.int _) h⟩
  · exact h.elim
def minG (ds : List D) (k : T → Prop) : Prop := match ds with
  | [.int i, .int j] => k (.va (.int (min i j)))
  | _ => False
theorem dc_min2 (hc : X.calm = true) : DCall X (.builtin "min") minG := .of (call_min2 hc) fun H F vs ds k sF ws h => by
  unfold minG at h
  split at h
  · rename_i i j
    obtain ⟨v, v', rfl, w, w'⟩ := ws.two
    cases w.int
    cases w'.int
    have e : (if j < i then j else i) = min i j := by split <;> omega
    exact ⟨i, j, rfl, NewV.val sF (.int _) (by rw [e]; exact h)⟩
  · exact h.elim
def maxG (ds : List D) (k : T → Prop) : Prop := match ds with
  | [.int i, .int j] => k (.va (.int (max i j)))
  | _ => False
theorem dc_max2 (hc : X.calm = true) : DCall X (.builtin "max") maxG := .of (call_max2 hc) fun H F vs ds k sF ws h => by
  unfold maxG at h
  split at h
  · rename_i i j
    obtain ⟨v, v', rfl, w, w'⟩ := ws.two
    cases w.int
    cases w'.int
    have e : (if j > i then j else i) = max i j := by split <;> omega
    exact ⟨i, j, rfl, NewV.val sF (.int _) (by rw [e]; exact h)⟩
  · exact h.elim
def tupG (ds : List D) (k : T → Prop) : Prop := match ds with
  | [.list xs] => k (.va (.tuple xs))
  | [.tuple xs] => k (.va (.tuple xs))
  | _ => False
theorem dc_tuple : DCall X (.type "tuple") tupG := .of call_tuple_of fun H F vs ds k sF ws h => by
  unfold tupG at h
  split at h
  · obtain ⟨v, rfl, w⟩ := ws.one
    obtain ⟨p, xs, rfl, h1, r1⟩ := w.lst' sF
    exact ⟨p, xs, rfl, .inl ⟨SqL.of h1, fun l hl => NewV.tup sF r1 hl h⟩⟩
  · obtain ⟨v, rfl, w⟩ := ws.one
    obtain ⟨p, xs, rfl, h1, r1⟩ := w.tup
    exact ⟨p, xs, rfl, .inr ⟨SqT.of (sF _ _ h1), NewV.val sF (.tup h1 r1) h⟩⟩
  · exact h.elim
theorem Vw.rpa {F H : Hp} {v : V} {xs : List D} (w : Vw F H v (.list xs)) (sF : Same F H) : ∃ a vs, v = .ref a ∧ H a = some (.lst vs) ∧ RpA F vs xs := w.lst' sF
def listG (ds : List D) (k : T → Prop) : Prop := match ds with
  | [.list xs] => ∀ p, k (.lst p xs)
  | [.tuple xs] => ∀ p, k (.lst p xs)
  | _ => False
theorem dc_list : DCall X (.type "list") listG := .of call_list_of fun H F vs ds k sF ws h => by
  unfold listG at h
  split at h
  · obtain ⟨v, rfl, w⟩ := ws.one
    obtain ⟨p, xs, rfl, h1, r1⟩ := w.lst' sF
    exact ⟨p, xs, rfl, .inl (SqL.of h1), fun l hl => NewV.lst sF r1 hl (h l)⟩
  · obtain ⟨v, rfl, w⟩ := ws.one
    obtain ⟨p, xs, rfl, h1, r1⟩ := w.tup
    exact ⟨p, xs, rfl, .inr (SqT.of (sF _ _ h1)), fun l hl => NewV.lst sF r1 hl (h l)⟩
  · exact h.elim
def allG (ds : List D) (k : T → Prop) : Prop := ∃ bs : List Bool, ds = [.list (bs.map .bool)] ∧ k (.va (.bool (bs.all id)))
theorem dc_all (hc : X.calm = true) : DCall X (.builtin "all") allG := .of (cr_all hc) fun H F vs ds k sF ws ⟨bs, e, h⟩ => by
  subst e
  obtain ⟨v, rfl, w⟩ := ws.one
  obtain ⟨p, xs, rfl, h1, r1⟩ := w.lst' sF
  exact ⟨p, bs, rfl, by rw [← r1.bls]; exact SqL.of h1, NewV.val sF (.bl _) h⟩
def sumG (ds : List D) (k : T → Prop) : Prop := ∃ ns : List Int, ds = [.list (ns.map .int)] ∧ k (.va (.int ns.sum))
theorem dc_sum (hc : X.calm = true) : DCall X (.builtin "sum") sumG := .of (cr_sum hc) fun H F vs ds k sF ws ⟨bs, e, h⟩ => by
  subst e
  obtain ⟨v, rfl, w⟩ := ws.one
  obtain ⟨p, xs, rfl, h1, r1⟩ := w.lst' sF
  exact ⟨p, bs, rfl, by rw [← r1.ints]; exact SqL.of h1, NewV.val sF (.int _) h⟩
end
end QL

/-! QH: what is shown, isinstance, chains, dict displays, calls by name, the script. -/
namespace QL
open PySem PySem.Spec PyProof.Rows L2

section
variable {X : Cx}
theorem far (hb : (X.base.get? sysModules).isSome = true) {pins : List (Addr × Obj)} {σ : L2.St} {H : Hp} {s : Shared} (I : Inv X pins σ H s) {a : Addr} {o : HO} (h : H a = some o) : sysModules ≠ a := fun e => by
  obtain ⟨ob, ho⟩ := Option.isSome_iff_exists.mp hb
  have := (I.bs _ _ ho).2
  rw [e, h] at this
  cases this
theorem keys_read {P : Program} {w : World} {h : Heap} : ∀ {es : List DictEntry} {vs : List (Key × Value)} {kvs : List (Key × V)} {ds : List (D × D)} {F : Hp}, PySem.Pairs (mixKind P w) es vs → KV kvs vs → RpK F kvs ds →
    ReadsAll h (es.map (·.key)) (ds.map (·.1)) []
  | _, _, _, _, _, .nil, r, q => by cases r; cases q; exact .nil
  | _, _, _, _, _, .cons hk hv t, r, q => by
    cases r with
    | cons r1 r2 =>
      cases q with
      | cons q1 q2 =>
        have ih := keys_read (h := h) t r2 q2
        obtain ⟨r1a, r1b⟩ := r1
        simp only at r1a
        subst r1a
        rcases keyIs_shape hk with ⟨i, t', e1, e2⟩ | ⟨x, t', e1, e2⟩
        · simp only [List.map_cons]
          rw [e1, e2]
          exact .cons (as := []) (.int i t') ih
        · simp only [List.map_cons]
          rw [e1, e2]
          exact .cons (as := []) (.str x t') ih
mutual
theorem Rp.readsD (hb : (X.base.get? sysModules).isSome = true) {pins : List (Addr × Obj)} {σ : L2.St} {H : Hp} {s : Shared} (I : Inv X pins σ H s) : ∀ {v : V} {d : D} {u : Value}, Rp H v d → RelV v u → ∃ as, Reads s.heap u d as ∧ sysModules ∉ as
  | _, _, _, .non, r => by cases r; exact ⟨_, .none, List.not_mem_nil⟩
  | _, _, _, .bl b, r => by cases r; exact ⟨_, .bool b, List.not_mem_nil⟩
  | _, _, _, .int i, r => by obtain ⟨t, rfl⟩ := r; exact ⟨_, .int i t, List.not_mem_nil⟩
  | _, _, _, .str i, r => by obtain ⟨t, rfl⟩ := r; exact ⟨_, .str i t, List.not_mem_nil⟩
  | _, _, _, .lst h q, r => by
    cases r
    obtain ⟨its, rv, ⟨o, n, ho, hc, _, hs⟩, _⟩ := I.list (SqL.of h)
    obtain ⟨as, hr, hn⟩ := RpA.readsD hb I q rv
    exact ⟨_, .list ho hc hs hr, fun z => (List.mem_cons.mp z).elim (far hb I h) hn⟩
  | _, _, _, .tup h q, r => by
    cases r
    obtain ⟨its, rv, ⟨o, ho, hc, n, hs⟩, _⟩ := I.tuple (SqT.of h)
    obtain ⟨as, hr, hn⟩ := RpA.readsD hb I q rv
    exact ⟨_, .tuple ho hc hs hr, hn⟩
  | _, _, _, .dic h q, r => by
    cases r
    obtain ⟨_, hd, vs, rel, o, es, ep, ho, hx, hdat, _, hp, _⟩ := dk_rd I.hok h
    obtain ⟨bs, hr, hn⟩ := RpK.readsD hb I q rel hp
    refine ⟨_, .dict ho hx.1 hdat (keys_read hp rel q) hr, fun z => ?_⟩
    rcases List.mem_append.mp z with z | z
    · rw [← List.mem_singleton.mp z] at hd
      simp at hd
    · exact hn z
theorem RpA.readsD (hb : (X.base.get? sysModules).isSome = true) {pins : List (Addr × Obj)} {σ : L2.St} {H : Hp} {s : Shared} (I : Inv X pins σ H s) : ∀ {vs : List V} {ds : List D} {us : List Value}, RpA H vs ds → Vals vs us → ∃ as, ReadsAll s.heap us ds as ∧ sysModules ∉ as
  | _, _, _, .nil, r => by cases r; exact ⟨_, .nil, List.not_mem_nil⟩
  | _, _, _, .cons h q, r => by
    cases r with
    | cons r1 r2 =>
      obtain ⟨as, q1, n1⟩ := Rp.readsD hb I h r1
      obtain ⟨bs, q2, n2⟩ := RpA.readsD hb I q r2
      exact ⟨_, .cons q1 q2, fun z => (List.mem_append.mp z).elim n1 n2⟩
theorem RpK.readsD (hb : (X.base.get? sysModules).isSome = true) {pins : List (Addr × Obj)} {σ : L2.St} {H : Hp} {s : Shared} (I : Inv X pins σ H s) : ∀ {kvs : List (Key × V)} {ds : List (D × D)} {vs : List (Key × Value)} {es : List DictEntry}, RpK H kvs ds → KV kvs vs → PySem.Pairs (mixKind X.prog X.w) es vs →
    ∃ as, ReadsAll s.heap (es.map (·.val)) (ds.map (·.2)) as ∧ sysModules ∉ as
  | _, _, _, _, .nil, r, p => by cases r; cases p; exact ⟨_, .nil, List.not_mem_nil⟩
  | _, _, _, _, .cons h q, r, p => by
    cases r with
    | cons r1 r2 =>
      cases p with
      | cons p1 p2 p3 =>
        obtain ⟨as, q1, n1⟩ := Rp.readsD hb I h r1.2
        obtain ⟨bs, q2, n2⟩ := RpK.readsD hb I q r2 p3
        simp only [List.map_cons]
        rw [p2]
        exact ⟨_, .cons q1 q2, fun z => (List.mem_append.mp z).elim n1 n2⟩
end

/-! ### repr -/
def showOk (d : D) : Prop := d.showable = true ∧ d.depth ≤ 100 ∧ d.shown.length ≤ sizeLine
def reprG (ds : List D) (k : T → Prop) : Prop := ∃ d, ds = [d] ∧ showOk d ∧ k (.va (.str d.shown))
theorem dc_repr (hb : (X.base.get? sysModules).isSome = true) (hg : X.A.guards = some []) (hu : X.A.units + 110 < cLine) : DCall X (.builtin "repr") reprG := fun pins s σ H F vs us ds k I sF ws rv ⟨d, e, ok, h⟩ => by
  subst e
  obtain ⟨v, rfl, w⟩ := ws.one
  obtain ⟨u, rfl, ru⟩ := rv.one
  have rp := w.rp sF
  have fin : ∀ {h' : Heap} {t tk : Nat}, Inv X pins σ H { s with heap := h', toks := tk } → EP X pins σ (NewV F H k) (.str d.shown t) { s with heap := h', toks := tk } := fun {h' t tk} I' => ⟨.str d.shown, H, I', ⟨t, rfl⟩, NewV.val sF (.str _) h⟩
  have big : ∀ {a : Addr}, u = .ref a → wpAny (model X.prog X.w) X.A (call (.builtin "repr") [u]) (EP X pins σ (NewV F H k)) X.xe s := fun {a} e => by
    obtain ⟨as, hr, hn⟩ := rp.readsD hb I ru
    subst e
    exact repr_of_reads' hr ok.1 (fun _ => hn) hg (by have := ok.2.1; omega) (fun _ _ e => e) (fun h' u tk hk => fin (I.kept hk)) ok.2.2
  cases rp with
  | non => cases ru; exact P.repr_of_none (fin (I.tok _))
  | bl b => cases ru; exact P.repr_of_bool (fin (I.tok _))
  | int i =>
    obtain ⟨t, rfl⟩ := ru
    exact P.repr_of_int (by simpa [PyData.showable] using ok.1) (fin (I.tok _))
  | str x =>
    obtain ⟨t, rfl⟩ := ru
    exact P.repr_of_str (fin (I.tok _)) ok.2.2
  | lst _ _ => exact big ru
  | tup _ _ => exact big ru
  | dic _ _ => exact big ru
def strG (ds : List D) (k : T → Prop) : Prop := ∃ xs, ds = [.tuple xs] ∧ showOk (.tuple xs) ∧ k (.va (.str (PyData.shown (.tuple xs))))
theorem dc_str (hb : (X.base.get? sysModules).isSome = true) (hg : X.A.guards = some []) (hu : X.A.units + 110 < cLine) : DCall X (.type "str") strG := fun pins s σ H F vs us ds k I sF ws rv ⟨d, e, ok, h⟩ => by
  subst e
  obtain ⟨v, rfl, w⟩ := ws.one
  obtain ⟨u, rfl, ru⟩ := rv.one
  have rp := w.rp sF
  obtain ⟨as, hr, hn⟩ := rp.readsD hb I ru
  cases rp with
  | tup _ _ =>
    cases ru
    exact str_of_reads hr ok.1 (fun _ => hn) hg (by have := ok.2.1; omega) (fun _ _ e => e) (fun h' u tk hk => ⟨.str _, H, I.kept hk, ⟨u, rfl⟩, NewV.val sF (.str _) h⟩) ok.2.2

/-! ### isinstance(x, T) -/
def tyD : D → String
  | .none => "NoneType"
  | .bool _ => "bool"
  | .int _ => "int"
  | .str _ => "str"
  | .list _ => "list"
  | .tuple _ => "tuple"
  | .dict _ => "dict"
def isB (d : D) (T : String) : Bool := tyD d == T || (T == "int" && tyD d == "bool")
theorem Vw.ty {K : PySem.W.Frag} {F H : Hp} {v : V} {d : D} (sF : Same F H) (w : Vw F H v d) : TyX K H v (.type (tyD d)) := by
  have r := w.rp sF
  cases r with
  | non => exact .base .non
  | bl b => exact .base (.bl b)
  | int i => exact .base (.int i)
  | str x => exact .base (.str x)
  | lst h _ => exact .base (.lst h)
  | tup h _ => exact .base (.tup h)
  | dic h _ =>
    rcases h with h | ⟨o, h⟩
    · exact .base (.dK h)
    · exact .fDict h
variable {Tq : List (Addr × Str)} {Z : Zb Tq} {e a b c o ix : Expr} {es : List Expr} {env : Env} {pos : Pos} {P : R → Env → Prop} {PO : Out → Prop}
theorem w_isi {T : Str} {t : String} {p p2 : Pos} (h : WA Z X e env fun a1 e1 => View a1 e1 fun d => P (.t (.va (.bool (isB d t)))) e1) (hk : ∀ d, kitB (tyD d) t = some (isB d t)) (hm : X.mg "isinstance" = none) (hmT : X.mg T = none) (hv : bootBuiltins T = some (.type t))
    (hg : Gl X "isinstance" := by rfl) (hgT : Gl X T := by rfl) (hn : T ≠ "__name__" := by decide) (hd : (T == ("__debug__" : Str)) = false := by decide)
    (he : starEach [e, .Name T p2] X.env = (false, eval e X.env) :: starEach [.Name T p2] X.env := by rfl) (he2 : starEach [.Name T p2] X.env = (false, eval (.Name T p2) X.env) :: starEach [] X.env := by rfl)
    (hpl : (backTo pos (starEach [.Name T p2] X.env)).any (·.1) = false := by rfl) : WE Z X (.Call (.Name "isinstance" p) [e, .Name T p2] [] pos) env P :=
  we_of (pe_callB (call_isi (X := X)) hg hm rfl (pa_cons (pe_A (Z := Z)) (pa_cons (pe_bltn (v := .ty t) hgT hmT hv rfl hn hd) pa_nil he2) he) (by decide) (by decide) he hpl) fun σ H F O b o => ⟨env, F, O, _, b, o, h, fun v H1 ⟨F1, O1, a1, e1, b1, o1, st, fr, p⟩ => by
    obtain ⟨d, w, q⟩ := View.vw p o1 st
    exact ⟨v, .ty t, .type (tyD d), .type t, isB d t, rfl, .ty t, w.ty b1.sub, kit_ty (hk d), (post_val b1 o1 (.bl _) q).from fr⟩⟩
theorem kit_int : ∀ d, kitB (tyD d) "int" = some (isB d "int") := by intro d; cases d <;> (simp only [isB, tyD]; decide +kernel)
theorem kit_bool : ∀ d, kitB (tyD d) "bool" = some (isB d "bool") := by intro d; cases d <;> (simp only [isB, tyD]; decide +kernel)
theorem kit_tuple : ∀ d, kitB (tyD d) "tuple" = some (isB d "tuple") := by intro d; cases d <;> (simp only [isB, tyD]; decide +kernel)

/-! ### a op b op c -/
theorem w_chain {op op' : CmpOp} {g g' : D → D → (T → Prop) → Prop} (ho : DOp X (compareOp op) g) (ho' : DOp X (compareOp op') g')
    (h : WA Z X a env fun a1 e1 => WA Z X b e1 fun a2 e2 => View a1 e2 fun d1 => View a2 e2 fun d2 => g d1 d2 fun t => ∃ k, t = .va (.bool k) ∧ (k = true → WA Z X c e2 fun a3 e3 => View a2 e3 fun d2' => View a3 e3 fun d3 => g' d2' d3 fun t => P (.t t) e3) ∧ (k = false → P (.t (.va (.bool false))) e2))
    (hm : lastMarks [op, op'] [b, c] = false := by with_unfolding_all rfl) : WE Z X (.Compare a [op, op'] [b, c] pos) env P :=
  we_of (pe_chain ho.r ho'.r (pe_A (Z := Z)) (pe_A (Z := Z)) (pe_A (Z := Z)) hm) fun σ H F O b0 o => by
    refine ⟨env, F, O, _, b0, o, h, fun v1 H1 ⟨F1, O1, a1, e1, b1, o1, st1, fr1, h1⟩ => ?_⟩
    refine ⟨e1, F1, O1, _, b1, o1, h1, fun v2 H2 ⟨F2, O2, a2, e2, b2, o2, st2, fr2, h2⟩ => ?_⟩
    obtain ⟨d1, w1, h3⟩ := View.vw h2 o2 (st1.mono fr2.fz)
    obtain ⟨d2, w2, h4⟩ := View.vw h3 o2 st2
    refine ⟨F2, d1, d2, _, b2.sub, w1, w2, h4, fun v H3 n => ?_⟩
    obtain ⟨F3, O3, r3, e3, b3, st3, fr3, ee, k, er, hT, hF⟩ := n.post b2 o2 (P := fun r e => e = e2 ∧ ∃ k, r = .t (.va (.bool k)) ∧ (k = true → WA Z X c e2 fun a3 e3 => View a2 e3 fun d2' => View a3 e3 fun d3 => g' d2' d3 fun t => P (.t t) e3) ∧ (k = false → P (.t (.va (.bool false))) e2))
      fun t ⟨k, e, q⟩ => ⟨rfl, k, by rw [e], q⟩
    subst er ee
    obtain ⟨Oa, Ob, rfl, o3, w3⟩ := st3
    cases w3 with
    | va r =>
      cases r with
      | bl k =>
        rw [List.append_nil] at b3 fr3
        refine ⟨k, rfl, ?_⟩
        cases k with
        | false => exact iteF ((post_val b3 o3 (.bl _) (hF rfl)).from ((fr1.trans fr2).trans fr3))
        | true =>
          refine iteT ⟨e3, F3, Oa, _, b3, o3, hT rfl, fun v4 H4 ⟨F4, O4, a3, e4, b4, o4, st4, fr4, h5⟩ => ?_⟩
          obtain ⟨d2', w5, h6⟩ := View.vw h5 o4 (st2.mono (fr3.fz.trans fr4.fz))
          obtain ⟨d3, w6, h7⟩ := View.vw h6 o4 st4
          exact ⟨F4, d2', d3, _, b4.sub, w5, w6, h7, fun v H' n => (n.post b4 o4 fun t q => q).from (((fr1.trans fr2).trans fr3).trans fr4)⟩

/-! ### tuple * int -/
theorem dop_mulT : DOp X (binaryOp .Mult) (fun d1 d2 k => match d1, d2 with
    | .tuple xs, .int n => xs ≠ [] ∧ xs.length ≤ 1000 ∧ 2 ≤ n ∧ n ≤ 1000 ∧ k (.va (.tuple (List.replicate n.toNat xs).flatten))
    | _, _ => False) := by
  intro pins s σ H F v1 v2 u1 u2 d1 d2 k I sF w1 w2 r1 r2 hg
  split at hg
  · rename_i xs n
    obtain ⟨p, vs, rfl, h1, q1⟩ := w1.tup
    cases w2.int
    obtain ⟨hne, hl, h2, h3, hk⟩ := hg
    refine op_repT pins s σ H _ _ u1 u2 _ I r1 r2 ⟨p, n, vs, rfl, rfl, SqT.of (sF _ _ h1), fun z => ?_, h2, h3, by rw [q1.len]; exact hl, fun p hp => NewV.tup sF (q1.rep _) hp hk⟩
    subst z
    cases q1
    exact hne rfl
  · exact hg.elim

/-! ### {}, {'a': x} -/
theorem NewV.dic {F H : Hp} {k : T → Prop} {p : Addr} {xs : List (Key × V)} {ds : List (Key × D)} (b : Same F H) (r : RpT F xs ds) (n : H p = none) (h : k (.dic p ds)) : NewV F H k (.ref p) (upd H p (.dK xs)) := by
  refine ⟨F, [p], .dic p ds, Same.refl _, same_new n, b.trans (same_new n), fun _ z => .inl z, List.nodup_cons.mpr ⟨fun z => (nomatch z), List.nodup_nil⟩, fun a ha => ?_, .dic upd_same r, h⟩
  rw [List.mem_singleton.mp ha]
  exact ⟨n, b.free n⟩
theorem w_dict0 (h : ∀ p, P (.t (.dic p [])) env) : WE Z X (.Dict [] [] pos) env P := we_of pe_dnewK fun σ H F O b o p hp => (NewV.dic b.sub .nil hp (k := fun t => t = .dic p []) rfl).post b o fun t e => by subst e; exact h p
/-- {key: e}, key a text -/
theorem w_dict1 {x : Str} {j : Nat} {p1 : Pos} (h : WE Z X e env fun r e1 => ∃ d, r = .t (.va d) ∧ ∀ p, P (.t (.dic p [(.inr x, d)])) e1) : WE Z X (.Dict [some (.Constant (.str x) j p1)] [e] pos) env P :=
  we_of (pe_disp (pps_cons pe_str (pe_E (Z := Z)) pps_nil) rfl rfl (by simp) (by simp)) fun σ H F O b o p hp => by
    -- the new dict stands aside while its value is made
    have bp : Bas Z F (upd H p (.dK [])) O := by
      have := b.grow o (Same.refl _) (same_new (o := .dK []) hp) (b.sub.trans (same_new hp)) fun _ z => .inl z
      exact this.1
    have op : OwE F (upd H p (.dK [])) O σ env := (b.grow o (Same.refl _) (same_new (o := .dK []) hp) (b.sub.trans (same_new hp)) fun _ z => .inl z).2.1
    have frp : Frm Tq H F O (upd H p (.dK [])) F O := (b.grow o (Same.refl _) (same_new (o := .dK []) hp) (b.sub.trans (same_new hp)) fun _ z => .inl z).2.2
    have hpO : p ∉ O := fun z => o.there p z hp
    refine ⟨env, F, O, _, bp, op, h, fun v H1 ⟨F1, O1, r1, e1, b1, st1, fr1, d, er, q⟩ => ?_⟩
    subst er
    obtain ⟨Oa, Ob, rfl, o1, w1⟩ := st1
    cases w1 with
    | va rd =>
      rw [List.append_nil] at b1 fr1
      have hp1 : H1 p = some (.dK []) := fr1.out p _ upd_same (fun _ z => nomatch z) hpO
      have fp : F p = none := b.sub.free hp
      have fp1 : F1 p = none := by
        cases z : F1 p with
        | none => rfl
        | some x =>
          rcases fr1.newF p (by rw [z]; exact fun z => nomatch z) with y | y | y
          · exact absurd fp y
          · rw [upd_same] at y; cases y
          · exact absurd y hpO
      have pa : p ∉ Oa := fun z => (fr1.newO p z).elim hpO fun y => by rw [upd_same] at y; cases y
      refine ⟨hp1, [(.inr x, v)], rfl, by simp, ?_⟩
      show Post Z σ H F O P (.ref p) (upd H1 p (.dK [(.inr x, v)]))
      have s1 : Same F1 (upd H1 p (.dK [(.inr x, v)])) := fun c y z => by
        rw [upd_ne fun y => by rw [y, fp1] at z; cases z]
        exact b1.sub c y z
      have keep : ∀ c ∈ Oa, upd H1 p (.dK [(.inr x, v)]) c = H1 c := fun c hc => upd_ne fun z => pa (z ▸ hc)
      have fr2 : Frm Tq H F O (upd H1 p (.dK [(.inr x, v)])) F1 (Oa ++ [p]) := by
        have f := frp.trans fr1
        refine ⟨f.fz, fun c y hc nt n => ?_, fun c hc => ?_, fun c hc => ?_, fun c hc => ?_, f.tb.trans (tab_own hp1)⟩
        · have : c ≠ p := fun z => by rw [z, hp] at hc; cases hc
          rw [upd_ne this]
          exact f.out c y hc nt n
        · by_cases z : c = p
          · subst z; rw [upd_same]; exact fun z => nomatch z
          · rw [upd_ne z]; exact f.al c hc
        · exact f.newF c hc
        · rcases List.mem_append.mp hc with z | z
          · exact f.newO c z
          · rw [List.mem_singleton.mp z]; exact .inr hp
      refine ⟨F1, Oa ++ [p], .t (.dic p [(.inr x, d)]), e1, ⟨s1, List.nodup_append.mpr ⟨b1.nd, List.nodup_cons.mpr ⟨fun z => (nomatch z), List.nodup_nil⟩, fun c hc c' hc' z => ?_⟩, fun c hc => ?_, b.abs.trans fr2⟩, ⟨Oa, [p], rfl, o1.stay (Same.refl _) keep, .dic upd_same (.cons rd .nil)⟩, fr2, q p⟩
      · rw [List.mem_singleton.mp hc'] at z
        exact pa (z ▸ hc)
      · rcases List.mem_append.mp hc with z | z
        · exact b1.dis c z
        · rw [List.mem_singleton.mp z]; exact fp1

/-! ### calls by name alone: f(b = e2, a = e1) -/
def pick {α : Type} (ns : List Nat) (xs : List α) : List α := ns.filterMap (xs[·]?)
theorem StAs.get {F : Hp} : ∀ {vs : List V} {as : List A} (i : Nat), StAs F vs as → (vs[i]? = none ∧ as[i]? = none) ∨ ∃ v a, vs[i]? = some v ∧ as[i]? = some a ∧ StA F v a
  | _, _, _, .nil => .inl ⟨rfl, rfl⟩
  | _, _, 0, .cons h r => .inr ⟨_, _, rfl, rfl, h⟩
  | _, _, i + 1, .cons h r => r.get i
theorem StAs.pick {F : Hp} {vs : List V} {as : List A} (h : StAs F vs as) : ∀ ns : List Nat, StAs F (QL.pick ns vs) (QL.pick ns as)
  | [] => .nil
  | n :: ns => by
    unfold QL.pick
    rcases h.get n with ⟨e1, e2⟩ | ⟨v, a, e1, e2, r⟩
    · rw [List.filterMap_cons_none e1, List.filterMap_cons_none e2]
      exact h.pick ns
    · rw [List.filterMap_cons_some e1, List.filterMap_cons_some e2]
      exact .cons r (h.pick ns)
theorem vals_pick {vs : List V} {us : List Value} (h : Vals vs us) : ∀ ns : List Nat, Vals (pick ns vs) (pick ns us)
  | [] => .nil
  | n :: ns => by
    unfold pick
    cases hv : vs[n]? with
    | none =>
      have hu : us[n]? = none := by
        rw [List.getElem?_eq_none_iff] at hv ⊢
        rw [← h.length]; exact hv
      rw [List.filterMap_cons_none hv, List.filterMap_cons_none hu]
      exact vals_pick h ns
    | some v =>
      obtain ⟨u, hu, r⟩ := h.get hv
      rw [List.filterMap_cons_some hv, List.filterMap_cons_some hu]
      exact .cons r (vals_pick h ns)
/-- how such a call binds: the names as they are written, their places in the parameters' order -/
def KwOk (K : PySem.W.Frag) (fd : FuncData) (ps ks : List Str) (ns : List Nat) : Prop := ∀ (s : Shared) (us : List Value), K.In s.heap → us.length = ks.length → BindsTo s fd ⟨[], ks.zip us⟩ (ps.zip (pick ns us))
theorem StAs.len {F : Hp} : ∀ {vs : List V} {as : List A}, StAs F vs as → vs.length = as.length
  | _, _, .nil => rfl
  | _, _, .cons _ r => congrArg (· + 1) r.len
theorem w_callK {k : Nat} {f : Addr} {fd : FuncData} {ps ks : List Str} {ns : List Nat} {sp : Spc} {x : Str} {p : Pos} {kws : List Keyword} {ET : Ex → Env → Prop} (G : FnG X.prog X.w X.K X.mg X.base Tq k f fd ps sp) (hr : Room k X.A) (hgd : X.A.guards = some []) (tk : Takes X (wxOf Z ET))
    (hm : X.mg x = some (.ref f)) (hk : PySem.W.keepIn X.K (.ref f) = true) (hb : KwOk X.K fd ps ks ns) (h : WKs Z X kws env fun as e1 => as.length = ks.length ∧ callD sp (pick ns as) e1 (fun t e => P (.t t) e) ET)
    (hks : (backToKw pos (keywordEach kws X.env)).filterMap (·.1) = ks := by rfl) (hall : (backToKw pos (keywordEach kws X.env)).all (·.1.isSome) = true := by rfl)
    (hg : Gl X x := by rfl) (hdb : (x == ("__debug__" : Str)) = false := by decide) (hpl : ((backTo pos (starEach [] X.env)).any (·.1) || (backToKw pos (keywordEach kws X.env)).any (·.1.isNone)) = false := by rfl) :
    WE Z X (.Call (.Name x p) [] kws pos) env P := fun pins s σ H F O I b o => by
  refine wpAny_Call_Name_kw (ld_glob I hg hm ?_ hdb)
  refine PySem.W.callWith_KW0 (h₀ := X.base) (first := []) I.ok.mod.kin hk hall (thn ((pk_Ks (Z := Z)).run pos pins s σ H (PostAs Z σ H F O _) I ⟨env, F, O, _, b, o, h, fun _ _ q => q⟩) fun us s1 ⟨vs, H1, I1, r, F1, O1, as, e1, b1, o1, st, fr, hl, q⟩ => ⟨I1.kIn, ?_⟩) hpl
  rw [hks]
  exact thn (call_g (us0 := []) (us := pick ns us) G hr hgd tk (hb s1 us I1.kIn (by rw [← r.length, st.len]; exact hl)) I1 b1 o1 (st.pick ns) (vals_pick r ns) q) (EP.imp fun v H' q => q.from fr)

/-! ### the script: a list that stands in the written part -/
def scT (K : PySem.W.Frag) (a : Addr) (ns : List Int) : T := .ob (some a) fun F _ O v => v = .ref a ∧ O = [] ∧ SqL K F a (ns.map V.int)
theorem sql_mono {K : PySem.W.Frag} {F F' : Hp} {a : Addr} {xs : List V} (s : Same F F') (h : SqL K F a xs) : SqL K F' a xs := by
  rcases h with h | h
  · exact .inl (rd_mono s h)
  · exact .inr h
theorem scT_ow {K : PySem.W.Frag} {F H : Hp} {a : Addr} {ns : List Int} (h : SqL K F a (ns.map V.int)) : Ow F H [] (.ref a) (scT K a ns) :=
  .ob ⟨rfl, rfl, h⟩ ⟨fun F H F' H' O v ⟨h1, h2, h3⟩ s _ => ⟨h1, h2, sql_mono s h3⟩, fun F H O v ⟨_, h2, _⟩ b hb => (by subst h2; cases hb), fun F H O v b ⟨h1, _, _⟩ e => by cases e; exact h1⟩
theorem sc_at {Tq : List (Addr × Str)} {Z : Zb Tq} {F H : Hp} {O : List Addr} {σ : L2.St} {env : Env} {i : Nat} {K : PySem.W.Frag} {a : Addr} {ns : List Int} (b : Bas Z F H O) (o : OwE F H O σ env) (hg : env[i]? = some (some (scT K a ns))) : σ[i]? = some (some (.ref a)) ∧ SqL K H a (ns.map V.int) := by
  obtain ⟨w, hw, Oj, O', h1, h2, h3⟩ := o.focusI hg
  cases h1 with
  | ob h _ =>
    obtain ⟨e, _, q⟩ := h
    subst e
    exact ⟨hw, sql_mono b.sub q⟩
theorem w_scLen (i : Nat) {x : Str} {p p2 : Pos} {a : Addr} {ns : List Int} (hm : X.mg "len" = none) (he : env[i]? = some (some (scT X.K a ns))) (h : P (.t (.va (.int ns.length))) env) (hN : X.N[i]? = some x := by rfl)
    (hg : Gl X "len" := by rfl) (hv : Vis X.env.scope x := by first | exact Or.inl rfl | exact Or.inr (Or.inl rfl) | exact Or.inr (Or.inr rfl)) (hd : (x == ("__debug__" : Str)) = false := by decide) (hcd : (x == ("__classdict__" : Str)) = false := by decide)
    (hs : starEach [.Name x p2] X.env = (false, eval (.Name x p2) X.env) :: starEach [] X.env := by rfl) (hpl : (backTo pos (starEach [] X.env)).any (·.1) = false := by rfl) : WE Z X (.Call (.Name "len" p) [.Name x p2] [] pos) env P :=
  we_of (pe_callB call_len_seq hg hm rfl (pa_cons (pe_var hN hv hd hcd) pa_nil hs) (by decide) (by decide) hs hpl) fun σ H F O b o => by
    obtain ⟨e1, q⟩ := sc_at b o he
    refine ⟨_, e1, a, _, rfl, .inl q, ?_⟩
    rw [List.length_map]
    exact post_val b o (.int _) h
theorem w_scIx (i j : Nat) {x y : Str} {p p2 : Pos} {a : Addr} {ns : List Int} {n : Int} {m : Int} (he : env[i]? = some (some (scT X.K a ns))) (hj : env[j]? = some (some (.va (.int n)))) (ha : atI ns n = some m) (h : P (.t (.va (.int m))) env) (hN : X.N[i]? = some x := by rfl) (hM : X.N[j]? = some y := by rfl)
    (hv : Vis X.env.scope x := by first | exact Or.inl rfl | exact Or.inr (Or.inl rfl) | exact Or.inr (Or.inr rfl)) (hd : (x == ("__debug__" : Str)) = false := by decide) (hcd : (x == ("__classdict__" : Str)) = false := by decide)
    (hv2 : Vis X.env.scope y := by first | exact Or.inl rfl | exact Or.inr (Or.inl rfl) | exact Or.inr (Or.inr rfl)) (hd2 : (y == ("__debug__" : Str)) = false := by decide) (hcd2 : (y == ("__classdict__" : Str)) = false := by decide)
    (hs : PlainIx (.Name y p2) := by intro _ _; rfl) : WE Z X (.Subscript (.Name x p) (.Name y p2) pos) env P :=
  we_of (pe_ix ix_list (pe_var hN hv hd hcd) (pe_var hM hv2 hd2 hcd2) hs) fun σ H F O b o => by
    obtain ⟨e1, q⟩ := sc_at b o he
    obtain ⟨w, hw, Oj, O', h1, h2, h3⟩ := o.focusI hj
    cases h1 with
    | va r =>
      cases r
      refine ⟨_, e1, _, hw, a, _, n, .int m, rfl, rfl, q, ?_, post_val b o (.int _) h⟩
      unfold atI at ha ⊢
      rw [List.length_map]
      cases hn : ixN ns.length n with
      | none => rw [hn] at ha; cases ha
      | some k =>
        rw [hn] at ha
        have ha : ns[k]? = some m := ha
        show (ns.map V.int)[k]? = some (V.int m)
        rw [List.getElem?_map, ha]
        rfl
end
end QL

/-! QI: methods of lists, starred displays, sums of tuples, zip as what is walked, repr without dicts. -/
namespace QL
open PySem PySem.Spec PyProof.Rows L2 StX

section
variable {X : Cx} {Tq : List (Addr × Str)} {Z : Zb Tq} {e a b c o ix tg : Expr} {es : List Expr} {env : Env} {pos : Pos} {P : R → Env → Prop} {PO : Out → Prop}

/-! ### repr -/
def showOk0 (d : D) : Prop := d.hasDict = false ∧ showOk d
def reprG0 (ds : List D) (k : T → Prop) : Prop := ∃ d, ds = [d] ∧ showOk0 d ∧ k (.va (.str d.shown))
theorem dc_repr0 (hg : X.A.guards = some []) (hu : X.A.units + 110 < cLine) : DCall X (.builtin "repr") reprG0 := fun pins s σ H F vs us ds k I sF ws rv ⟨d, e, ⟨nd, ok⟩, h⟩ => by
  subst e
  obtain ⟨v, rfl, w⟩ := ws.one
  obtain ⟨u, rfl, ru⟩ := rv.one
  have rp := w.rp sF
  have fin : ∀ {h' : Heap} {t tk : Nat}, Inv X pins σ H { s with heap := h', toks := tk } → EP X pins σ (NewV F H k) (.str d.shown t) { s with heap := h', toks := tk } := fun {h' t tk} I' => ⟨.str d.shown, H, I', ⟨t, rfl⟩, NewV.val sF (.str _) h⟩
  have big : ∀ {a : Addr}, u = .ref a → wpAny (model X.prog X.w) X.A (call (.builtin "repr") [u]) (EP X pins σ (NewV F H k)) X.xe s := fun {a} e => by
    obtain ⟨as, hr⟩ := rp.reads I ru nd
    subst e
    exact repr_of_reads' hr ok.1 (PyData.noDict_hsm nd) hg (by have := ok.2.1; omega) (fun _ _ e => e) (fun h' u tk hk => fin (I.kept hk)) ok.2.2
  cases rp with
  | non => cases ru; exact P.repr_of_none (fin (I.tok _))
  | bl b => cases ru; exact P.repr_of_bool (fin (I.tok _))
  | int i =>
    obtain ⟨t, rfl⟩ := ru
    exact P.repr_of_int (by simpa [PyData.showable] using ok.1) (fin (I.tok _))
  | str x =>
    obtain ⟨t, rfl⟩ := ru
    exact P.repr_of_str (fin (I.tok _)) ok.2.2
  | lst _ _ => exact big ru
  | tup _ _ => exact big ru
  | dic _ _ => cases nd

/-! ### xs.append(e), xs.pop() -/
theorem lst_at {F H : Hp} {O : List Addr} {σ : L2.St} {a : Addr} {i : Nat} {p : List Str} {ds : List D} {K : PySem.W.Frag} (o : OwE F H O σ env) (hg : getP i p env = some (.lst a ds)) : tyV K "list" (.ref a) H := by
  obtain ⟨w, ⟨Oj, O', h1, h2, h3⟩, _⟩ := o.focus hg
  cases h1 with
  | lst hH r => exact .inl ⟨rfl, _, SqL.of hH⟩
theorem w_append {apos : Pos} (h : WE Z X o env fun r e1 => ∃ a i p ds0, r = .bor a i p ∧ getP i p e1 = some (.lst a ds0) ∧ WA Z X e e1 fun a1 e2 => absorb [a1] e2 fun ds e3 => ∃ d ds1, ds = [d] ∧ getP i p e3 = some (.lst a ds1) ∧ ds1.length < sizeLine ∧ P (.t (.va .none)) (setP i p (.lst a (ds1 ++ [d])) e3))
    (hbase : attributeBase o "append" X.env (eval o X.env) = eval o X.env := by rfl)
    (hfew : ((backTo pos (starEach [e] X.env)).all (fun x => !x.1) && (backToKw pos (keywordEach [] X.env)).all (fun x => x.1.isSome)
      && decide (([e] : List Expr).length + ([] : List Keyword).length + (if ([] : List Keyword).isEmpty then 0 else 1) < 30)) = true := by rfl)
    (hline : (apos.endLine == pos.line) = true := by rfl) (hs : starEach [e] X.env = (false, eval e X.env) :: starEach [] X.env := by rfl) (hpl : (backTo pos (starEach [] X.env)).any (·.1) = false := by rfl) :
    WE Z X (.Call (.Attribute o "append" apos) [e] [] pos) env P :=
  we_of (pe_bm PySem.F.plainAttrs_list PySem.F.slot_list_append PySem.F.type_list_append mt_append (pe_E (Z := Z)) (pa_cons (pe_A (Z := Z)) pa_nil hs) hbase hfew hline hs hpl) fun σ H F O b0 o0 =>
    ⟨env, F, O, _, b0, o0, h, fun v H1 ⟨F1, O1, r, e1, b1, st, fr1, a, i, p, ds0, er, hg, q⟩ => by
      subst er
      obtain ⟨o1, ev⟩ := st
      subst ev
      refine ⟨lst_at o1 hg, e1, F1, O1, _, b1, o1, q, fun v2 H2 ⟨F2, O2, a2, e2, b2, o2, st2, fr2, q2⟩ => ?_⟩
      obtain ⟨F3, O3, ds, e3, b3, o3, r3, fr3, d, ds1, eds, hg3, hz, q3⟩ := absorb_ok (.cons st2 .nil) b2 o2 q2
      subst eds
      cases r3 with
      | cons r3 rn =>
        cases rn
        obtain ⟨xs, hH, rx, up⟩ := mutL b3 o3 hg3
        obtain ⟨O4, b4, o4, fr4⟩ := up (xs ++ [v2]) (ds1 ++ [d]) (rx.app (.cons r3 .nil))
        exact ⟨a, xs, v2, rfl, rfl, hH, by rw [rx.len]; exact hz, (post_val b4 o4 .non q3).from (((fr1.trans fr2).trans fr3).trans fr4)⟩⟩
theorem RpA.dropLast {F : Hp} {vs : List V} {ds : List D} (r : RpA F vs ds) : RpA F vs.dropLast ds.dropLast := by
  rw [List.dropLast_eq_take, List.dropLast_eq_take, r.len]
  exact r.take _
theorem w_pop {apos : Pos} (h : WE Z X o env fun r e1 => ∃ a i p ds d, r = .bor a i p ∧ getP i p e1 = some (.lst a ds) ∧ ds[ds.length - 1]? = some d ∧ P (.t (.va d)) (setP i p (.lst a ds.dropLast) e1))
    (hbase : attributeBase o "pop" X.env (eval o X.env) = eval o X.env := by rfl) (hline : (apos.endLine == pos.line) = true := by rfl) : WE Z X (.Call (.Attribute o "pop" apos) [] [] pos) env P :=
  we_of (pe_bm0 PySem.F.plainAttrs_list PySem.F.slot_list_pop PySem.F.type_list_pop mt_pop (pe_E (Z := Z)) hbase hline) fun σ H F O b0 o0 => ⟨env, F, O, _, b0, o0, h, fun v H1 ⟨F1, O1, r, e1, b1, st, fr1, a, i, p, ds, d, er, hg, hd, q⟩ => by
    subst er
    obtain ⟨o1, ev⟩ := st
    subst ev
    refine ⟨lst_at o1 hg, ?_⟩
    obtain ⟨xs, hH, rx, up⟩ := mutL b1 o1 hg
    obtain ⟨O4, b4, o4, fr4⟩ := up xs.dropLast ds.dropLast rx.dropLast
    obtain ⟨y, hy, ry⟩ := rx.get' hd
    exact ⟨a, xs, y, rfl, rfl, hH, by rw [rx.len]; exact hy, (post_val b4 o4 ry q).from (fr1.trans fr4)⟩⟩

/-! ### (x, *xs) -/
theorem w_tupStar {x1 : _} {sp : Pos} (h : WA Z X a env fun a1 e1 => WA Z X b e1 fun a2 e2 => absorb [a1, a2] e2 fun ds e3 => ∃ d xs, ds = [d, .tuple xs] ∧ xs.length < sizeLine ∧ P (.t (.va (.tuple (d :: xs)))) e3)
    (hs : starEach [a, .Starred b sp] X.env = (false, eval a X.env) :: starEach [.Starred b sp] X.env := by rfl) (hs2 : starEach [.Starred b sp] X.env = (true, eval b X.env) :: starEach [] X.env := by rfl) :
    WE Z X (.Tuple [a, .Starred b sp] x1 pos) env P :=
  we_of (pe_tup (pa_cons (pe_A (Z := Z)) (pa_star (pe_A (Z := Z)) pa_nil hs2) hs)) fun σ H F O b0 o0 => ⟨env, F, O, _, b0, o0, h, fun v1 H1 ⟨F1, O1, a1, e1, b1, o1, st1, fr1, q1⟩ => ⟨e1, F1, O1, _, b1, o1, q1, fun v2 H2 ⟨F2, O2, a2, e2, b2, o2, st2, fr2, q2⟩ => by
    obtain ⟨F3, O3, ds, e3, b3, o3, r3, fr3, d, xs, eds, hz, q3⟩ := absorb_ok (.cons (st1.mono fr2.fz) (.cons st2 .nil)) b2 o2 q2
    subst eds
    cases r3 with
    | cons r3 rn =>
      cases rn with
      | cons r4 rn =>
        cases rn
        cases r4 with
        | tup h4 r4 =>
          refine ⟨_, _, rfl, .inl (SqT.of (b3.sub _ _ h4)), ?_⟩
          refine ⟨by rw [List.length_cons, List.length_append, r4.len]; exact hz, fun p hp => ?_⟩
          rw [List.append_nil]
          exact ((NewV.tup b3.sub (.cons r3 r4) hp (k := fun t => t = .va (.tuple (d :: xs))) rfl).post b3 o3 (fun t e => by subst e; exact q3)).from ((fr1.trans fr2).trans fr3)⟩⟩

/-! ### sum of a list or a tuple -/
def rSumT (K : PySem.W.Frag) : List V → Hp → VK → Prop := fun vs H Q => ∃ (a : Addr) (ns : List Int), vs = [V.ref a] ∧ SqT K H a (ns.map V.int) ∧ Q (.int ns.sum) H
theorem cr_sumT (hc : X.calm = true) : CallR X (.builtin "sum") (rSumT X.K) := by
  intro pins s σ H vs us Q I r ⟨a, ns, e, hs, q⟩
  subst e
  obtain ⟨its, rv, hl, _⟩ := I.tuple hs
  rw [Vals.ref1 r]
  have hl : s.heap.IsTuple a its.toArray := hl
  have hi := rv.ints
  obtain ⟨xs, ex⟩ := hi.allInts.items
  have hn := hi.numsOf
  rw [show its = its.toArray.toList from rfl, ex, nums_intItems] at hn
  rw [ex] at hl
  refine PySem.W.ktm_sumG (I.ok.hd hc) hl fun h' tk t' hk => ?_
  rw [preSum_eq, List.take_of_length_le (by simp), hn]
  exact ⟨.int ns.sum, H, I.kept hk, ⟨t', rfl⟩, q⟩
def sumAG (ds : List D) (k : T → Prop) : Prop := ∃ ns : List Int, (ds = [.list (ns.map .int)] ∨ ds = [.tuple (ns.map .int)]) ∧ k (.va (.int ns.sum))
theorem dc_sumA (hc : X.calm = true) : DCall X (.builtin "sum") sumAG := .of ((cr_sum hc).or (cr_sumT hc)) fun H F vs ds k sF ws ⟨ns, e, h⟩ => by
  rcases e with e | e
  · subst e
    obtain ⟨v, rfl, w⟩ := ws.one
    obtain ⟨p, xs, rfl, h1, r1⟩ := w.lst' sF
    exact .inl ⟨p, ns, rfl, by rw [← r1.ints]; exact SqL.of h1, NewV.val sF (.int _) h⟩
  · subst e
    obtain ⟨v, rfl, w⟩ := ws.one
    obtain ⟨p, xs, rfl, h1, r1⟩ := w.tup
    exact .inr ⟨p, ns, rfl, by rw [← r1.ints]; exact SqT.of (sF _ _ h1), NewV.val sF (.int _) h⟩

/-! ### for x, y in zip(t, u), t and u tuples -/
def zipD (xs ys : List D) : List D := (xs.zip ys).map fun p => .tuple [p.1, p.2]
theorem gives_zipT {K : PySem.W.Frag} {a b : Addr} {xs ys : List V} {ds es : List D} {F : Hp} (h1 : F a = some (.tup xs)) (r1 : RpA F xs ds) (h2 : F b = some (.tup ys)) (r2 : RpA F ys es) : Gives (RZ.ItzT K a b) (zipD ds es) F := fun F' H' s1 s2 i => by
  have q1 : SqT K H' a xs := SqT.of (s2 _ _ (s1 _ _ h1))
  have q2 : SqT K H' b ys := SqT.of (s2 _ _ (s1 _ _ h2))
  refine ⟨fun d hd => ?_, fun hn => ?_⟩
  · unfold zipD at hd
    rw [List.getElem?_map, Option.map_eq_some_iff] at hd
    obtain ⟨⟨d1, d2⟩, hz, e⟩ := hd
    rw [List.getElem?_zip_eq_some] at hz
    subst e
    obtain ⟨v1, g1, w1⟩ := r1.get' hz.1
    obtain ⟨v2, g2, w2⟩ := r2.get' hz.2
    refine ⟨⟨xs, ys, v1, v2, q1, q2, g1, g2⟩, fun v H'' ⟨T, x, y, ev, hT, eH, f1, f2⟩ => ?_⟩
    subst ev eH
    have e1 := (f1 xs q1).symm.trans g1
    have e2 := (f2 ys q2).symm.trans g2
    cases e1
    cases e2
    have nf : F' T = none := s2.free hT
    refine ⟨upd F' T (.tup [v1, v2]), .tup upd_same (.cons (w1.mono (s1.trans (same_new nf))) (.cons (w2.mono (s1.trans (same_new nf))) .nil)), same_new nf, same_new hT, same_upd2 s2, fun c hc => ?_⟩
    by_cases z : c = T
    · subst z; exact .inr hT
    · rw [upd_ne z] at hc; exact .inl hc
  · unfold zipD at hn
    rw [List.getElem?_eq_none_iff, List.length_map, List.length_zip] at hn
    have e1 := r1.len
    have e2 := r2.len
    exact ⟨xs, ys, q1, q2, by omega⟩
def zipG (ds : List D) (k : List D → Prop) : Prop := match ds with
  | [.tuple xs, .tuple ys] => k (zipD xs ys)
  | _ => False
theorem wi_zip {P : List D → Env → Prop} {p tpos : Pos} {elts : List Expr} {kk : Nat} (hm : X.mg "zip" = none) (h : WAs Z X [a, b] env fun as e1 => absorb as e1 fun ds e2 => zipG ds fun xs => P xs e2) (hg : Gl X "zip" := by rfl)
    (hs : starEach [a, b] X.env = (false, eval a X.env) :: starEach [b] X.env := by rfl) (hpl : (backTo pos (starEach [b] X.env)).any (·.1) = false := by rfl) : WI Z X (.Tuple elts kk tpos) (.Call (.Name "zip" p) [a, b] [] pos) env P :=
  wi_of (RZ.pi_zipA hg hm (pa_As (Z := Z)) hs hpl) fun σ H F O b0 o0 => ⟨env, F, O, _, b0, o0, h, fun vs H1 ⟨F1, O1, as, e1, b1, o1, st, fr, q⟩ => by
    obtain ⟨F2, O2, ds, e2, b2, o2, r2, fr2, q⟩ := absorb_ok st b1 o1 q
    unfold zipG at q
    split at q
    · cases r2 with
      | cons r3 rn =>
        cases rn with
        | cons r4 rn =>
          cases rn
          cases r3 with
          | tup h3 r3 =>
            cases r4 with
            | tup h4 r4 => exact ⟨_, _, _, _, rfl, .inr ⟨SqT.of (b2.sub _ _ h3), SqT.of (b2.sub _ _ h4), F2, O2, _, e2, b2, o2, fr.trans fr2, gives_zipT h3 r3 h4 r4, q⟩⟩
    · exact q.elim⟩
end
end QL

/-! QZ: list(it) and tuple(it) where what the iterator gives is seen in the heap; zip of two tuples. -/
namespace QL
open PySem PySem.Spec PyProof.Rows L2

/-- an iterator at I that is walked into the list at S: the values so far, and what the heap then is -/
structure Src (prog : Program) (w : World) (A : Around) (S I : Addr) (wr : List Addr) (n : Nat) (St : Nat → List Value → Heap → Prop) (Fn : List Value → Heap → Prop) : Prop where
  notS : S ∉ wr
  neS : S ≠ I
  frame : ∀ i acc h h', St i acc h → (∀ b o, b ≠ S → h.get? b = some o → h'.get? b = some o) → (∃ o, h'.get? S = some o) → St i acc h'
  item : ∀ i acc (s : Shared) (Q : Option Value → Shared → Prop) (E : Value → Shared → Prop), i < n → St i acc s.heap →
    (∀ v h' tk, St (i + 1) (acc ++ [v]) h' → (∀ b o, b ∉ wr → s.heap.get? b = some o → h'.get? b = some o) → Q (some v) { s with heap := h', toks := tk }) → wpAny (model prog w) A (pyNext (.ref I)) Q E s
  done : ∀ acc (s : Shared) (Q : Option Value → Shared → Prop) (E : Value → Shared → Prop), St n acc s.heap →
    (∀ h' tk, Fn acc h' → (∀ b o, b ∉ wr → s.heap.get? b = some o → h'.get? b = some o) → Q none { s with heap := h', toks := tk }) → wpAny (model prog w) A (pyNext (.ref I)) Q E s
  self : ∀ acc (s : Shared) (Q : Value → Shared → Prop) (E : Value → Shared → Prop), St 0 acc s.heap → Q (.ref I) s → wpAny (model prog w) A (pyIter (.ref I)) Q E s
abbrev lstObj (acc : List Value) (c : Nat) : Obj := { cls := .type "list", data := .seq acc.toArray c }
section
variable {prog : Program} {w : World} {A : Around} {S I : Addr} {wr : List Addr} {n : Nat} {St : Nat → List Value → Heap → Prop} {Fn : List Value → Heap → Prop} {R : Result → Shared → Prop}
theorem src_loop (W : Src prog w A.in1 S I wr n St Fn) (hn : n ≤ sizeLine) (res : Value) : ∀ (k i : Nat) (s : Shared) (acc : List Value) (c : Nat), n - i = k → i ≤ n → acc.length = i → St i acc s.heap → s.heap.get? S = some (lstObj acc c) →
    (∀ h' tk acc' c', Fn acc' h' → acc'.length = n → h'.get? S = some (lstObj acc' c') → (∀ b o, b ≠ S → b ∉ wr → s.heap.get? b = some o → h'.get? b = some o) → R (.ok (.ret res)) { s with heap := h', toks := tk }) →
    codeAny (model prog w) A (.builtin "list.extend.loop" ⟨[.ref S, .ref I, res], []⟩) R s := by
  intro k
  induction k with
  | zero =>
    intro i s acc c hk hi hl hst hS hR
    have e : i = n := by omega
    subst e
    refine codeAny_builtin F.entry_extend_loop ?_
    rw [Around.under_plainId F.plain_extend_loop _]
    show wpAny _ A.in1 (pyNext (.ref I) >>= _) _ _ s
    exact wpAny_bind (W.done acc s _ _ hst fun h' tk hst' kp => wpAny_pure (hR h' tk acc c hst' hl (kp S _ W.notS hS) fun b o _ hb e => kp b o hb e))
  | succ k ih =>
    intro i s acc c hk hi hl hst hS hR
    have hlt : i < n := by omega
    refine codeAny_builtin F.entry_extend_loop ?_
    rw [Around.under_plainId F.plain_extend_loop _]
    show wpAny _ A.in1 (pyNext (.ref I) >>= _) _ _ s
    refine wpAny_bind (W.item i acc s _ _ hlt hst fun v h' tk hst' kp => ?_)
    have hS' : h'.get? S = some (lstObj acc c) := kp S _ W.notS hS
    show wpAny _ A.in1 (updateSeq S (·.push v) >>= _) _ _ _
    refine wpAny_bind ?_
    have hu := PySem.IsL.update hS' (·.push v)
    rw [show acc.toArray.push v = (acc ++ [v]).toArray by simp] at hu
    refine wpAny_updateSeq (s := { s with heap := h', toks := tk }) hS' rfl (wpAny_pure ⟨plainId_quiet F.plain_extend_loop _, ?_⟩) (by rw [List.size_toArray]; omega) (by show (acc.toArray.push v).size ≤ sizeLine + 1; rw [Array.size_push, List.size_toArray]; omega)
    refine ih (i + 1) { s with heap := h'.update S (Obj.mapSeq (·.push v)), toks := tk } (acc ++ [v]) _ (by omega) hlt (by rw [List.length_append, hl]; rfl) ?_ hu fun h2 tk2 acc2 c2 s2 l2 g2 k2 => ?_
    · exact W.frame _ _ _ _ hst' (fun b o hb e => (Heap.get?_update_other _ _ (Ne.symm hb)).trans e) ⟨_, hu⟩
    · exact hR h2 tk2 acc2 c2 s2 l2 g2 fun b o hb hw e => k2 b o hb hw ((Heap.get?_update_other _ _ (Ne.symm hb)).trans (kp b o hw e))

/-- the type of such an iterator tells no length -/
structure Mute (T : String) : Prop where
  len : typeLookup (.type T) "__len__" = pure none
  hint : typeLookup (.type T) "__length_hint__" = pure none
  nl : (Value.type T == Value.type "list") = false
  nt : (Value.type T == Value.type "tuple") = false
theorem mute_zip : Mute "zip" := ⟨by rw [typeLookup_type, builtinLookup_eq_fast]; kernel_rfl, by rw [typeLookup_type, builtinLookup_eq_fast]; kernel_rfl, by decide, by decide⟩
theorem src_extend {T : String} (m : Mute T) (W : Src prog w A.in1 S I wr n St Fn) (hn : n ≤ sizeLine) (res : Value) (s : Shared) (c : Nat) (hT : ∀ i acc (s' : Shared), St i acc s'.heap → s'.TypeIs (.ref I) T) (hst : St 0 [] s.heap) (hS : s.heap.get? S = some (lstObj [] c))
    (hR : ∀ h' tk acc' c', Fn acc' h' → acc'.length = n → h'.get? S = some (lstObj acc' c') → (∀ b o, b ≠ S → b ∉ wr → s.heap.get? b = some o → h'.get? b = some o) → R (.ok (.ret res)) { s with heap := h', toks := tk }) :
    wpAny (model prog w) A.in1 (Builtin.List.listExtendWith (.ref S) (.ref I) res)
      (fun fin s' => match fin with | .done f => R (.ok f) s' | .again c' => c'.quiet = true ∧ codeAny (model prog w) A c' R s') (fun e s' => R (.error e) s') s := by
  unfold Builtin.List.listExtendWith
  have h0 := hT 0 [] s hst
  refine wpAny_bind (wpAny_typeOf h0 ?_)
  have h1 : Builtin.List.listSameRef (.ref S) (.ref I) = false := by simp [Builtin.List.listSameRef, W.neS]
  simp only [h1, m.nl, m.nt, Bool.or_false, Bool.false_eq_true, if_false]
  refine wpAny_bind (W.self [] _ _ _ hst ?_)
  refine wpAny_bind (wpAny_holding ?_)
  unfold Builtin.List.listLengthHint
  refine wpAny_bind (wpAny_specialOf h0 m.len ?_)
  show wpAny _ A.in1 (specialOf (Value.ref I) (Str.ofString "__length_hint__") >>= _) _ _ _
  refine wpAny_bind (wpAny_specialOf h0 m.hint ?_)
  refine wpAny_pure ?_
  show wpAny _ A.in1 (rule "list.extend.makes-room" >>= fun _ => Builtin.List.listTouch (.ref S) >>= fun _ => again (.builtin "list.extend.loop" ⟨[.ref S, .ref I, res], []⟩)) _ _ _
  refine wpAny_bind (wpAny_rule ?_)
  refine wpAny_bind ?_
  show wpAny _ A.in1 (updateSeq S (·.push .none) >>= fun _ => updateSeq S (·.pop)) _ _ _
  refine wpAny_bind (wpAny_updateSeq hS rfl ?_)
  have g1 := Heap.get?_update_self (Obj.mapSeq (·.push Value.none)) hS rfl
  refine wpAny_updateSeq g1 rfl ?_
  have g2 := Heap.get?_update_self (Obj.mapSeq (·.pop)) g1 rfl
  have out : ∀ b o, b ≠ S → s.heap.get? b = some o → ((s.heap.update S (Obj.mapSeq (·.push Value.none))).update S (Obj.mapSeq (·.pop))).get? b = some o := fun b o hb e =>
    (Heap.get?_update_other _ _ (Ne.symm hb)).trans ((Heap.get?_update_other _ _ (Ne.symm hb)).trans e)
  exact wpAny_pure ⟨plainId_quiet F.plain_extend_loop _, src_loop W hn res n 0 { s with heap := (s.heap.update S (Obj.mapSeq (·.push Value.none))).update S (Obj.mapSeq (·.pop)) } [] _ (Nat.sub_zero n) (Nat.zero_le _) rfl (W.frame _ _ _ _ hst out ⟨_, g2⟩) g2
    fun h' tk acc' c' s2 l2 g k => hR h' tk acc' c' s2 l2 g fun b o hb hw e => k b o hb hw (out b o hb e)⟩
variable {E : Value → Shared → Prop} {s : Shared}
/-- list(it) -/
theorem call_list_src {T : String} (m : Mute T) {Q : Value → Shared → Prop} (W : Src prog w A.in1.in1 s.heap.objs.size I wr n St Fn) (hn : n ≤ sizeLine) (hT : ∀ i acc (s' : Shared), St i acc s'.heap → s'.TypeIs (.ref I) T)
    (hst : ∀ h', (∀ b o, s.heap.get? b = some o → h'.get? b = some o) → (∃ o, h'.get? s.heap.objs.size = some o) → St 0 [] h')
    (hQ : ∀ h' tk acc c, Fn acc h' → acc.length = n → h'.get? s.heap.objs.size = some (lstObj acc c) → (∀ b o, b ∉ wr → s.heap.get? b = some o → h'.get? b = some o) → Q (.ref s.heap.objs.size) { s with heap := h', toks := tk }) :
    wpAny (model prog w) A (call (.type "list") [.ref I]) Q E s := by
  refine callType_codes (Q₁ := fun ob s₁ => ob = .ref s.heap.objs.size ∧ s₁ = { s with heap := s.heap.push (lstObj [] 0) }) F.called_list (F.typeCall_list_1 _) F.entry_list_init (code_list_new _ ⟨rfl, rfl⟩) fun ob s₁ h₁ => ?_
  obtain ⟨rfl, rfl⟩ := h₁
  have g0 : (s.heap.push (lstObj [] 0)).get? s.heap.objs.size = some (lstObj [] 0) := Heap.get?_push_size _ rfl
  have up : ∀ b o, s.heap.get? b = some o → (s.heap.push (lstObj [] 0)).get? b = some o := fun b o e => Heap.get?_push_of_some _ e
  refine ⟨⟨_, g0, rfl⟩, F.args_list_init_2 _ _, ?_⟩
  show wpAny _ _ (do let old ← Builtin.List.listItems (.ref s.heap.objs.size); Builtin.List.listUpdate (.ref s.heap.objs.size) (fun _ => #[]); letGo old.toList.reverse; Builtin.List.listExtendWith (.ref s.heap.objs.size) (.ref I) .none) _ _ _
  refine wpAny_bind ?_
  unfold Builtin.List.listItems
  refine wpAny_bind (wpAny_seqItems g0 rfl (wpAny_pure ?_))
  show wpAny _ _ (updateSeq s.heap.objs.size (fun _ => #[]) >>= fun _ => letGo (#[] : Array Value).toList.reverse >>= fun _ => Builtin.List.listExtendWith (.ref s.heap.objs.size) (.ref I) .none) _ _ _
  refine wpAny_bind (wpAny_updateSeq g0 rfl ?_)
  have g1 := Heap.get?_update_self (Obj.mapSeq (fun _ => (#[] : Array Value))) g0 rfl
  have out : ∀ b o, s.heap.get? b = some o → ((s.heap.push (lstObj [] 0)).update s.heap.objs.size (Obj.mapSeq (fun _ => (#[] : Array Value)))).get? b = some o := fun b o e =>
    (Heap.get?_update_other _ _ (Nat.ne_of_gt (Heap.lt_size e))).trans (up b o e)
  refine wpAny_bind (wpAny_letGo ?_)
  refine src_extend (s := { s with heap := (s.heap.push (lstObj [] 0)).update s.heap.objs.size (Obj.mapSeq (fun _ => (#[] : Array Value))) }) m W hn .none _ hT (hst _ out ⟨_, g1⟩) g1 fun h' tk acc c s2 l2 g k => ?_
  exact ⟨rfl, hQ h' tk acc c s2 l2 g fun b o hb e => k b o (Nat.ne_of_lt (Heap.lt_size e)) hb (out b o e)⟩
theorem code_collect_src {T : String} (m : Mute T) {R : Result → Shared → Prop} (W : Src prog w A.in1 s.heap.objs.size I wr n St Fn) (hn : n ≤ sizeLine) (hT : ∀ i acc (s' : Shared), St i acc s'.heap → s'.TypeIs (.ref I) T)
    (hst : ∀ h', (∀ b o, s.heap.get? b = some o → h'.get? b = some o) → (∃ o, h'.get? s.heap.objs.size = some o) → St 0 [] h')
    (hR : ∀ h' tk acc c, Fn acc h' → acc.length = n → h'.get? s.heap.objs.size = some (lstObj acc c) → (∀ b o, b ∉ wr → s.heap.get? b = some o → h'.get? b = some o) → R (.ok (.ret (.ref s.heap.objs.size))) { s with heap := h', toks := tk }) :
    codeAny (model prog w) A (.builtin "proto.collect" ⟨[.ref I], []⟩) R s := by
  refine codeAny_builtin F.entry_proto_collect ?_
  rw [Around.under_plainId F.plain_proto_collect _]
  show wpAny _ A.in1 (newList [] >>= fun l' => again (.builtin "list.__iadd__" ⟨[l', .ref I], []⟩)) _ _ s
  refine wpAny_bind (wpAny_newObj_type ?_)
  refine wpAny_pure ⟨plainId_quiet F.plain_list_iadd _, codeAny_builtin F.entry_list_iadd ?_⟩
  rw [Around.under_plainId F.plain_list_iadd _]
  have g0 : (s.heap.push (lstObj [] 0)).get? s.heap.objs.size = some (lstObj [] 0) := Heap.get?_push_size _ rfl
  have up : ∀ b o, s.heap.get? b = some o → (s.heap.push (lstObj [] 0)).get? b = some o := fun b o e => Heap.get?_push_of_some _ e
  show wpAny _ A.in1 (Builtin.List.listExtendWith (.ref s.heap.objs.size) (.ref I) (.ref s.heap.objs.size)) _ _ _
  exact src_extend (R := R) (s := { s with heap := s.heap.push (lstObj [] 0) }) m W hn (.ref s.heap.objs.size) _ hT (hst _ up ⟨_, g0⟩) g0 fun h' tk acc c s2 l2 g k => hR h' tk acc c s2 l2 g fun b o hb e => k b o (Nat.ne_of_lt (Heap.lt_size e)) hb (up b o e)
theorem collect_src {T : String} (m : Mute T) {Q : List Value → Shared → Prop} (W : Src prog w A.in1 s.heap.objs.size I wr n St Fn) (hn : n ≤ sizeLine) (hT : ∀ i acc (s' : Shared), St i acc s'.heap → s'.TypeIs (.ref I) T)
    (hst : ∀ h', (∀ b o, s.heap.get? b = some o → h'.get? b = some o) → (∃ o, h'.get? s.heap.objs.size = some o) → St 0 [] h')
    (hQ : ∀ h' tk acc, Fn acc h' → acc.length = n → (∀ b o, b ∉ wr → s.heap.get? b = some o → h'.get? b = some o) → Q acc { s with heap := h', toks := tk }) : wpAny (model prog w) A (collect (.ref I)) Q E s := by
  unfold collect
  refine wpAny_bind (wpAny_runValue (code_collect_src m W hn hT hst fun h' tk acc c s2 l2 g k => ?_))
  show wpAny _ A (load s.heap.objs.size >>= _) _ _ _
  refine wpAny_bind (wpAny_load g ?_)
  exact wpAny_pure (hQ h' tk acc s2 l2 k)
/-- tuple(it) -/
theorem call_tuple_src {T : String} (m : Mute T) {Q : Value → Shared → Prop} (W : Src prog w A.in1.in1.in1 s.heap.objs.size I wr n St Fn) (hn : n ≤ sizeLine) (hT : ∀ i acc (s' : Shared), St i acc s'.heap → s'.TypeIs (.ref I) T)
    (hst : ∀ h', (∀ b o, s.heap.get? b = some o → h'.get? b = some o) → (∃ o, h'.get? s.heap.objs.size = some o) → St 0 [] h') (hI : s.TypeIs (.ref I) T)
    (hQ : ∀ h' tk acc, Fn acc h' → acc.length = n → (∀ b o, b ∉ wr → s.heap.get? b = some o → h'.get? b = some o) → Q (.ref h'.objs.size) { s with heap := h'.push { cls := .type "tuple", data := .seq acc.toArray }, toks := tk }) :
    wpAny (model prog w) A (call (.type "tuple") [.ref I]) Q E s := by
  refine callType_codes (Q₁ := fun ob s₁ => s₁.TypeIs ob "tuple" ∧ Q ob s₁) F.called_tuple (F.typeCall_tuple_1 _) F.entry_object_init ?_ fun ob s₁ h₁ => ?_
  · refine codeAny_of_tree ?_
    show wpAny _ A.in1.in1 (do checkBuiltinCall "tuple.__new__" ⟨[.type "tuple", .ref I], []⟩; again (.builtin "tuple.__new__" ⟨[.type "tuple", .ref I], []⟩)) _ _ s
    refine wpAny_bind (wpAny_of_eq (F.newCall_tuple_1 _) (wpAny_pure ⟨plainId_quiet F.plain_tuple_new _, codeAny_builtin F.entry_tuple_new ?_⟩))
    rw [Around.under_plainId F.plain_tuple_new _]
    have hsub := sub_tuple_self
    have hinit := init_tuple_lookup
    have hmh := madeHere_tuple
    wp_walk using wpAny_typeOf hI
    rw [if_neg (show ¬ ((Value.type T == Value.type "tuple") = true) by rw [m.nt]; exact Bool.false_ne_true)]
    wp_walk using collect_src (A := A.in1.in1) m W hn hT hst
    intro h' tk acc s2 l2 k
    show wpAny _ _ (Builtin.Tuple.tupleExact acc.toArray >>= fun v => ret v) _ _ _
    unfold Builtin.Tuple.tupleExact
    refine wpAny_bind (wpAny_newObj_type ?_ (by show acc.toArray.size ≤ sizeLine; rw [List.size_toArray, l2]; exact hn))
    refine wpAny_pure ?_
    exact ⟨⟨_, Heap.get?_push_size _ rfl, rfl⟩, hQ h' tk acc s2 l2 k⟩
  · exact ⟨h₁.1, F.args_object_init_2 ob _, object_init_meets F.called_tuple.init.lookup F.called_tuple.made (by decide) prog w A.in1 _ s₁ ⟨h₁.1, rfl, h₁.2⟩⟩

/-! ### zip of two tuples; the pairs it gives stay alive -/
section
variable {z TI TO T i1 i2 l1 l2 : Addr} {xs ys : Array Value} {k : Nat}
open PySem.W in
theorem zh_item {f : Bool} {oT : Obj} {x y : Value} {Q : Option Value → Shared → Prop} (D : ZipApart z TI TO i1 i2 l1 l2) (hz : IsZipHeld s.heap z TI TO T f) (hT : s.heap.get? T = some oT) (hTI : IsPair s.heap TI (.ref i1) (.ref i2))
    (a1 : s.heap.IsTupleIter i1 l1 k) (a2 : s.heap.IsTupleIter i2 l2 k) (t1 : s.heap.IsTuple l1 xs) (t2 : s.heap.IsTuple l2 ys) (hx : xs[k]? = some x) (hy : ys[k]? = some y)
    (hQ : ∀ h', IsZipHeld h' z TI TO T true → h'.IsTupleIter i1 l1 (k + 1) → h'.IsTupleIter i2 l2 (k + 1) → IsPair h' s.heap.objs.size x y → (∀ c o, c ≠ z → c ≠ i1 → c ≠ i2 → s.heap.get? c = some o → h'.get? c = some o) →
      Q (some (.ref s.heap.objs.size)) { s with heap := h' }) : wpAny (model prog w) A (pyNext (.ref z)) Q E s := by
  have ty : s.TypeIs (.ref z) "zip" := ⟨_, hz, rfl⟩
  have body : ∀ E' : Value → Shared → Prop, wpAny (model prog w) A.in1 (Builtin.«zip.__next__» ⟨[.ref z], []⟩) (fun fin s' => ∃ v, fin = .done (.ret v) ∧ wpAny (model prog w) A (pure (some v)) Q E s') E' s := by
    intro E'
    show wpAny _ _ (field (.ref z) 2 >>= _) _ _ _
    refine wpAny_bind (wpAny_field hz rfl (x := .bool false) rfl ?_)
    show wpAny _ _ (field (.ref z) 3 >>= _) _ _ _
    refine wpAny_bind (wpAny_field hz rfl (x := .ref TI) rfl (wpAny_bind (wpAny_seqItems hTI rfl ?_)))
    show wpAny _ _ (Builtin.SmallTypes.ownedTupleIsFree (.ref z) >>= _) _ _ _
    refine wpAny_bind (wpAny_tupleHeld_zip hz hT fun g1 z1 e1 => ?_)
    simp only [Bool.false_eq_true, if_false]
    refine wpAny_bind ?_
    rw [← Array.forIn_toList]
    simp only [List.forIn_cons, List.forIn_nil]
    refine wpAny_bind (wpAny_bind (wpAny_holding ?_))
    show wpAny _ _ (Builtin.SmallTypes.nextOf (.ref i1) >>= _) _ _ _
    refine wpAny_bind (RZ.nextOf_tuple_item (s := { s with heap := g1 }) (a1.extBut e1.extBut D.i1z) (t1.extBut e1.extBut D.l1z) hx fun g2 b1 e2 => wpAny_pure (wpAny_pure ?_))
    refine wpAny_bind (wpAny_bind (wpAny_holding ?_))
    show wpAny _ _ (Builtin.SmallTypes.nextOf (.ref i2) >>= _) _ _ _
    refine wpAny_bind (RZ.nextOf_tuple_item (s := { s with heap := g2 }) ((a2.extBut e1.extBut D.i2z).extBut e2.extBut D.i12.symm) ((t2.extBut e1.extBut D.l2z).extBut e2.extBut D.l2i1) hy fun g3 b2 e3 => wpAny_pure (wpAny_pure (wpAny_pure ?_)))
    show wpAny _ _ (newTuple [x, y] >>= _) _ _ _
    refine wpAny_bind (wpAny_newTuple ?_)
    have sz : g3.objs.size = s.heap.objs.size := by rw [e3.1, e2.1, e1.1]
    have z3 : IsZipHeld g3 z TI TO T true := e3.extBut _ _ D.i2z.symm (e2.extBut _ _ D.i1z.symm z1)
    have kp : ∀ c o, c ≠ z → c ≠ i1 → c ≠ i2 → s.heap.get? c = some o → g3.get? c = some o := fun c o c1 c2 c3 e => e3.extBut _ _ c3 (e2.extBut _ _ c2 (e1.extBut _ _ c1 e))
    have up : ∀ c o, g3.get? c = some o → (g3.push { cls := .type "tuple", data := .seq #[x, y] }).get? c = some o := fun c o e => Heap.get?_push_of_some _ e
    refine wpAny_pure ⟨_, rfl, wpAny_pure ?_⟩
    show Q (some (.ref g3.objs.size)) _
    have pr : IsPair (g3.push { cls := .type "tuple", data := .seq #[x, y] }) g3.objs.size x y := Heap.get?_push_size _ rfl
    rw [sz] at pr ⊢
    exact hQ _ (up _ _ z3) ((b1.extBut e3.extBut D.i12).at fun o e => up _ o e) (b2.at fun o e => up _ o e) pr fun c o c1 c2 c3 e => up _ _ (kp c o c1 c2 c3 e)
  unfold pyNext
  exact wpAny_bind (wpAny_attempt (wpAny_callSpecial?_slot (name := Str.ofString "__next__") ty F.slot_zip_next (wpAny_call_entry F.slot_zip_next ty F.entry_zip_next (body _) (F.args_zip_next_1 _))))

open PySem.W in
theorem zh_end {f : Bool} {oT : Obj} {Q : Option Value → Shared → Prop} (hh : A.handled = none) (D : ZipApart z TI TO i1 i2 l1 l2) (hz : IsZipHeld s.heap z TI TO T f) (hT : s.heap.get? T = some oT) (hTI : IsPair s.heap TI (.ref i1) (.ref i2))
    (a1 : s.heap.IsTupleIter i1 l1 k) (a2 : s.heap.IsTupleIter i2 l2 k) (t1 : s.heap.IsTuple l1 xs) (t2 : s.heap.IsTuple l2 ys) (hend : xs[k]? = none ∨ ys[k]? = none)
    (hQ : ∀ h', (∀ c o, c ≠ z → c ≠ i1 → c ≠ i2 → s.heap.get? c = some o → h'.get? c = some o) → Q none { s with heap := h' }) : wpAny (model prog w) A (pyNext (.ref z)) Q E s := by
  have ty : s.TypeIs (.ref z) "zip" := ⟨_, hz, rfl⟩
  have stop : ∀ (h' : Heap) (e : Addr), (∀ c o, c ≠ z → c ≠ i1 → c ≠ i2 → s.heap.get? c = some o → h'.get? c = some o) → (∃ o, h'.get? e = some o ∧ o.cls = .type "StopIteration") →
      wpAny (model prog w) A (do let b ← isInstance (.ref e) (.type "StopIteration"); if b then pure none else throw (.ref e)) Q E { s with heap := h' } := fun h' e kp ⟨o, ho, hc⟩ =>
    wpAny_bind (wpAny_isInstance (T := "StopIteration") (b := true) ⟨o, ho, hc⟩ isSubtype_stop (wpAny_pure (hQ _ kp)))
  unfold pyNext
  refine wpAny_bind (wpAny_attempt (wpAny_callSpecial?_slot (name := Str.ofString "__next__") ty F.slot_zip_next (wpAny_call_entry F.slot_zip_next ty F.entry_zip_next ?_ (F.args_zip_next_1 _))))
  show wpAny _ _ (field (.ref z) 2 >>= _) _ _ _
  refine wpAny_bind (wpAny_field hz rfl (x := .bool false) rfl ?_)
  show wpAny _ _ (field (.ref z) 3 >>= _) _ _ _
  refine wpAny_bind (wpAny_field hz rfl (x := .ref TI) rfl (wpAny_bind (wpAny_seqItems hTI rfl ?_)))
  show wpAny _ _ (Builtin.SmallTypes.ownedTupleIsFree (.ref z) >>= _) _ _ _
  refine wpAny_bind (wpAny_tupleHeld_zip hz hT fun g1 z1 e1 => ?_)
  simp only [Bool.false_eq_true, if_false]
  refine wpAny_bind ?_
  rw [← Array.forIn_toList]
  simp only [List.forIn_cons, List.forIn_nil]
  refine wpAny_bind (wpAny_bind (wpAny_holding ?_))
  show wpAny _ _ (Builtin.SmallTypes.nextOf (.ref i1) >>= _) _ _ _
  cases hx : xs[k]? with
  | none =>
    refine wpAny_bind (RZ.nextOf_tuple_end (s := { s with heap := g1 }) hh (a1.extBut e1.extBut D.i1z) (t1.extBut e1.extBut D.l1z) hx fun g2 e e2 he => ?_)
    exact stop g2 e (fun c o c1 c2 _ q => e2 _ _ c2 (e1.extBut _ _ c1 q)) he
  | some x =>
    have hy : ys[k]? = none := hend.resolve_left fun q => by rw [hx] at q; cases q
    refine wpAny_bind (RZ.nextOf_tuple_item (s := { s with heap := g1 }) (a1.extBut e1.extBut D.i1z) (t1.extBut e1.extBut D.l1z) hx fun g2 b1 e2 => wpAny_pure (wpAny_pure ?_))
    refine wpAny_bind (wpAny_bind (wpAny_holding ?_))
    show wpAny _ _ (Builtin.SmallTypes.nextOf (.ref i2) >>= _) _ _ _
    refine wpAny_bind (RZ.nextOf_tuple_end (s := { s with heap := g2 }) hh ((a2.extBut e1.extBut D.i2z).extBut e2.extBut D.i12.symm) ((t2.extBut e1.extBut D.l2z).extBut e2.extBut D.l2i1) hy fun g3 e e3 he => ?_)
    exact stop g3 e (fun c o c1 c2 c3 q => e3 _ _ c3 (e2.extBut _ _ c2 (e1.extBut _ _ c1 q))) he
/-- the pairs so far -/
def Prs (h : Heap) (xs ys : Array Value) (acc : List Value) : Prop := ∀ (j : Nat) (v : Value), acc[j]? = some v → ∃ t x y, v = Value.ref t ∧ IsPair h t x y ∧ xs[j]? = some x ∧ ys[j]? = some y
open PySem.W in
structure Zst (S z TI TO i1 i2 l1 l2 : Addr) (xs ys : Array Value) (i : Nat) (acc : List Value) (h : Heap) : Prop where
  len : acc.length = i
  ex : ∃ o, h.get? S = some o
  ti : IsPair h TI (.ref i1) (.ref i2)
  to : ∃ a b, IsPair h TO a b
  a1 : h.IsTupleIter i1 l1 i
  a2 : h.IsTupleIter i2 l2 i
  t1 : h.IsTuple l1 xs
  t2 : h.IsTuple l2 ys
  prs : Prs h xs ys acc
  st : (i = 0 ∧ IsZip h z TI TO .none) ∨ ∃ T f oT, 0 < i ∧ IsZipHeld h z TI TO T f ∧ h.get? T = some oT ∧ T ≠ z ∧ T ≠ i1 ∧ T ≠ i2 ∧ T ≠ S
  out : ∀ (j : Nat) (t : Addr), acc[j]? = some (Value.ref t) → t ≠ z ∧ t ≠ TO ∧ t ≠ i1 ∧ t ≠ i2 ∧ t ≠ S ∧ z < t
structure Far (S z TI TO i1 i2 l1 l2 : Addr) : Prop where
  z : z ≠ S
  ti : TI ≠ S
  to : TO ≠ S
  i1 : i1 ≠ S
  i2 : i2 ≠ S
  l1 : l1 ≠ S
  l2 : l2 ≠ S
theorem Prs.snoc {h : Heap} {acc : List Value} {t : Addr} {x y : Value} (p : Prs h xs ys acc) (hp : IsPair h t x y) (hx : xs[acc.length]? = some x) (hy : ys[acc.length]? = some y) : Prs h xs ys (acc ++ [Value.ref t]) := fun j v e => by
  by_cases hj : j < acc.length
  · rw [List.getElem?_append_left hj] at e
    exact p j v e
  · rw [List.getElem?_append_right (by omega)] at e
    have ej : j - acc.length = 0 := by
      cases q : j - acc.length with
      | zero => rfl
      | succ m => rw [q] at e; cases e
    rw [ej] at e
    cases e
    have ej : j = acc.length := by omega
    subst ej
    exact ⟨t, x, y, rfl, hp, hx, hy⟩
theorem Prs.keep {h h' : Heap} {acc : List Value} (p : Prs h xs ys acc) (k : ∀ (j : Nat) (t : Addr) o, acc[j]? = some (Value.ref t) → h.get? t = some o → h'.get? t = some o) : Prs h' xs ys acc := fun j v e => by
  obtain ⟨t, x, y, ev, hp, hx, hy⟩ := p j v e
  subst ev
  exact ⟨t, x, y, rfl, k j t _ e hp, hx, hy⟩
theorem out_snoc {acc : List Value} {a : Addr} {C : Addr → Prop} (p : ∀ (j : Nat) (t : Addr), acc[j]? = some (Value.ref t) → C t) (h : C a) : ∀ (j : Nat) (t : Addr), (acc ++ [Value.ref a])[j]? = some (Value.ref t) → C t := fun j t e => by
  have := List.mem_of_getElem? e
  rcases List.mem_append.mp this with m | m
  · obtain ⟨i, hi⟩ := List.getElem?_of_mem m
    exact p i t hi
  · cases List.mem_singleton.mp m; exact h
open PySem.W in
theorem src_zipT {S : Addr} (hh : A.handled = none) (D : ZipApart z TI TO i1 i2 l1 l2) (fa : Far S z TI TO i1 i2 l1 l2) : Src prog w A S z [z, TO, i1, i2] (min xs.size ys.size) (Zst S z TI TO i1 i2 l1 l2 xs ys) (fun acc h => Prs h xs ys acc ∧ ∀ (j : Nat) (t : Addr), acc[j]? = some (Value.ref t) → z < t) where
  notS := by simp [fa.z.symm, fa.to.symm, fa.i1.symm, fa.i2.symm]
  neS := fa.z.symm
  frame := fun i acc h h' Zs k ex => by
    refine ⟨Zs.len, ex, k _ _ fa.ti Zs.ti, Zs.to.imp fun a q => q.imp fun b q => k _ _ fa.to q, Zs.a1.at fun o => k _ o fa.i1, Zs.a2.at fun o => k _ o fa.i2, Zs.t1.at fun o => k _ o fa.l1, Zs.t2.at fun o => k _ o fa.l2,
      Zs.prs.keep fun j t o e => k t o (Zs.out j t e).2.2.2.2.1, ?_, Zs.out⟩
    rcases Zs.st with ⟨e, q⟩ | ⟨T, f, oT, ip, q, g, n1, n2, n3, n4⟩
    · exact .inl ⟨e, k _ _ fa.z q⟩
    · exact .inr ⟨T, f, oT, ip, k _ _ fa.z q, k _ _ n4 g, n1, n2, n3, n4⟩
  item := fun i acc s Q E hi Zs hQ => by
    have hx : xs[i]? = some xs[i] := Array.getElem?_eq_getElem (by omega)
    have hy : ys[i]? = some ys[i] := Array.getElem?_eq_getElem (by omega)
    obtain ⟨oS, hS⟩ := Zs.ex
    have lS : S ≠ s.heap.objs.size := Nat.ne_of_lt (Heap.lt_size hS)
    have l1' : i1 ≠ s.heap.objs.size := by obtain ⟨_, e, _⟩ := Zs.a1; exact Nat.ne_of_lt (Heap.lt_size e)
    have l2' : i2 ≠ s.heap.objs.size := by obtain ⟨_, e, _⟩ := Zs.a2; exact Nat.ne_of_lt (Heap.lt_size e)
    have len := Zs.len
    rcases Zs.st with ⟨e0, q⟩ | ⟨T, f, oT, ip, q, g, n1, n2, n3, n4⟩
    · obtain ⟨a, b, hTO⟩ := Zs.to
      have lz : z ≠ s.heap.objs.size := Nat.ne_of_lt (Heap.lt_size q)
      have lTO : TO ≠ s.heap.objs.size := Nat.ne_of_lt (Heap.lt_size hTO)
      refine RZ.pyNext_zipT_item D q Zs.ti hTO Zs.a1 Zs.a2 Zs.t1 Zs.t2 hx hy fun h' z' TO' b1 b2 pr _ kp => ?_
      have eacc : acc = [] := List.length_eq_zero_iff.mp (len.trans e0)
      subst eacc
      refine hQ (.ref s.heap.objs.size) h' s.toks ⟨by rw [List.length_append, len]; rfl, ⟨_, kp _ _ fa.z.symm fa.to.symm fa.i1.symm fa.i2.symm hS⟩, kp _ _ D.TIz D.TITO D.TIi1 D.TIi2 Zs.ti, ⟨_, _, TO'⟩, b1, b2, Zs.t1.at fun o => kp _ o D.l1z D.l1TO D.l1i1 D.l1i2, Zs.t2.at fun o => kp _ o D.l2z D.l2TO D.l2i1 D.l2i2, ?_, .inr ⟨_, false, _, Nat.succ_pos _, z', pr, lz.symm, l1'.symm, l2'.symm, lS.symm⟩, ?_⟩ ?_
      · exact Prs.snoc (acc := []) (fun j v e => nomatch e) pr (by rw [len]; exact hx) (by rw [len]; exact hy)
      · exact out_snoc (acc := []) (fun j t e => nomatch e) ⟨lz.symm, lTO.symm, l1'.symm, l2'.symm, lS.symm, Heap.lt_size q⟩
      · intro b o hb e
        simp only [List.mem_cons, List.not_mem_nil, or_false, not_or] at hb
        exact kp b o hb.1 hb.2.1 hb.2.2.1 hb.2.2.2 e
    · obtain ⟨a, b, hTO⟩ := Zs.to
      have lz : z ≠ s.heap.objs.size := Nat.ne_of_lt (Heap.lt_size q)
      have lTO : TO ≠ s.heap.objs.size := Nat.ne_of_lt (Heap.lt_size hTO)
      refine zh_item D q g Zs.ti Zs.a1 Zs.a2 Zs.t1 Zs.t2 hx hy fun h' z' b1 b2 pr kp => ?_
      refine hQ (.ref s.heap.objs.size) h' s.toks ⟨by rw [List.length_append, len]; rfl, ⟨_, kp _ _ fa.z.symm fa.i1.symm fa.i2.symm hS⟩, kp _ _ D.TIz D.TIi1 D.TIi2 Zs.ti, ⟨_, _, kp _ _ D.TOz D.TOi1 D.TOi2 hTO⟩, b1, b2, Zs.t1.at fun o => kp _ o D.l1z D.l1i1 D.l1i2, Zs.t2.at fun o => kp _ o D.l2z D.l2i1 D.l2i2, ?_, .inr ⟨T, true, oT, Nat.succ_pos _, z', kp _ _ n1 n2 n3 g, n1, n2, n3, n4⟩, ?_⟩ ?_
      · exact Prs.snoc (Zs.prs.keep fun j t o e => kp t o (Zs.out j t e).1 (Zs.out j t e).2.2.1 (Zs.out j t e).2.2.2.1) pr (by rw [len]; exact hx) (by rw [len]; exact hy)
      · refine out_snoc Zs.out ⟨lz.symm, lTO.symm, l1'.symm, l2'.symm, lS.symm, Heap.lt_size q⟩
      · intro b o hb e
        simp only [List.mem_cons, List.not_mem_nil, or_false, not_or] at hb
        exact kp b o hb.1 hb.2.2.1 hb.2.2.2 e
  done := fun acc s Q E Zs hQ => by
    have hend : xs[min xs.size ys.size]? = none ∨ ys[min xs.size ys.size]? = none := by
      rw [Array.getElem?_eq_none_iff, Array.getElem?_eq_none_iff]
      omega
    rcases Zs.st with ⟨e0, q⟩ | ⟨T, f, oT, ip, q, g, n1, n2, n3, n4⟩
    · obtain ⟨a, b, hTO⟩ := Zs.to
      refine RZ.pyNext_zipT_end hh D q Zs.ti hTO Zs.a1 Zs.a2 Zs.t1 Zs.t2 hend fun h' kp => hQ h' s.toks ⟨Zs.prs.keep fun j t o e => kp t o (Zs.out j t e).1 (Zs.out j t e).2.1 (Zs.out j t e).2.2.1 (Zs.out j t e).2.2.2.1, fun j t e => (Zs.out j t e).2.2.2.2.2⟩ fun b o hb e => ?_
      simp only [List.mem_cons, List.not_mem_nil, or_false, not_or] at hb
      exact kp b o hb.1 hb.2.1 hb.2.2.1 hb.2.2.2 e
    · refine zh_end hh D q g Zs.ti Zs.a1 Zs.a2 Zs.t1 Zs.t2 hend fun h' kp => hQ h' s.toks ⟨Zs.prs.keep fun j t o e => kp t o (Zs.out j t e).1 (Zs.out j t e).2.2.1 (Zs.out j t e).2.2.2.1, fun j t e => (Zs.out j t e).2.2.2.2.2⟩ fun b o hb e => ?_
      simp only [List.mem_cons, List.not_mem_nil, or_false, not_or] at hb
      exact kp b o hb.1 hb.2.2.1 hb.2.2.2 e
  self := fun acc s Q E Zs h => by
    rcases Zs.st with ⟨_, q⟩ | ⟨T, f, oT, ip, _⟩
    · exact wpAny_pyIter_zip q h
    · exact absurd ip (Nat.lt_irrefl 0)
end
end
end QL

/-! QY: many new objects at once; tuple(zip(t, u)), list(zip(t, u)). -/
namespace QL
open PySem PySem.Spec PyProof.Rows L2

/-- what was, and N from n on -/
def Hn (H : Hp) (n : Nat) (N : Hp) : Hp := fun b => if n ≤ b then N b else H b
theorem Hn_old {H N : Hp} {n : Nat} {b : Addr} (h : b < n) : Hn H n N b = H b := if_neg (Nat.not_le.mpr h)
theorem Hn_new {H N : Hp} {n : Nat} {b : Addr} (h : n ≤ b) : Hn H n N b = N b := if_pos h
theorem Inv.many {X : Cx} {pins : List (Addr × Obj)} {σ : L2.St} {H N : Hp} {s : Shared} {h' : Heap} {t' : Nat} (I : Inv X pins σ H s) (k : ∀ b u, s.heap.get? b = some u → h'.get? b = some u)
    (new : ∀ b o, s.heap.objs.size ≤ b → N b = some o → (∀ H' : Hp, ObjOk X.prog X.w H' h' b o)) : Inv X pins σ (Hn H s.heap.objs.size N) { s with heap := h', toks := t' } := by
  have old : ∀ {b : Addr} {o : HO}, H b = some o → Hn H s.heap.objs.size N b = some o := fun {b o} e => by rw [Hn_old (I.hok.lt e)]; exact e
  refine I.un (t' := t') ⟨fun b u q _ _ _ => k b u q, fun b u q _ _ _ => ⟨u.slots, k b u q⟩, fun b u q n _ => by rw [Hn_old (Heap.lt_size q)]; exact n, fun b u q _ => ⟨u, k b u q⟩, fun b xs q => old q, fun b u xs q => old q, fun b ps q => ⟨#[], by rw [old q]; simp⟩⟩ ?_
  intro a o e
  by_cases ha : s.heap.objs.size ≤ a
  · rw [Hn_new ha] at e
    exact new a o ha e _
  · rw [Hn_old (Nat.not_le.mp ha)] at e
    exact (I.hok a o e).stay (fun b u _ q => k b u q) (fun b q => old q) fun b xs q => old q
theorem NewV.many {F H NF N : Hp} {n : Nat} {k : T → Prop} {v : V} {t : T} {O' : List Addr} (sF : Same F H) (fresh : ∀ b, n ≤ b → H b = none) (sub : ∀ b o, n ≤ b → NF b = some o → N b = some o) (nd : O'.Nodup) (no : ∀ a ∈ O', n ≤ a ∧ NF a = none)
    (ow : Ow (Hn F n NF) (Hn H n N) O' v t) (h : k t) : NewV F H k v (Hn H n N) := by
  have lt : ∀ {b : Addr} {o : HO}, H b = some o → b < n := fun {b o} e => by
    rcases Nat.lt_or_ge b n with z | z
    · exact z
    · rw [fresh b z] at e; cases e
  refine ⟨Hn F n NF, O', t, fun b o e => ?_, fun b o e => by rw [Hn_old (lt e)]; exact e, fun b o e => ?_, fun b e => ?_, nd, fun a ha => ⟨fresh a (no a ha).1, by rw [Hn_new (no a ha).1]; exact (no a ha).2⟩, ow, h⟩
  · rw [Hn_old (lt (sF b o e))]; exact e
  · by_cases z : n ≤ b
    · rw [Hn_new z] at e ⊢; exact sub b o z e
    · rw [Hn_old (Nat.not_le.mp z)] at e ⊢; exact sF b o e
  · by_cases z : n ≤ b
    · exact .inr (fresh b z)
    · rw [Hn_old (Nat.not_le.mp z)] at e; exact .inl e

/-! ### the pairs that a walk over a zip has given -/
open Classical in
/-- pairs of values at the addresses in acc -/
noncomputable def prN (acc : List Value) (vs ws : List V) : Hp := fun b => if h : ∃ j : Nat, acc[j]? = some (Value.ref b) then (match vs[h.choose]?, ws[h.choose]? with | some v, some w => some (.tup [v, w]) | _, _ => none) else none
theorem prN_at {h : Heap} {n : Nat} {xs ys acc : List Value} {vs ws : List V} {ds es : List D} {F : Hp} (rv : Vals vs xs) (rw_ : Vals ws ys) (r1 : RpA F vs ds) (r2 : RpA F ws es) (p : Prs h xs.toArray ys.toArray acc) {b : Addr} {o : HO} (e : prN acc vs ws b = some o) :
    ∃ v w x y, o = .tup [v, w] ∧ IsPair h b x y ∧ L2.RelV v x ∧ L2.RelV w y := by
  unfold prN at e
  split at e
  · rename_i hj
    have hc := hj.choose_spec
    obtain ⟨t, x, y, et, hp, hx, hy⟩ := p _ _ hc
    cases et
    split at e
    · rename_i v w e1 e2
      cases e
      obtain ⟨u1, g1, q1⟩ := rv.get e1
      obtain ⟨u2, g2, q2⟩ := rw_.get e2
      have hx' : xs[hj.choose]? = some x := by simpa using hx
      have hy' : ys[hj.choose]? = some y := by simpa using hy
      rw [g1] at hx'
      rw [g2] at hy'
      cases hx'
      cases hy'
      exact ⟨v, w, _, _, rfl, hp, q1, q2⟩
    · cases e
  · cases e
theorem prN_of {h : Heap} {xs ys acc : List Value} {vs ws : List V} {ds es : List D} {F : Hp} (rv : Vals vs xs) (rw_ : Vals ws ys) (r1 : RpA F vs ds) (r2 : RpA F ws es) (inj : ∀ (v1 v2 : V) (u : Value), L2.RelV v1 u → L2.RelV v2 u → v1 = v2) (p : Prs h xs.toArray ys.toArray acc) {j : Nat} {u : Value} (e : acc[j]? = some u) :
    ∃ b v w d1 d2, u = Value.ref b ∧ prN acc vs ws b = some (.tup [v, w]) ∧ ds[j]? = some d1 ∧ es[j]? = some d2 ∧ Rp F v d1 ∧ Rp F w d2 := by
  obtain ⟨t, x, y, rfl, hp, hx, hy⟩ := p _ _ e
  have hx' : xs[j]? = some x := by simpa using hx
  have hy' : ys[j]? = some y := by simpa using hy
  have gv : ∃ v, vs[j]? = some v ∧ L2.RelV v x := by
    cases q : vs[j]? with
    | none => rw [List.getElem?_eq_none_iff, rv.length, ← List.getElem?_eq_none_iff] at q; rw [q] at hx'; cases hx'
    | some v => obtain ⟨u, g, r⟩ := rv.get q; rw [g] at hx'; cases hx'; exact ⟨v, rfl, r⟩
  have gw : ∃ v, ws[j]? = some v ∧ L2.RelV v y := by
    cases q : ws[j]? with
    | none => rw [List.getElem?_eq_none_iff, rw_.length, ← List.getElem?_eq_none_iff] at q; rw [q] at hy'; cases hy'
    | some v => obtain ⟨u, g, r⟩ := rw_.get q; rw [g] at hy'; cases hy'; exact ⟨v, rfl, r⟩
  obtain ⟨v, g1, q1⟩ := gv
  obtain ⟨w, g2, q2⟩ := gw
  obtain ⟨d1, k1, s1⟩ := r1.get g1
  obtain ⟨d2, k2, s2⟩ := r2.get g2
  refine ⟨t, v, w, d1, d2, rfl, ?_, k1, k2, s1, s2⟩
  unfold prN
  have hj : ∃ j : Nat, acc[j]? = some (Value.ref t) := ⟨j, e⟩
  rw [dif_pos hj]
  -- another place of the same address bears the same values
  obtain ⟨t', x', y', et, hp', hx2, hy2⟩ := p _ _ hj.choose_spec
  cases et
  have ee := hp.symm.trans hp'
  simp only [Option.some.injEq, Obj.mk.injEq, Data.seq.injEq, true_and, and_true] at ee
  have exy : x = x' ∧ y = y' := by simpa using ee
  obtain ⟨rfl, rfl⟩ := exy
  have hx3 : xs[hj.choose]? = some x := by simpa using hx2
  have hy3 : ys[hj.choose]? = some y := by simpa using hy2
  have gv' : vs[hj.choose]? = some v := by
    cases q : vs[hj.choose]? with
    | none => rw [List.getElem?_eq_none_iff, rv.length, ← List.getElem?_eq_none_iff] at q; rw [q] at hx3; cases hx3
    | some v' => obtain ⟨u, g, r⟩ := rv.get q; rw [g] at hx3; cases hx3; rw [inj v' v _ r q1]
  have gw' : ws[hj.choose]? = some w := by
    cases q : ws[hj.choose]? with
    | none => rw [List.getElem?_eq_none_iff, rw_.length, ← List.getElem?_eq_none_iff] at q; rw [q] at hy3; cases hy3
    | some v' => obtain ⟨u, g, r⟩ := rw_.get q; rw [g] at hy3; cases hy3; rw [inj v' w _ r q2]
  rw [gv', gw']
def vOf : Value → Option V
  | .none => some .non
  | .bool b => some (.bl b)
  | .int i _ => some (.int i)
  | .str x _ => some (.str x)
  | .bytes x _ => some (.byt x)
  | .float x _ => some (.flt x)
  | .ref a => some (.ref a)
  | .type n => some (.ty n)
  | _ => none
theorem vOf_rel : ∀ (v : V) (u : Value), L2.RelV v u → vOf u = some v
  | .non, _, rfl => rfl
  | .bl _, _, rfl => rfl
  | .int _, _, ⟨_, rfl⟩ => rfl
  | .str _, _, ⟨_, rfl⟩ => rfl
  | .byt _, _, ⟨_, rfl⟩ => rfl
  | .flt _, _, ⟨_, rfl⟩ => rfl
  | .ref _, _, rfl => rfl
  | .ty _, _, rfl => rfl
theorem relV_inj (v1 v2 : V) (u : Value) (h1 : L2.RelV v1 u) (h2 : L2.RelV v2 u) : v1 = v2 := Option.some.inj ((vOf_rel _ _ h1).symm.trans (vOf_rel _ _ h2))
theorem RpA.of_get {F : Hp} : ∀ {vs : List V} {ds : List D}, vs.length = ds.length → (∀ (j : Nat) v, vs[j]? = some v → ∃ d, ds[j]? = some d ∧ Rp F v d) → RpA F vs ds
  | [], [], _, _ => .nil
  | [], _ :: _, h, _ => nomatch h
  | _ :: _, [], h, _ => nomatch h
  | v :: vs, d :: ds, h, k => by
    obtain ⟨d', e, r⟩ := k 0 v rfl
    cases e
    exact .cons r (RpA.of_get (Nat.succ.inj h) fun j v e => k (j + 1) v e)
/-- what is known behind a walk over zip(t, u) into a list or a tuple; n: where new objects begin -/
structure ZipGot (F : Hp) (n : Nat) (ds es : List D) (h' : Heap) (acc : List Value) (vs ws : List V) (us ts : List Value) : Prop where
  prs : Prs h' us.toArray ts.toArray acc
  len : acc.length = min us.length ts.length
  r1 : RpA F vs ds
  r2 : RpA F ws es
  v1 : Vals vs us
  v2 : Vals ws ts
  ge : ∀ (j : Nat) (t : Addr), acc[j]? = some (Value.ref t) → n ≤ t
  old : ∀ b o, F b = some o → b < n
def refV : Value → V
  | .ref t => .ref t
  | _ => .non
theorem ZipGot.tups {F : Hp} {n : Nat} {ds es : List D} {h' : Heap} {acc : List Value} {vs ws : List V} {us ts : List Value} (g : ZipGot F n ds es h' acc vs ws us ts) :
    Vals (acc.map refV) acc ∧ RpA (Hn F n (prN acc vs ws)) (acc.map refV) (zipD ds es) := by
  have sF : Same F (Hn F n (prN acc vs ws)) := fun b o e => by rw [Hn_old (g.old b o e)]; exact e
  have each := fun {j : Nat} {u : Value} (e : acc[j]? = some u) => prN_of g.v1 g.v2 g.r1 g.r2 relV_inj g.prs e
  refine ⟨?_, RpA.of_get ?_ fun j v e => ?_⟩
  · have : ∀ (l : List Value), (∀ u ∈ l, ∃ b, u = Value.ref b) → Vals (l.map refV) l := fun l => by
      induction l with
      | nil => intro _; exact .nil
      | cons u l ih =>
        intro h
        obtain ⟨b, rfl⟩ := h u List.mem_cons_self
        exact .cons rfl (ih fun u hu => h u (List.mem_cons_of_mem _ hu))
    refine this acc fun u hu => ?_
    obtain ⟨j, hj⟩ := List.getElem?_of_mem hu
    obtain ⟨b, v, w, d1, d2, e, _⟩ := each hj
    exact ⟨b, e⟩
  · unfold zipD
    rw [List.length_map, List.length_map, List.length_zip, g.len, ← g.v1.length, ← g.v2.length, g.r1.len, g.r2.len]
  · rw [List.getElem?_map, Option.map_eq_some_iff] at e
    obtain ⟨u, hu, ev⟩ := e
    obtain ⟨b, v1, w1, d1, d2, e1, e2, e3, e4, q1, q2⟩ := each hu
    subst e1
    subst ev
    refine ⟨.tuple [d1, d2], ?_, .tup ?_ (.cons (q1.mono sF) (.cons (q2.mono sF) .nil))⟩
    · unfold zipD
      rw [List.getElem?_map, show (ds.zip es)[j]? = some (d1, d2) from List.getElem?_zip_eq_some.mpr ⟨e3, e4⟩]
      rfl
    · rw [Hn_new (g.ge j b hu)]
      exact e2
theorem prN_ok {P : Program} {w : World} {F : Hp} {n : Nat} {ds es : List D} {h' : Heap} {acc : List Value} {vs ws : List V} {us ts : List Value} (g : ZipGot F n ds es h' acc vs ws us ts) {b : Addr} {o : HO} (e : prN acc vs ws b = some o) : ∀ H' : Hp, ObjOk P w H' h' b o := fun H' => by
  obtain ⟨v, w', x, y, rfl, hp, q1, q2⟩ := prN_at (n := n) g.v1 g.v2 g.r1 g.r2 g.prs e
  exact ⟨by show 2 ≤ sizeLine; decide, [x, y], .cons q1 (.cons q2 .nil), _, hp, rfl, _, rfl⟩
theorem far_of (I l1 l2 : Nat) (h1 : l1 < I) (h2 : l2 < I) : Far (I + 5) (I + 4) (I + 2) (I + 3) I (I + 1) l1 l2 := by
  constructor <;> (refine PySem.W.neN ?_; omega)
section
variable {X : Cx} {Tq : List (Addr × Str)} {Z : Zb Tq} {a b : Expr} {env : Env} {pos pos2 : Pos} {P : R → Env → Prop}
/-- the walk over zip(t, u), from where its arguments are made -/
theorem zip_walk (hc : X.calm = true) {pins : List (Addr × Obj)} {σ : L2.St} {H F : Hp} {s : Shared} {l1 l2 : Addr} {vs ws : List V} {ds es : List D} {O : List Addr} {k : T → Prop} (I : Inv X pins σ H s) (sF : Same F H) (h1 : F l1 = some (.tup vs)) (h2 : F l2 = some (.tup ws)) (r1 : RpA F vs ds) (r2 : RpA F ws es) (T0 : Value) (hT0 : (T0 = .type "tuple" ∧ k (.va (.tuple (zipD ds es)))) ∨ (T0 = .type "list" ∧ ∀ p, k (.lst p (zipD ds es)))) :
    wpAny (model X.prog X.w) X.A (call (.type "zip") [.ref l1, .ref l2]) (fun u s' => wpAny (model X.prog X.w) X.A (call T0 [u]) (EP X pins σ (NewV F H k)) X.xe s') X.xe s := by
  obtain ⟨us, rv, p1, z1⟩ := I.tuple (SqT.of (sF _ _ h1))
  obtain ⟨ts, rw_, p2, z2⟩ := I.tuple (SqT.of (sF _ _ h2))
  obtain ⟨o1, ho1, _⟩ := id p1
  obtain ⟨o2, ho2, _⟩ := id p2
  have lt1 := Heap.lt_size ho1
  have lt2 := Heap.lt_size ho2
  refine RZ.call_zipT (show s.heap.IsTuple l1 us.toArray from p1) (show s.heap.IsTuple l2 ts.toArray from p2) fun g hz hTI hTO q1 q2 hsz hk => ?_
  have ap := PySem.W.ktu_apart s.heap.objs.size l1 l2 lt1 lt2
  have far : Far g.objs.size (s.heap.objs.size + 4) (s.heap.objs.size + 2) (s.heap.objs.size + 3) s.heap.objs.size (s.heap.objs.size + 1) l1 l2 := by
    rw [hsz]
    exact far_of _ _ _ lt1 lt2
  have hn : min us.toArray.size ts.toArray.size ≤ sizeLine := by
    rw [List.size_toArray, ← rv.length]; omega
  have st0 : ∀ h' : Heap, (∀ b o, g.get? b = some o → h'.get? b = some o) → (∃ o, h'.get? g.objs.size = some o) → Zst g.objs.size (s.heap.objs.size + 4) (s.heap.objs.size + 2) (s.heap.objs.size + 3) s.heap.objs.size (s.heap.objs.size + 1) l1 l2 us.toArray ts.toArray 0 [] h' := fun h' kp ex =>
    ⟨rfl, ex, kp _ _ hTI, ⟨_, _, kp _ _ hTO⟩, q1.at fun o e => kp _ o e, q2.at fun o e => kp _ o e, (show s.heap.IsTuple l1 us.toArray from p1).at fun o e => kp _ o (hk _ _ e), (show s.heap.IsTuple l2 ts.toArray from p2).at fun o e => kp _ o (hk _ _ e),
      fun j v e => (nomatch e), .inl ⟨rfl, kp _ _ hz⟩, fun j t e => (nomatch e)⟩
  have ty : ∀ i acc (s' : Shared), Zst g.objs.size (s.heap.objs.size + 4) (s.heap.objs.size + 2) (s.heap.objs.size + 3) s.heap.objs.size (s.heap.objs.size + 1) l1 l2 us.toArray ts.toArray i acc s'.heap → s'.TypeIs (.ref (s.heap.objs.size + 4)) "zip" := fun i acc s' Zs => by
    rcases Zs.st with ⟨_, q⟩ | ⟨T, f, oT, _, q, _⟩
    · exact ⟨_, q, rfl⟩
    · exact ⟨_, q, rfl⟩
  have kept : ∀ {h' : Heap}, (∀ b o, b ∉ [s.heap.objs.size + 4, s.heap.objs.size + 3, s.heap.objs.size, s.heap.objs.size + 1] → g.get? b = some o → h'.get? b = some o) → ∀ b o, s.heap.get? b = some o → h'.get? b = some o := fun {h'} kp b o e => by
    refine kp b o (fun hm => ?_) (hk b o e)
    have := Heap.lt_size e
    simp only [List.mem_cons, List.not_mem_nil, or_false] at hm
    rcases hm with z | z | z | z
    · exact absurd (z ▸ this) (Nat.not_lt.mpr (Nat.le_add_right _ _))
    · exact absurd (z ▸ this) (Nat.not_lt.mpr (Nat.le_add_right _ _))
    · exact absurd (z ▸ this) (Nat.lt_irrefl _)
    · exact absurd (z ▸ this) (Nat.not_lt.mpr (Nat.le_add_right _ _))
  have fresh : ∀ b, s.heap.objs.size ≤ b → H b = none := fun b hb => I.hok.fresh hb
  have old : ∀ b o, F b = some o → b < s.heap.objs.size := fun b o e => I.hok.lt (sF b o e)
  rcases hT0 with ⟨e, hk0⟩ | ⟨e, hk0⟩
  · subst e
    refine call_tuple_src (s := { s with heap := g }) mute_zip (src_zipT (I.ok.hd hc) ap far) hn ty st0 ⟨_, hz, rfl⟩ fun h' tk acc ⟨Pr, bg⟩ len kp => ?_
    have ge : ∀ (j : Nat) (t : Addr), acc[j]? = some (Value.ref t) → s.heap.objs.size ≤ t := fun j t e => Nat.le_of_lt (Nat.lt_of_le_of_lt (Nat.le_add_right _ 4) (bg j t e))
    have G : ZipGot F s.heap.objs.size ds es h' acc vs ws us ts := ⟨Pr, by rw [len]; simp, r1, r2, rv, rw_, ge, old⟩
    obtain ⟨vz, rz⟩ := G.tups
    have lz : (acc.map refV).length ≤ sizeLine := by rw [List.length_map, len]; exact hn
    have le' : s.heap.objs.size ≤ h'.objs.size := Nat.le_of_lt (Nat.lt_of_le_of_lt (Nat.le_add_right _ 2) (Heap.lt_size (kp _ _ (by simp) hTI)))
    -- the pairs, and the tuple
    have k1 := kept kp
    have I2 : Inv X pins σ (Hn H s.heap.objs.size (upd (prN acc vs ws) h'.objs.size (.tup (acc.map refV)))) { s with heap := h'.push { cls := .type "tuple", data := .seq acc.toArray }, toks := tk } :=
      Inv.many (t' := tk) I (fun b u e => Heap.get?_push_of_some _ (k1 b u e)) fun b o hb e => by
        by_cases z : b = h'.objs.size
        · subst z
          rw [upd_same] at e
          cases e
          exact fun H' => ⟨lz, acc, vz, IsTup.new _ _⟩
        · rw [upd_ne z] at e
          intro H'
          exact (prN_ok (P := X.prog) (w := X.w) G e H').stay (fun c u _ q => Heap.get?_push_of_some _ q) (fun _ q => q) fun _ _ q => q
    refine ⟨.ref h'.objs.size, _, I2, rfl, NewV.many (NF := upd (prN acc vs ws) h'.objs.size (.tup (acc.map refV))) (O' := []) sF fresh (fun b o _ e => e) List.nodup_nil (fun _ z => (nomatch z)) (.va (.tup (by rw [Hn_new le', upd_same]) ?_)) hk0⟩
    refine rz.mono fun c o e => ?_
    by_cases z : s.heap.objs.size ≤ c
    · rw [Hn_new z] at e ⊢
      obtain ⟨_, _, _, _, _, hp, _⟩ := prN_at (n := s.heap.objs.size) G.v1 G.v2 G.r1 G.r2 G.prs e
      rw [upd_ne (Nat.ne_of_lt (Heap.lt_size hp))]
      exact e
    · rw [Hn_old (Nat.not_le.mp z)] at e ⊢
      exact e
  · subst e
    refine call_list_src (s := { s with heap := g }) mute_zip (src_zipT (I.ok.hd hc) ap far) hn ty st0 fun h' tk acc c0 ⟨Pr, bg⟩ len hS kp => ?_
    have ge : ∀ (j : Nat) (t : Addr), acc[j]? = some (Value.ref t) → s.heap.objs.size ≤ t := fun j t e => Nat.le_of_lt (Nat.lt_of_le_of_lt (Nat.le_add_right _ 4) (bg j t e))
    have G : ZipGot F s.heap.objs.size ds es h' acc vs ws us ts := ⟨Pr, by rw [len]; simp, r1, r2, rv, rw_, ge, old⟩
    obtain ⟨vz, rz⟩ := G.tups
    have lz : (acc.map refV).length ≤ sizeLine := by rw [List.length_map, len]; exact hn
    have leS : s.heap.objs.size ≤ g.objs.size := by rw [hsz]; exact Nat.le_add_right _ _
    have noS : prN acc vs ws g.objs.size = none := by
      cases q : prN acc vs ws g.objs.size with
      | none => rfl
      | some o =>
        obtain ⟨_, _, _, _, _, hp, _⟩ := prN_at (n := s.heap.objs.size) G.v1 G.v2 G.r1 G.r2 G.prs q
        have := hp.symm.trans hS
        simp at this
    have I2 : Inv X pins σ (Hn H s.heap.objs.size (upd (prN acc vs ws) g.objs.size (.lst (acc.map refV)))) { s with heap := h', toks := tk } :=
      Inv.many (t' := tk) I (kept kp) fun b o hb e => by
        by_cases z : b = g.objs.size
        · subst z
          rw [upd_same] at e
          cases e
          exact fun H' => ⟨lz, acc, c0, vz, hS⟩
        · rw [upd_ne z] at e
          exact prN_ok (P := X.prog) (w := X.w) G e
    refine ⟨.ref g.objs.size, _, I2, rfl, NewV.many (NF := prN acc vs ws) (O' := [g.objs.size]) sF fresh (fun b o _ e => ?_) (List.nodup_cons.mpr ⟨fun z => (nomatch z), List.nodup_nil⟩) (fun c hc' => ?_) (.lst (by rw [Hn_new leS, upd_same]) rz) (hk0 _)⟩
    · rw [upd_ne fun z => by rw [z, noS] at e; cases e]
      exact e
    · rw [List.mem_singleton.mp hc']
      exact ⟨leS, noS⟩
/-- tuple(zip(t, u)) -/
theorem w_zipT {p p2 : Pos} (hc : X.calm = true) (hm : X.mg "tuple" = none) (hm2 : X.mg "zip" = none) (h : WAs Z X [a, b] env fun as e1 => absorb as e1 fun ds e2 => zipG ds fun xs => P (.t (.va (.tuple xs))) e2) (hg : Gl X "tuple" := by rfl) (hg2 : Gl X "zip" := by rfl)
    (hs : starEach [a, b] X.env = (false, eval a X.env) :: starEach [b] X.env := by rfl) (hpl : (backTo pos2 (starEach [b] X.env)).any (·.1) = false := by rfl)
    (hs2 : starEach [.Call (.Name "zip" p2) [a, b] [] pos2] X.env = (false, eval (.Call (.Name "zip" p2) [a, b] [] pos2) X.env) :: starEach [] X.env := by rfl) :
    WE Z X (.Call (.Name "tuple" p) [.Call (.Name "zip" p2) [a, b] [] pos2] [] pos) env P := fun pins s σ H F O I b0 o => by
  refine Call_ (ld_blt I hg hm boot_tuple (PyProof.Rows.callWith_type1 (args_cons (Call_ (ld_blt I hg2 hm2 PyProof.Rows.boot_zip (PyProof.Rows.callWith_type1 (thn ((pa_As (Z := Z)).run pos2 pins s σ H (PostAs Z σ H F O _) I ⟨env, F, O, _, b0, o, h, fun _ _ q => q⟩)
    fun us s1 ⟨vs, H1, I1, rv, F1, O1, as, e1, b1, o1, st, fr, q⟩ => ?_) hs hpl))) hs2) hs2 rfl))
  obtain ⟨F2, O2, ds, e2, b2, o2, r2, fr2, q⟩ := absorb_ok st b1 o1 q
  unfold zipG at q
  split at q
  · cases r2 with
    | cons r3 rn =>
      cases rn with
      | cons r4 rn =>
        cases rn
        cases r3 with
        | tup h3 r3 =>
          cases r4 with
          | tup h4 r4 =>
            cases rv with
            | cons u1 rv =>
              cases rv with
              | cons u2 rv =>
                cases rv
                cases u1
                cases u2
                refine thn (zip_walk (k := fun t => t = .va (.tuple (zipD _ _))) (O := O2) hc I1 b2.sub h3 h4 r3 r4 (.type "tuple") (.inl ⟨rfl, rfl⟩)) fun u s2 q2 => args_nil (thn q2 (EP.imp fun v H' n => ?_))
                exact (n.post b2 o2 (fun t e => by subst e; exact q)).from (fr.trans fr2)
  · exact q.elim
/-- list(zip(t, u)) -/
theorem w_zipL {p p2 : Pos} (hc : X.calm = true) (hm : X.mg "list" = none) (hm2 : X.mg "zip" = none) (h : WAs Z X [a, b] env fun as e1 => absorb as e1 fun ds e2 => zipG ds fun xs => ∀ l, P (.t (.lst l xs)) e2) (hg : Gl X "list" := by rfl) (hg2 : Gl X "zip" := by rfl)
    (hs : starEach [a, b] X.env = (false, eval a X.env) :: starEach [b] X.env := by rfl) (hpl : (backTo pos2 (starEach [b] X.env)).any (·.1) = false := by rfl)
    (hs2 : starEach [.Call (.Name "zip" p2) [a, b] [] pos2] X.env = (false, eval (.Call (.Name "zip" p2) [a, b] [] pos2) X.env) :: starEach [] X.env := by rfl) :
    WE Z X (.Call (.Name "list" p) [.Call (.Name "zip" p2) [a, b] [] pos2] [] pos) env P := fun pins s σ H F O I b0 o => by
  refine Call_ (ld_blt I hg hm boot_list (PyProof.Rows.callWith_type1 (args_cons (Call_ (ld_blt I hg2 hm2 PyProof.Rows.boot_zip (PyProof.Rows.callWith_type1 (thn ((pa_As (Z := Z)).run pos2 pins s σ H (PostAs Z σ H F O _) I ⟨env, F, O, _, b0, o, h, fun _ _ q => q⟩)
    fun us s1 ⟨vs, H1, I1, rv, F1, O1, as, e1, b1, o1, st, fr, q⟩ => ?_) hs hpl))) hs2) hs2 rfl))
  obtain ⟨F2, O2, ds, e2, b2, o2, r2, fr2, q⟩ := absorb_ok st b1 o1 q
  unfold zipG at q
  split at q
  · cases r2 with
    | cons r3 rn =>
      cases rn with
      | cons r4 rn =>
        cases rn
        cases r3 with
        | tup h3 r3 =>
          cases r4 with
          | tup h4 r4 =>
            cases rv with
            | cons u1 rv =>
              cases rv with
              | cons u2 rv =>
                cases rv
                cases u1
                cases u2
                refine thn (zip_walk (k := fun t => ∃ l, t = .lst l (zipD _ _)) (O := O2) hc I1 b2.sub h3 h4 r3 r4 (.type "list") (.inr ⟨rfl, fun l => ⟨l, rfl⟩⟩)) fun u s2 q2 => args_nil (thn q2 (EP.imp fun v H' n => ?_))
                exact (n.post b2 o2 (fun t ⟨l, e⟩ => by subst e; exact q l)).from (fr.trans fr2)
  · exact q.elim
end
end QL

/-! QJ: a law row's end, from the promise (FnG) of its def; tables of code objects. -/
namespace QL
open PySem PySem.Spec PyProof.Rows L2

/-- what is tracked at the start: the script alone, or nothing; and the tables -/
structure Start (P : Program) (w : World) (K : PySem.W.Frag) (h : Heap) (a : Addr) (ns : List Int) (Ts : List Addr) (H F : Hp) : Prop where
  one : ∀ c, F c ≠ none → c = a ∧ K.lookup c = none ∧ ∃ o, h.get? c = some o ∧ F c = some (.frz o (.lst (ns.map V.int)))
  tb : ∀ c, c ∈ Ts → H c = some (.tbl #[])
  nt : ∀ c, c ∉ Ts → H c = F c
  sub : Same F H
  ok : HOk P w H h
  sq : SqL K F a (ns.map V.int)
theorem start_of {P : Program} {w : World} {K : PySem.W.Frag} {h : Heap} {a : Addr} {vs : List Value} {ns : List Int} {Ts : List Addr} (KX : K.In h) (ha : h.get? a = some { cls := .type "list", data := .seq vs.toArray }) (hi : IntsAre vs ns) (hl : ns.length ≤ sizeLine)
    (hT : ∀ c ∈ Ts, h.get? c = some { cls := .none, data := .fields #[] }) : ∃ H F, Start P w K h a ns Ts H F := by
  have rv := vals_ints hi
  have aT : a ∉ Ts := fun z => by
    have q := hT a z
    rw [ha] at q
    have z' : Data.seq vs.toArray _ = Data.fields #[] := congrArg Obj.data (Option.some.inj q)
    cases z'
  have main : ∀ F : Hp, (∀ c, F c ≠ none → c = a ∧ K.lookup c = none ∧ ∃ o, h.get? c = some o ∧ F c = some (.frz o (.lst (ns.map V.int)))) → HOk P w F h → SqL K F a (ns.map V.int) → ∃ H F, Start P w K h a ns Ts H F := fun F h1 h2 h3 => by
    refine ⟨fun b => if b ∈ Ts then some (.tbl #[]) else F b, F, h1, fun c hc => if_pos hc, fun c hc => if_neg hc, fun c u hc => ?_, fun c u hc => ?_, h3⟩
    · have : c ∉ Ts := fun z => aT ((h1 c (by rw [hc]; exact fun z => nomatch z)).1 ▸ z)
      exact (if_neg this).trans hc
    · by_cases z : c ∈ Ts
      · have hc' := (if_pos z).symm.trans hc
        cases hc'
        exact hT c z
      · have hc' : F c = some u := (if_neg z).symm.trans hc
        obtain ⟨e, _, o, e1, e2⟩ := h1 c (by rw [hc']; exact fun z => nomatch z)
        rw [e2] at hc'
        cases hc'
        exact h2 c _ e2
  by_cases hk : K.lookup a = none
  · refine main (fun b => if b = a then some (.frz { cls := .type "list", data := .seq vs.toArray } (.lst (ns.map V.int))) else none) (fun c hc => ?_) (fun c u hc => ?_) (.inl (.inr ⟨_, if_pos rfl⟩))
    · by_cases z : c = a
      · subst z; exact ⟨rfl, hk, _, ha, if_pos rfl⟩
      · rw [if_neg z] at hc; exact absurd rfl hc
    · by_cases z : c = a
      · subst z
        have hc' := (if_pos rfl).symm.trans hc
        cases hc'
        exact ⟨ha, by rw [List.length_map]; exact hl, vs, _, rv, ha⟩
      · have hc' := (if_neg z).symm.trans hc
        cases hc'
  · obtain ⟨o, ho⟩ := Option.ne_none_iff_exists'.mp hk
    have e := KX a o ho
    rw [ha] at e
    cases e
    refine main (fun _ => none) (fun _ z => absurd rfl z) (fun _ _ z => (nomatch z)) (.inr ⟨_, vs.toArray, _, ho, rfl, rfl, rfl, ?_, by simpa using rv⟩)
    rw [List.size_toArray, hi.length]
    exact hl
/-- a code object, its table, the name of what the table tells -/
abbrev Cs := List (Addr × Addr × Str)
abbrev Cs.tq (cs : Cs) : List (Addr × Str) := cs.map (·.2)
theorem law_goes {P : Program} {w : World} {K : PySem.W.Frag} {mg mb : Str → Option Value} {k : Nat} {fa a : Addr} {fd : FuncData} {x : Str} {sp : Spc} {s : Shared} {vs : List Value} {ns : List Int} {cs : Cs}
    (KX : K.In s.heap) (hns : s.heap.Ns mainGlobals mg) (hb : s.heap.Ns builtinsNs mb) (hbb : ∀ x : Str, x ≠ "__name__" → mb x = bootBuiltins x) (hlim : s.heap.NoLimit) (hg : s.gens = #[])
    (hT : ∀ p ∈ cs, s.heap.get? p.2.1 = some { cls := .none, data := .fields #[] }) (nT : ∀ p ∈ cs, K.lookup p.2.1 = none) (C : ∀ p ∈ cs, PySem.W.CodeHd s.heap p.1 p.2.1)
    (hbm : ∃ (bm : Addr) (ob : Obj), mg "__builtins__" = some (.ref bm) ∧ bm ≠ builtinsNs ∧ s.heap.get? bm = some ob ∧ ob.cls = .type "module" ∧ ob.dict = some builtinsNs ∧ ob.data = .plain)
    (ha : s.heap.get? a = some { cls := .type "list", data := .seq vs.toArray }) (hi : IntsAre vs ns) (hl : ns.length ≤ sizeLine) (hr : Room k callerA)
    (F : ∀ base : Heap, K.In base → base.Ns mainGlobals mg → (∀ p ∈ cs, LamX.TabB base mg p.1 p.2.1) → FnG P w K mg base cs.tq k fa fd [x] sp) (hbind : ∀ (s : Shared) (u : Value), BindsTo s fd ⟨[u], []⟩ [(x, u)])
    (hsp : sp [scT K a ns] (fun t _ => t = .va (.bool true)) fun _ _ => False) :
    codeAny (model P w) callerA (.call (.ref fa) ⟨[.ref a], []⟩) (fun r s' => r = .ok (.ret (.bool true)) ∧ PySem.OldK s.heap s'.heap ∧ s'.os = s.os ∧ AllBare s'.gens) s := by
  have hTs : ∀ c ∈ cs.map (·.2.1), s.heap.get? c = some { cls := .none, data := .fields #[] } := fun c hc => by
    obtain ⟨p, hp, e⟩ := List.mem_map.mp hc
    rw [← e]
    exact hT p hp
  obtain ⟨H, F0, S⟩ := start_of (P := P) (w := w) (K := K) KX ha hi hl hTs
  have none_if : ∀ {c : Addr} {o : Obj}, s.heap.get? c = some o → (∀ ys n, o.data ≠ .seq ys n) → o.data ≠ .fields #[] → H c = none := fun {c o} e hd hf => by
    by_cases z : c ∈ cs.map (·.2.1)
    · rw [hTs c z] at e
      cases e
      exact absurd rfl hf
    · rw [S.nt c z]
      cases q : F0 c with
      | none => rfl
      | some u =>
        obtain ⟨rfl, _, o', ho', _⟩ := S.one c (by rw [q]; exact fun z => nomatch z)
        rw [ha] at e
        cases e
        exact absurd rfl (hd _ _)
  have ns_ : ∀ {c : Addr} {m : Str → Option Value}, s.heap.Ns c m → (hidT s.heap H).Ns c m := fun {c m} ⟨o, es, ep, e, d, r⟩ => ⟨o, es, ep, hidT_get e (none_if e (fun ys n z => by rw [d] at z; cases z) fun z => by rw [d] at z; cases z), d, r⟩
  have kin : K.In (hidT s.heap H) := fun c o e => hidT_get (KX c o e) (by
    by_cases z : c ∈ cs.map (·.2.1)
    · obtain ⟨p, hp, ep⟩ := List.mem_map.mp z
      rw [← ep, nT p hp] at e
      cases e
    · rw [S.nt c z]
      cases q : F0 c with
      | none => rfl
      | some u =>
        obtain ⟨_, q2, _⟩ := S.one c (by rw [q]; exact fun z => nomatch z)
        rw [e] at q2
        cases q2)
  have lim : (hidT s.heap H).NoLimit := let ⟨mc, h1, h2⟩ := hlim; ⟨mc, ns_ h1, h2⟩
  have env : Env0 P w K mg (hidT s.heap H) callerA [] s H := by
    refine ⟨rfl, ⟨kin, ns_ hns, ⟨mb, ns_ hb, hbb⟩, lim⟩, fun b o e => of_hidT e, Nat.le_of_eq (hidT_size _ _), trivial, fun b hb => ?_, S.ok, .of_eq hg⟩
    exact absurd (show b ∈ ([] : List Addr) from hb) List.not_mem_nil
  have TB : ∀ p ∈ cs, LamX.TabB (hidT s.heap H) mg p.1 p.2.1 := fun p hp => by
    have hTp := hT p hp
    refine ⟨?_, ?_, fun z => ?_⟩
    · obtain ⟨o, us, file, tf, flags, tg, inF, text, tt, e1, r1, r2, r3, r4, r5, r6, r7, r8, hne⟩ := C p hp
      refine ⟨o, us, file, tf, flags, tg, inF, text, tt, hidT_get e1 (none_if e1 (fun vs n z => ?_) fun z => ?_), r1, r2, r3, r4, r5, r6, r7, r8, hne⟩
      · rw [r2] at z
        cases z
      · rw [r2] at z
        cases z
        simp at r3
    · obtain ⟨bm, ob, b1, b2, b3, b4, b5, b6⟩ := hbm
      have nG : bm ≠ mainGlobals := fun q => by
        obtain ⟨o, es, ep, e, hd, _⟩ := hns
        rw [q, e] at b3
        cases b3
        rw [hd] at b6
        cases b6
      have nP : bm ≠ p.2.1 := fun q => by
        rw [q, hTp] at b3
        cases b3
        cases b6
      refine ⟨bm, ob, b1, b2, nG, nP, hidT_get b3 (none_if b3 (fun vs n z => ?_) fun z => ?_), b4, b5, b6⟩
      · rw [b6] at z
        cases z
      · rw [b6] at z
        cases z
    · obtain ⟨o, es, ep, e, hd, _⟩ := hns
      rw [z, hTp] at e
      cases e
      cases hd
  have tabs : LamX.Tabs cs.tq H := fun p hp => by
    obtain ⟨c, hc, e⟩ := List.mem_map.mp hp
    refine LamX.TabS.nil (S.tb _ (List.mem_map.mpr ⟨c, hc, ?_⟩))
    rw [← e]
  have aT : a ∉ cs.map (·.2.1) := fun z => by
    have q := hTs a z
    rw [ha] at q
    have z' : Data.seq vs.toArray _ = Data.fields #[] := congrArg Obj.data (Option.some.inj q)
    cases z'
  have tabz : TabZ cs.tq H F0 [] := ⟨tabs, fun p hp => by
    cases q : F0 p.1 with
    | none => rfl
    | some u =>
      obtain ⟨c, hc, e⟩ := List.mem_map.mp hp
      obtain ⟨e2, _⟩ := S.one p.1 (by rw [q]; exact fun z => nomatch z)
      exact absurd (List.mem_map.mpr ⟨c, hc, by rw [← e2, ← e]⟩) aT, fun p hp z => nomatch z⟩
  have bas : Bas ⟨H, F0, [], tabz⟩ F0 H [] := ⟨S.sub, List.nodup_nil, fun _ z => (nomatch z), Frm.refl _ _ _⟩
  have args : StV F0 H [] [.ref a] [scT K a ns] := by
    have := StV.cons (O1 := []) (O2 := []) (scT_ow (F := F0) (H := H) S.sq) .nil
    exact this
  refine codeAny_mono ((F _ kin (ns_ hns) TB).run callerA [] s H ⟨[.ref a], []⟩ [.ref a] [.ref a] F0 [] _ _ _ (fun _ _ _ => False) tabz hr rfl env (hbind s (.ref a)) (.cons rfl .nil) bas args hsp fun _ _ _ _ _ _ _ _ _ _ q => q) fun r s' h => ?_
  cases r with
  | error e =>
    obtain ⟨_, _, _, _, _, _, _, _, _, _, _, _, q⟩ := h
    exact q.elim
  | ok fl =>
    cases fl with
    | next => exact h.elim
    | brk => exact h.elim
    | cont => exact h.elim
    | ret u =>
      obtain ⟨v, H', os, bare, un, hok', rv', F', O1, O2, t, ts', _, _, ow, et⟩ := h
      subst et
      have ev : v = .bl true := by
        cases ow with
        | va r => cases r; rfl
      subst ev
      obtain rfl : u = Value.bool true := rv'
      have key : ∀ b o, b ∉ cs.map (·.2.1) → s.heap.get? b = some o → s'.heap.get? b = some o := fun b o nb e => by
        by_cases q : H b = none
        · exact un.keep b o e q (fun z => absurd (show b ∈ ([] : List Addr) from z) List.not_mem_nil) List.not_mem_nil
        · have eF := S.nt b nb
          obtain ⟨_, _, o', ho', hb'⟩ := S.one b (by rw [← eF]; exact q)
          rw [e] at ho'
          cases ho'
          exact (hok' b _ (un.frzs b _ _ (eF.trans hb'))).1
      have grown : ∀ p ∈ cs, ∃ more : Array Value, s'.heap.get? p.2.1 = some { cls := .none, data := .fields more } := fun p hp => by
        obtain ⟨more, z⟩ := un.tbls p.2.1 #[] (S.tb _ (List.mem_map.mpr ⟨p, hp, rfl⟩))
        exact ⟨_, hok' p.2.1 _ z⟩
      refine ⟨rfl, ⟨fun b o e => ?_, fun b o e => ?_⟩, os, bare⟩
      · by_cases hb : b ∈ cs.map (·.2.1)
        · obtain ⟨p, hp, ep⟩ := List.mem_map.mp hb
          obtain ⟨more, hm⟩ := grown p hp
          rw [← ep] at e ⊢
          rw [hT p hp] at e
          cases e
          exact .inr (.inl ⟨((C p hp).tab (hT p hp)).isCodeTable, rfl, #[], more, rfl, by rw [Array.empty_append]; exact hm⟩)
        · exact .inl (key b o hb e)
      · by_cases hb : b ∈ cs.map (·.2.1)
        · obtain ⟨p, hp, ep⟩ := List.mem_map.mp hb
          obtain ⟨more, hm⟩ := grown p hp
          rw [← ep]
          exact ⟨_, hm⟩
        · exact ⟨o, key b o hb e⟩
/-- what the head tells of the code objects and tables cs -/
structure CsAt (K : PySem.W.Frag) (h : Heap) (cs : Cs) : Prop where
  hT : ∀ p ∈ cs, h.get? p.2.1 = some { cls := .none, data := .fields #[] }
  nT : ∀ p ∈ cs, K.lookup p.2.1 = none
  C : ∀ p ∈ cs, PySem.W.CodeHd h p.1 p.2.1
theorem CsAt.nil {K : PySem.W.Frag} {h : Heap} : CsAt K h [] := ⟨fun _ z => (nomatch z), fun _ z => (nomatch z), fun _ z => (nomatch z)⟩
theorem CsAt.cons {K : PySem.W.Frag} {h : Heap} {c P : Addr} {q : Str} {cs : Cs} (a : PySem.W.CodeHd h c P ∧ h.get? P = some (PySem.W.tabObj #[])) (n : K.lookup P = none) (r : CsAt K h cs) : CsAt K h ((c, P, q) :: cs) :=
  ⟨fun p hp => (List.mem_cons.mp hp).elim (fun e => by rw [e]; exact a.2) (r.hT p), fun p hp => (List.mem_cons.mp hp).elim (fun e => by rw [e]; exact n) (r.nT p), fun p hp => (List.mem_cons.mp hp).elim (fun e => by rw [e]; exact a.1) (r.C p)⟩
/-- the goal that k_head leaves, with tables -/
theorem walk_gT {l : PySem.W.OpenLaw} {n k : Nat} {q : Program} {loose : List Str} {XP : (Str → Option Value) → Heap → Prop} {YP : World → Heap → Prop} {d : DefRec} {K : Params → PySem.W.Frag} {sp : World → Spc} {x : Str} {cs : Params → Cs}
    (hn : l.most = some n) (hn2 : n ≤ sizeLine) (hdf : d.params.defaults = []) (hr : Room k callerA) (hY : ∀ (w : World) (h : Heap), YP w h → (K w.params).In h)
    (hcs : ∀ (w : World) (h : Heap), (K w.params).In h → (∀ (x : Str) (c P : Addr) (d : DefRec), (recsOf q).find? (fun e => e.name == x) = some d → PySem.W.tabIn (K w.params) x = some (c, P) → PySem.W.CodeHd h c P ∧ h.get? P = some (PySem.W.tabObj #[])) → CsAt (K w.params) h (cs w.params))
    (F : ∀ (w : World) (mg : Str → Option Value) (fa : Addr) (h : Heap), (K w.params).In h → h.Ns mainGlobals mg → mg d.name = some (.ref fa) →
      ∃ fd : FuncData, (∀ (s : Shared) (u : Value), BindsTo s fd ⟨[u], []⟩ [(x, u)]) ∧ ∀ base : Heap, (K w.params).In base → base.Ns mainGlobals mg → (∀ p ∈ cs w.params, LamX.TabB base mg p.1 p.2.1) → FnG l.prog w (K w.params) mg base (cs w.params).tq k fa fd [x] (sp w))
    (hsp : ∀ (w : World) (a : Addr) (ns : List Int), ns.length ≤ n → sp w [scT (K w.params) a ns] (fun t _ => t = .va (.bool true)) fun _ _ => False) :
    PySem.W.WalkO q loose XP YP l.row.toRowW d [] (fun f vs => PySem.call f vs) :=
  Att.attach_call hn hdf fun w s₀ s₁ mg mb fa o pm cd doc a vs ns G Y ho hd hcd hmg hobj hints hlen hg => by
    obtain ⟨fd, hb, hF⟩ := F w mg fa _ (hY w _ Y) G.T.g hmg
    have c := hcs w _ (hY w _ Y) fun x c P d h1 h2 => PySem.W.tab_of G.T (hY w _ Y) h1 h2
    exact law_goes (hY w _ Y) G.T.g G.T.b G.T.builtins G.T.nolimit hg c.hT c.nT c.C G.T.bmain hobj hints (Nat.le_trans hlen hn2) hr hF hb (hsp w a ns hlen)
/-- the goal that k_head leaves -/
theorem walk_g {l : PySem.W.OpenLaw} {n k : Nat} {q : Program} {loose : List Str} {XP : (Str → Option Value) → Heap → Prop} {YP : World → Heap → Prop} {d : DefRec} {K : Params → PySem.W.Frag} {sp : World → Spc} {x : Str}
    (hn : l.most = some n) (hn2 : n ≤ sizeLine) (hdf : d.params.defaults = []) (hr : Room k callerA) (hY : ∀ (w : World) (h : Heap), YP w h → (K w.params).In h)
    (F : ∀ (w : World) (mg : Str → Option Value) (fa : Addr) (h : Heap), (K w.params).In h → h.Ns mainGlobals mg → mg d.name = some (.ref fa) →
      ∃ fd : FuncData, (∀ (s : Shared) (u : Value), BindsTo s fd ⟨[u], []⟩ [(x, u)]) ∧ ∀ base : Heap, (K w.params).In base → base.Ns mainGlobals mg → FnG l.prog w (K w.params) mg base [] k fa fd [x] (sp w))
    (hsp : ∀ (w : World) (a : Addr) (ns : List Int), ns.length ≤ n → sp w [scT (K w.params) a ns] (fun t _ => t = .va (.bool true)) fun _ _ => False) :
    PySem.W.WalkO q loose XP YP l.row.toRowW d [] (fun f vs => PySem.call f vs) :=
  walk_gT (cs := fun _ => []) hn hn2 hdf hr hY (fun _ _ _ _ => .nil) (fun w mg fa h a b c => let ⟨fd, hb, hF⟩ := F w mg fa h a b c; ⟨fd, hb, fun base x y _ => hF base x y⟩) hsp
end QL

/-! QX: defs that are called by name; small laws. -/
namespace QL
open PySem PySem.Spec PyProof.Rows L2

theorem takes_no {Tq : List (Addr × Str)} {Z : Zb Tq} {X : Cx} : Takes X (wxOf Z fun _ _ => False) := fun u s' ⟨a, B, sI, pins, σ, H, cls, d, e, I, nb, up, sky, na, os, ag, F, O, env, ex, b, o, xa, q⟩ => q.elim
/-- a def of the module that may be called -/
structure Df (P : Program) (w : World) (K : PySem.W.Frag) (mg : Str → Option Value) (base : Heap) (Tq : List (Addr × Str)) (k : Nat) (x : Str) (ps : List Str) (sp : Spc) : Prop where
  ex : ∃ (f : Addr) (fd : FuncData), FnG P w K mg base Tq k f fd ps sp ∧ mg x = some (.ref f) ∧ PySem.W.keepIn K (.ref f) = true ∧ Binds K fd ps []
/-- the same, by the names ks, of which the places ns are the parameters in their order -/
structure Dk (P : Program) (w : World) (K : PySem.W.Frag) (mg : Str → Option Value) (base : Heap) (Tq : List (Addr × Str)) (k : Nat) (x : Str) (ps ks : List Str) (ns : List Nat) (sp : Spc) : Prop where
  ex : ∃ (f : Addr) (fd : FuncData), FnG P w K mg base Tq k f fd ps sp ∧ mg x = some (.ref f) ∧ PySem.W.keepIn K (.ref f) = true ∧ KwOk K fd ps ks ns
theorem Df.mono {P : Program} {w : World} {K : PySem.W.Frag} {mg : Str → Option Value} {base : Heap} {Tq : List (Addr × Str)} {j k : Nat} {x : Str} {ps : List Str} {sp : Spc} (G : Df P w K mg base Tq j x ps sp) (h : j ≤ k) : Df P w K mg base Tq k x ps sp :=
  let ⟨f, fd, g, r⟩ := G.ex; ⟨f, fd, g.mono h, r⟩
theorem Dk.mono {P : Program} {w : World} {K : PySem.W.Frag} {mg : Str → Option Value} {base : Heap} {Tq : List (Addr × Str)} {j k : Nat} {x : Str} {ps ks : List Str} {ns : List Nat} {sp : Spc} (G : Dk P w K mg base Tq j x ps ks ns sp) (h : j ≤ k) : Dk P w K mg base Tq k x ps ks ns sp :=
  let ⟨f, fd, g, r⟩ := G.ex; ⟨f, fd, g.mono h, r⟩
theorem fun_kws {K : PySem.W.Frag} {x qual : Str} {st : Stmt} {f : Addr} {fd : FuncData} {ps ks : List Str} {ns : List Nat} (F : Fun K x qual st f fd)
    (h : ∀ (kV doc pm : Value) (an : Option Addr) (cdv ct : Value) (us : List Value), us.length = ks.length → bindArgs (PySem.W.fnOf x qual (defArgs st) (defBody st) (defScope st) .none kV doc pm an cdv ct) ⟨[], ks.zip us⟩ = pure (ps.zip (pick ns us))) : KwOk K fd ps ks ns := by
  obtain ⟨oc, od, kV, doc, pm, an, cdv, ct, osl, rfl, lk, hcd⟩ := F.ex
  exact fun s us _ hl => .of_eq (h kV doc pm an cdv ct us hl)
section
variable {Tq : List (Addr × Str)} {Z : Zb Tq} {X : Cx} {e : Expr} {es : List Expr} {env : Env} {pos p : Pos} {P : R → Env → Prop} {k : Nat} {x : Str} {ps ks : List Str} {ns : List Nat} {sp : Spc} {kws : List Keyword}
theorem w_fn (G : Df X.prog X.w X.K X.mg X.base Tq k x ps sp) (hr : Room k X.A) (hgd : X.A.guards = some []) (h : WAs Z X (e :: es) env fun as e1 => callD sp as e1 (fun t e => P (.t t) e) fun _ _ => False)
    (hg : Gl X x := by rfl) (hdb : (x == ("__debug__" : Str)) = false := by decide) (he : starEach (e :: es) X.env = (false, eval e X.env) :: starEach es X.env := by rfl) (hpl : (backTo pos (starEach es X.env)).any (·.1) = false := by rfl) :
    WE Z X (.Call (.Name x p) (e :: es) [] pos) env P := by
  obtain ⟨f, fd, g, hm, hk, hb⟩ := G.ex
  refine w_call (dds := []) (vds := []) g hr hgd takes_no hm hk hb .nil (fun _ => .nil) ?_ hg hdb he hpl
  simpa only [vaAll, List.map_nil, List.append_nil] using h
theorem w_fnK (G : Dk X.prog X.w X.K X.mg X.base Tq k x ps ks ns sp) (hr : Room k X.A) (hgd : X.A.guards = some []) (h : WKs Z X kws env fun as e1 => as.length = ks.length ∧ callD sp (pick ns as) e1 (fun t e => P (.t t) e) fun _ _ => False)
    (hks : (backToKw pos (keywordEach kws X.env)).filterMap (·.1) = ks := by rfl) (hall : (backToKw pos (keywordEach kws X.env)).all (·.1.isSome) = true := by rfl)
    (hg : Gl X x := by rfl) (hdb : (x == ("__debug__" : Str)) = false := by decide) (hpl : ((backTo pos (starEach [] X.env)).any (·.1) || (backToKw pos (keywordEach kws X.env)).any (·.1.isNone)) = false := by rfl) :
    WE Z X (.Call (.Name x p) [] kws pos) env P := by
  obtain ⟨f, fd, g, hm, hk, hb⟩ := G.ex
  exact w_callK g hr hgd takes_no hm hk hb h hks hall hg hdb hpl
end
/-! ### lists of ints -/
abbrev iDs (ns : List Int) : List D := ns.map PyData.int
theorem small2000 {n : Nat} (h : n ≤ 2000) : n < sizeLine := Nat.lt_of_le_of_lt h (by decide)
theorem atI_last' {α : Type} {xs : List α} {z : α} (h : xs.getLast? = some z) : atI xs (-1) = some z := by
  obtain ⟨ys, rfl⟩ := List.getLast?_eq_some_iff.mp h
  exact atI_last ys z
theorem atI_map {α β : Type} (f : α → β) {xs : List α} {i : Int} {x : α} (h : atI xs i = some x) : atI (xs.map f) i = some (f x) := by
  unfold atI at h ⊢
  rw [List.length_map]
  cases hn : ixN xs.length i with
  | none => rw [hn] at h; cases h
  | some k =>
    rw [hn] at h
    have h : xs[k]? = some x := h
    show (xs.map f)[k]? = some (f x)
    rw [List.getElem?_map, h]
    rfl
theorem cutD_map {α : Type} (f : α → D) (xs : List α) (lo hi : Option Int) : cutD (xs.map f) lo hi = ((xs.drop (HT.sIx xs.length 0 lo)).take (HT.sIx xs.length xs.length hi - HT.sIx xs.length 0 lo)).map f := by
  unfold cutD
  rw [List.length_map, List.map_take, List.map_drop]
theorem cut_dropLast {α : Type} (f : α → D) (xs : List α) : cutD (xs.map f) none (some (-1)) = xs.dropLast.map f := by
  rw [cutD_map]
  have h1 : HT.sIx xs.length 0 none = 0 := rfl
  have h2 : HT.sIx xs.length xs.length (some (-1)) = xs.length - 1 := by
    unfold HT.sIx
    simp only
    rw [if_pos (by decide)]
    omega
  rw [h1, h2, List.drop_zero, Nat.sub_zero, List.dropLast_eq_take]
theorem cut_nat {α : Type} (f : α → D) (xs : List α) (i j : Nat) (hi : i ≤ xs.length) (hj : j ≤ xs.length) : cutD (xs.map f) (some (i : Int)) (some (j : Int)) = ((xs.drop i).take (j - i)).map f := by
  rw [cutD_map, HT.sIx_nat, HT.sIx_nat, Nat.min_eq_left hi, Nat.min_eq_left hj]
theorem room64 {k : Nat} {A : Around} (hr : Room k A) : A.units + 64 < cLine := by have := hr.un; omega
theorem room110 {k : Nat} {A : Around} (hr : Room k A) : A.units + 110 < cLine := by have := hr.un; omega
theorem rangeD_len (lo : Int) (n : Nat) : (rangeD lo n).length = n := by unfold rangeD; rw [List.length_map, List.length_range]
theorem rangeD_at {lo : Int} {n j : Nat} {d : D} (h : (rangeD lo n)[j]? = some d) : d = .int (lo + j) ∧ j < n := by
  unfold rangeD at h
  rw [List.getElem?_map, Option.map_eq_some_iff] at h
  obtain ⟨k, hk, e⟩ := h
  have hj : j < n := by
    have := (List.getElem?_eq_some_iff.mp hk).1
    simpa using this
  rw [List.getElem?_range hj] at hk
  cases hk
  exact ⟨e.symm, hj⟩
end QL

/-! QK: own classes: fields read and stored, methods called, instances made. -/
namespace QL
open PySem PySem.Spec PyProof.Rows L2

def putT (f : Str) (u : T) : List (Str × T) → List (Str × T)
  | [] => [(f, u)]
  | (g, t) :: r => if g = f then (g, u) :: r else (g, t) :: putT f u r
theorem OwF.put {F H : Hp} {f : Str} {u : T} {w : V} {Ou : List Addr} (hu : Ow F H Ou w u) : ∀ {fs : List (Str × T)} {vs : List (Str × V)} {O : List Addr}, OwF F H O vs fs → ∃ O' Od, OwF F H O' (putF f w vs) (putT f u fs) ∧ (O ++ Ou).Perm (O' ++ Od)
  | [], _, _, .nil => ⟨Ou ++ [], [], .cons hu .nil, by rw [List.append_nil, List.append_nil]; exact List.Perm.refl _⟩
  | (n, t) :: fs, _, _, .cons (O1 := O1) (O2 := O2) h r => by
    by_cases e : n = f
    · refine ⟨Ou ++ O2, O1, ?_, ?_⟩
      · show OwF F H _ (if n = f then _ else _) (if n = f then _ else _)
        rw [if_pos e, if_pos e]
        exact .cons hu r
      · rw [List.append_assoc]
        refine List.perm_append_comm.trans ?_
        exact (List.perm_append_comm (l₁ := O2)).append_right O1
    · obtain ⟨O', Od, q, p⟩ := OwF.put (f := f) hu r
      refine ⟨O1 ++ O', Od, ?_, ?_⟩
      · show OwF F H _ (if n = f then _ else _) (if n = f then _ else _)
        rw [if_neg e, if_neg e]
        exact .cons h q
      · rw [List.append_assoc, List.append_assoc]
        exact p.append_left O1
theorem OwF.len {F H : Hp} : ∀ {fs : List (Str × T)} {vs : List (Str × V)} {O : List Addr}, OwF F H O vs fs → vs.length = fs.length
  | _, _, _, .nil => rfl
  | _, _, _, .cons _ r => congrArg (· + 1) r.len
theorem OwF.look {F H : Hp} {f : Str} : ∀ {fs : List (Str × T)} {vs : List (Str × V)} {O : List Addr}, OwF F H O vs fs → (fs.lookup f = none ∧ vs.lookup f = none) ∨ ∃ t w O', fs.lookup f = some t ∧ vs.lookup f = some w ∧ Ow F H O' w t
  | _, _, _, .nil => .inl ⟨rfl, rfl⟩
  | (n, t) :: fs, (_, v) :: vs, _, .cons h r => by
    rw [List.lookup_cons, List.lookup_cons]
    cases hb : f == n with
    | true => exact .inr ⟨_, _, _, rfl, rfl, h⟩
    | false => exact r.look

/-! ### o.f -/
def fldR (K : PySem.W.Frag) (r : R) (f : Str) (env : Env) (k : R → Prop) : Prop := match r with
  | .bor a i p => match getP i p env with
    | some (.ins a' C fs) => a' = a ∧ (Cls K C ∧ NoAttr K C f) ∧ (match fs.lookup f with
      | some (.va d) => k (.t (.va d))
      | some t => match t.addr with
        | some b => k (.bor b i (p ++ [f]))
        | none => False
      | none => False)
    | _ => False
  | _ => False
section
variable {Tq : List (Addr × Str)} {Z : Zb Tq} {X : Cx} {e a b c o value : Expr} {es : List Expr} {env : Env} {pos pos' apos p : Pos} {P : R → Env → Prop} {PO : Out → Prop} {f x m : Str}
theorem w_fld (h : WE Z X o env fun r e1 => fldR X.K r f e1 fun r2 => P r2 e1) (hb : attributeBase o f X.env (eval o X.env) = eval o X.env := by rfl) : WE Z X (.Attribute o f pos) env P :=
  we_of (pe_fld (pe_E (Z := Z)) hb) fun σ H F O b0 o0 => ⟨env, F, O, _, b0, o0, h, fun v H1 ⟨F1, O1, r, e1, b1, st, fr, q⟩ => by
    cases r with
    | t t => exact q.elim
    | bor a i p =>
      obtain ⟨o1, rfl⟩ := st
      unfold fldR at q
      simp only at q
      split at q
      · rename_i a' C fs hg
        obtain ⟨rfl, ⟨c, n⟩, q⟩ := q
        obtain ⟨w, ⟨Oj, O', h1, h2, h3⟩, _⟩ := o1.focus hg
        cases h1 with
        | ins h1 hd r =>
          rcases r.look (f := f) with ⟨k1, k2⟩ | ⟨t, w, Ot, k1, k2, hw⟩
          · rw [k1] at q; exact q.elim
          · refine ⟨_, _, _, _, w, rfl, h1, c, n, k2, ?_⟩
            rw [k1] at q
            cases t with
            | va d =>
              cases hw with
              | va r => exact ⟨F1, O1, .t (.va d), _, b1, ⟨O1, [], (List.append_nil O1).symm, o1, .va r⟩, fr, q⟩
            | lst a ds => exact ⟨F1, O1, .bor _ _ _, _, b1, ⟨o1, hw.ref rfl⟩, fr, q⟩
            | dic a ds => exact ⟨F1, O1, .bor _ _ _, _, b1, ⟨o1, hw.ref rfl⟩, fr, q⟩
            | fdc a ds => exact ⟨F1, O1, .bor _ _ _, _, b1, ⟨o1, hw.ref rfl⟩, fr, q⟩
            | ins a C fs => exact ⟨F1, O1, .bor _ _ _, _, b1, ⟨o1, hw.ref rfl⟩, fr, q⟩
            | hole a => exact ⟨F1, O1, .bor _ _ _, _, b1, ⟨o1, hw.ref rfl⟩, fr, q⟩
            | ob a φ =>
              cases a with
              | none => exact q.elim
              | some a => exact ⟨F1, O1, .bor _ _ _, _, b1, ⟨o1, hw.ref rfl⟩, fr, q⟩
      · exact q.elim⟩

/-! ### x.f = e, x a name -/
def putFR (K : PySem.W.Frag) (t : T) (i : Nat) (f : Str) (e : Env) (k : Env → Prop) : Prop := match e[i]? with
  | some (some (.ins a C fs)) => (Cls K C ∧ NoAttr K C f ∧ fs.length < 1000) ∧ k (e.set i (some (.ins a C (putT f t fs))))
  | _ => False
def setFR (K : PySem.W.Frag) (r : R) (i : Nat) (f : Str) (e : Env) (k : Env → Prop) : Prop := match r with
  | .t t => putFR K t i f e k
  | .bor a j p => absorb [.bor a j p] e fun ds e' => match ds with
    | [d] => putFR K (.va d) i f e' k
    | _ => False
theorem mutI {F H : Hp} {O1 O2 : List Addr} {σ : L2.St} {env : Env} {i : Nat} {a C : Addr} {fs : List (Str × T)} {v : V} {t : T} {f : Str} (b : Bas Z F H (O1 ++ O2)) (o : OwE F H O1 σ env) (hi : env[i]? = some (some (.ins a C fs))) (w : Ow F H O2 v t) :
    ∃ dx vs, σ[i]? = some (some (.ref a)) ∧ H a = some (.ins C dx vs) ∧ vs.length = fs.length ∧ ∃ O', Bas Z F (upd H a (.ins C dx (putF f v vs))) O' ∧ OwE F (upd H a (.ins C dx (putF f v vs))) O' σ (env.set i (some (.ins a C (putT f t fs)))) ∧ Frm Tq H F (O1 ++ O2) (upd H a (.ins C dx (putF f v vs))) F O' := by
  obtain ⟨w0, hw, Oj, Or, h1, h2, h3⟩ := o.focusI hi
  cases h1 with
  | ins ha hd r =>
    rename_i dx vs Of
    refine ⟨dx, vs, hw, ha, r.len, ?_⟩
    obtain ⟨Of', Od, r', pm⟩ := r.put (f := f) w
    have nd0 : ((a :: dx :: Of) ++ Or ++ O2).Nodup := (h2.append_right O2).nodup b.nd
    have pm1 : ((a :: dx :: Of) ++ Or ++ O2).Perm ((a :: dx :: Of') ++ Or ++ Od) := by
      have e1 : (Of ++ Or ++ O2).Perm (Of' ++ Or ++ Od) := by
        have e2 : (Of ++ Or ++ O2).Perm ((Of ++ O2) ++ Or) := by
          rw [List.append_assoc, List.append_assoc]
          exact List.perm_append_comm.append_left Of
        have e3 : (Of' ++ Or ++ Od).Perm ((Of' ++ Od) ++ Or) := by
          rw [List.append_assoc, List.append_assoc]
          exact List.perm_append_comm.append_left Of'
        exact e2.trans ((pm.append_right Or).trans e3.symm)
      exact (e1.cons dx).cons a
    have nd1 := pm1.nodup nd0
    have na : ∀ c, c ∈ dx :: (Of' ++ Or ++ Od) → c ≠ a := fun c hc z => by
      subst z
      exact (List.nodup_cons.mp nd1).1 hc
    have ex : ∀ c ∈ O1 ++ O2, H c ≠ none := fun c hc => (List.mem_append.mp hc).elim (o.there c) (w.there c)
    have keep : ∀ c, c ≠ a → upd H a (.ins C dx (putF f v vs)) c = H c := fun c hc => upd_ne hc
    have hOf : ∀ c ∈ Of', upd H a (.ins C dx (putF f v vs)) c = H c := fun c hc => keep c (na c (List.mem_cons_of_mem _ (List.mem_append_left _ (List.mem_append_left _ hc))))
    have ow : Ow F (upd H a (.ins C dx (putF f v vs))) (a :: dx :: Of') (.ref a) (.ins a C (putT f t fs)) :=
      .ins upd_same ((keep dx (na dx List.mem_cons_self)).trans hd) (r'.stay (Same.refl _) hOf)
    obtain ⟨O'', q1, q2⟩ := h3 F (upd H a (.ins C dx (putF f v vs))) _ _ (Same.refl _) (fun c hc => keep c (na c (List.mem_cons_of_mem _ (List.mem_append_left _ (List.mem_append_right _ hc))))) ow
    have pm2 : (O1 ++ O2).Perm (O'' ++ Od) := (h2.append_right O2).trans (pm1.trans (q2.symm.append_right Od))
    have ha' : a ∈ O1 ++ O2 := List.mem_append_left _ (h2.mem_iff.mpr (List.mem_append_left _ List.mem_cons_self))
    have da := b.dis a ha'
    have fr : Frm Tq H F (O1 ++ O2) (upd H a (.ins C dx (putF f v vs))) F O'' := ⟨Same.refl _, fun c y e _ n => by rw [upd_ne fun z => n (by rw [z]; exact ha')]; exact e, fun c e => by
      by_cases z : c = a
      · subst z; rw [upd_same]; exact fun z => nomatch z
      · rw [upd_ne z]; exact e, fun c e => .inl e, fun c hc => .inl (pm2.mem_iff.mpr (List.mem_append_left _ hc)), tab_own ha⟩
    refine ⟨O'', ⟨fun c y e => ?_, (List.nodup_append.mp (pm2.nodup b.nd)).1, fun c hc => b.dis c (pm2.mem_iff.mpr (List.mem_append_left _ hc)), b.abs.trans fr⟩, q1, fr⟩
    rw [upd_ne fun z => by rw [z, da] at e; cases e]
    exact b.sub c y e
theorem ws_fld (i : Nat) (h : WE Z X value env fun r e1 => setFR X.K r i f e1 fun e2 => PO (.nx e2)) (hN : X.N[i]? = some x := by rfl) (hv : Vis X.env.scope x := by first | exact Or.inl rfl | exact Or.inr (Or.inl rfl) | exact Or.inr (Or.inr rfl))
    (hd : (x == ("__debug__" : Str)) = false := by decide) (hcd : (x == ("__classdict__" : Str)) = false := by decide) (hs : swapsWith value (some (.Attribute (.Name x p) f pos')) pos.line X.env = pure false := by rfl) : WS Z X (.Assign [.Attribute (.Name x p) f pos'] value pos) env PO :=
  ws_of (ps_fld (pe_var (i := i) hN hv hd hcd) (pe_E (Z := Z)) hs) fun σ H F O b o => ⟨env, F, O, _, b, o, h, fun v H1 ⟨F1, O1, r, e1, b1, st, fr, q⟩ => by
    have fin : ∀ {F2 : Hp} {Oa Ob : List Addr} {t : T} {e2 : Env}, Bas Z F2 H1 (Oa ++ Ob) → OwE F2 H1 Oa σ e2 → Ow F2 H1 Ob v t → Frm Tq H F O H1 F2 (Oa ++ Ob) → putFR X.K t i f e2 (fun e3 => PO (.nx e3)) →
        tVar i σ H1 (fun x H2 => ∃ a C dx fs, x = .ref a ∧ H2 a = some (.ins C dx fs) ∧ Cls X.K C ∧ NoAttr X.K C f ∧ fs.length < 1000 ∧ (endsOf Z H F O PO).nx σ (upd H2 a (.ins C dx (putF f v fs)))) := fun {F2 Oa Ob t e2} b2 o2 w2 fr2 q2 => by
      unfold putFR at q2
      split at q2
      · rename_i a C fs hi
        obtain ⟨⟨c, n, l⟩, q2⟩ := q2
        obtain ⟨dx, vs, hσ, ha, hl, O', b3, o3, fr3⟩ := mutI (f := f) b2 o2 hi w2
        exact ⟨_, hσ, a, C, dx, vs, rfl, ha, c, n, by rw [hl]; exact l, F2, O', _, b3, o3, fr2.trans fr3, q2⟩
      · exact q2.elim
    cases r with
    | t t =>
      obtain ⟨Oa, Ob, rfl, o1, w1⟩ := st
      exact fin b1 o1 w1 fr q
    | bor a j p =>
      obtain ⟨o1, rfl⟩ := st
      unfold setFR at q
      simp only at q
      obtain ⟨F2, O2, ds, e2, b2, o2, r2, fr2, q2⟩ := absorb_ok (.cons (a := .bor a j p) rfl .nil) b1 o1 q
      cases r2 with
      | cons r2 rn =>
        cases rn
        exact fin (Ob := []) (by rw [List.append_nil]; exact b2) o2 (.va r2) (by rw [List.append_nil]; exact fr.trans fr2) q2⟩
end
end QL

/-! QM: methods called, instances made. -/
namespace QL
open PySem PySem.Spec PyProof.Rows L2
/-- a method as a promise -/
structure Mf (P : Program) (w : World) (K : PySem.W.Frag) (mg : Str → Option Value) (base : Heap) (Tq : List (Addr × Str)) (k : Nat) (C : Addr) (m : Str) (ps : List Str) (sp : Spc) : Prop where
  ex : ∃ f fd, FnG P w K mg base Tq k f fd ps sp ∧ Cls K C ∧ Meth K C m f ∧ Binds K fd ps []
theorem Mf.mono {P : Program} {w : World} {K : PySem.W.Frag} {mg : Str → Option Value} {base : Heap} {Tq : List (Addr × Str)} {j k : Nat} {C : Addr} {m : Str} {ps : List Str} {sp : Spc} (G : Mf P w K mg base Tq j C m ps sp) (h : j ≤ k) : Mf P w K mg base Tq k C m ps sp :=
  let ⟨f, fd, g, r⟩ := G.ex; ⟨f, fd, g.mono h, r⟩
/-- a class that is made by its own __init__ -/
structure Ck (P : Program) (w : World) (K : PySem.W.Frag) (mg : Str → Option Value) (base : Heap) (Tq : List (Addr × Str)) (k : Nat) (x : Str) (C : Addr) (ps : List Str) (sp : Spc) : Prop where
  ex : ∃ f fd, FnG P w K mg base Tq k f fd ps sp ∧ Mk K C f ∧ mg x = some (.ref C) ∧ Binds K fd ps []
theorem Ck.mono {P : Program} {w : World} {K : PySem.W.Frag} {mg : Str → Option Value} {base : Heap} {Tq : List (Addr × Str)} {j k : Nat} {x : Str} {C : Addr} {ps : List Str} {sp : Spc} (G : Ck P w K mg base Tq j x C ps sp) (h : j ≤ k) : Ck P w K mg base Tq k x C ps sp :=
  let ⟨f, fd, g, r⟩ := G.ex; ⟨f, fd, g.mono h, r⟩
section
variable {Tq : List (Addr × Str)} {Z : Zb Tq} {X : Cx} {e a b c o value : Expr} {es : List Expr} {env : Env} {pos pos' apos p : Pos} {P : R → Env → Prop} {f x m : Str} {k : Nat} {C : Addr} {ps : List Str} {sp : Spc}
/-- o.m(..), with what is wanted of an error -/
def methR {Tq : List (Addr × Str)} (as : List Expr) (Z : Zb Tq) (X : Cx) (C : Addr) (m : Str) (r : R) (e1 : Env) (k : List A → Env → Prop) : Prop := match r with
  | .bor a i p => match getP i p e1 with
    | some (.ins a' C' fs) => (a' = a ∧ C' = C ∧ fs.lookup m = none) ∧ WAs Z X as e1 fun as' e2 => k (.bor a i p :: as') e2
    | _ => False
  | _ => False
theorem methR_ok {σ : L2.St} {F H : Hp} {O : List Addr} {v : V} {r : R} {e1 : Env} {kk : List A → Env → Prop} (st : StR F H O σ e1 v r) (h : methR es Z X C m r e1 kk) :
    ∃ a i p dx vs, v = .ref a ∧ r = .bor a i p ∧ H a = some (.ins C dx vs) ∧ vs.lookup m = none ∧ OwE F H O σ e1 ∧ WAs Z X es e1 fun as' e2 => kk (.bor a i p :: as') e2 := by
  cases r with
  | t t => exact h.elim
  | bor a i p =>
    obtain ⟨o1, rfl⟩ := st
    unfold methR at h
    simp only at h
    split at h
    · rename_i a' C' fs hg
      obtain ⟨⟨rfl, rfl, hm⟩, h⟩ := h
      obtain ⟨w, ⟨Oj, O', h1, h2, h3⟩, _⟩ := o1.focus hg
      cases h1 with
      | ins ha hd rr =>
        refine ⟨_, i, p, _, _, rfl, rfl, ha, ?_, o1, h⟩
        rcases rr.look (f := m) with ⟨_, e2⟩ | ⟨t, w, Ot, e2, _, _⟩
        · exact e2
        · rw [hm] at e2; cases e2
    · exact h.elim
theorem w_methX {ET : Ex → Env → Prop} {pl : Sem Bool} (G : Mf X.prog X.w X.K X.mg X.base Tq k C m ps sp) (hr : Room k X.A) (hgd : X.A.guards = some []) (tk : Takes X (wxOf Z ET))
    (h : WE Z X o env fun r e1 => methR (e :: es) Z X C m r e1 fun as e2 => callD sp as e2 (fun t e => P (.t t) e) ET)
    (hst : starEach (e :: es) X.env = (false, eval e X.env) :: starEach es X.env := by rfl) (hpl : (backTo pos (starEach es X.env)).any (·.1) = false := by rfl)
    (ht : eval (.Call (.Attribute o m apos) (e :: es) [] pos) X.env = (do
      let ov ← eval o X.env
      standAt apos.atName
      let (f, first) ← holding [ov] (getMethod ov m pl)
      callWith pos f first (backTo pos (starEach (e :: es) X.env)) (backToKw pos (keywordEach [] X.env))) := by rfl) :
    WE Z X (.Call (.Attribute o m apos) (e :: es) [] pos) env P := fun pins s σ H F O I b o0 => by
  obtain ⟨f, fd, g, c, hm, hb⟩ := G.ex
  refine PySem.W.methodCall_KW (pl := pl) (thn (h pins s σ H F O I b o0) fun u s1 ⟨v, H1, I1, rx, F1, O1, r, e1, b1, st, fr, q⟩ => ?_) ht
  obtain ⟨a, i, p, dx, vs, rfl, rfl, ha, hl, o1, q⟩ := methR_ok st q
  obtain rfl : u = Value.ref a := rx
  refine getmeth_ok I1 ha c hm hl ?_
  refine PySem.W.callWith_K (first := [.ref a]) (h₀ := X.base) I1.ok.mod.kin hm.kp (thn ((pa_As (Z := Z)).run pos pins s1 σ H1 (PostAs Z σ H1 F1 O1 _) I1 ⟨e1, F1, O1, _, b1, o1, q, fun _ _ q => q⟩) fun us s2 ⟨vs2, H2, I2, r2, F2, O2, as, e2, b2, o2, st2, fr2, q2⟩ => ⟨I2.kIn, ?_⟩) hst hpl
  have hl2 : (Value.ref a :: us ++ []).length = ps.length := by
    obtain ⟨ts, e3, Oc, Or, pm, sv, o3, hh⟩ := deref_ok (as := .bor a i p :: as) (vs := .ref a :: vs2) (.cons rfl st2) o2 q2
    rw [← g.len _ _ _ hh, ← sv.len, List.append_nil]
    show us.length + 1 = vs2.length + 1
    rw [← r2.length]
  have hb2 := hb s2 (Value.ref a :: us) I2.kIn hl2
  rw [List.append_nil] at hb2
  exact thn (call_g (us0 := .ref a :: us) (kw := []) (us := .ref a :: us) (vs := .ref a :: vs2) (as := .bor a i p :: as) g hr hgd tk hb2 I2 b2 o2 (.cons rfl st2) (.cons rfl r2) q2) (EP.imp fun v H' q => q.from (fr.trans fr2))
theorem w_methX0 {ET : Ex → Env → Prop} {pl : Sem Bool} (G : Mf X.prog X.w X.K X.mg X.base Tq k C m ps sp) (hr : Room k X.A) (hgd : X.A.guards = some []) (tk : Takes X (wxOf Z ET))
    (h : WE Z X o env fun r e1 => methR [] Z X C m r e1 fun as e2 => callD sp as e2 (fun t e => P (.t t) e) ET)
    (ht : eval (.Call (.Attribute o m apos) [] [] pos) X.env = (do
      let ov ← eval o X.env
      standAt apos.atName
      let (f, first) ← holding [ov] (getMethod ov m pl)
      callWith pos f first (backTo pos (starEach [] X.env)) (backToKw pos (keywordEach [] X.env))) := by rfl) :
    WE Z X (.Call (.Attribute o m apos) [] [] pos) env P := fun pins s σ H F O I b o0 => by
  obtain ⟨f, fd, g, c, hm, hb⟩ := G.ex
  refine PySem.W.methodCall_KW (pl := pl) (thn (h pins s σ H F O I b o0) fun u s1 ⟨v, H1, I1, rx, F1, O1, r, e1, b1, st, fr, q⟩ => ?_) ht
  obtain ⟨a, i, p, dx, vs, rfl, rfl, ha, hl, o1, q⟩ := methR_ok st q
  obtain rfl : u = Value.ref a := rx
  refine getmeth_ok I1 ha c hm hl ?_
  replace q : callD sp [.bor a i p] e1 (fun t e => P (R.t t) e) ET := q
  have hl2 : ([Value.ref a] ++ []).length = ps.length := by
    obtain ⟨ts, e3, Oc, Or, pm, sv, o3, hh⟩ := deref_ok (as := [.bor a i p]) (vs := [.ref a]) (.cons rfl .nil) o1 q
    rw [← g.len _ _ _ hh, ← sv.len]
    rfl
  have hb2 := hb s1 [Value.ref a] I1.kIn hl2
  rw [List.append_nil] at hb2
  exact PySem.W.callWith_K0 (first := [.ref a]) I1.kIn hm.kp (thn (call_g (us0 := [.ref a]) (kw := []) (us := [.ref a]) (vs := [.ref a]) (as := [.bor a i p]) g hr hgd tk hb2 I1 b1 o1 (.cons rfl .nil) (.cons rfl .nil) q) (EP.imp fun v H' q => q.from fr))
theorem w_meth {pl : Sem Bool} (G : Mf X.prog X.w X.K X.mg X.base Tq k C m ps sp) (hr : Room k X.A) (hgd : X.A.guards = some [])
    (h : WE Z X o env fun r e1 => methR (e :: es) Z X C m r e1 fun as e2 => callD sp as e2 (fun t e => P (.t t) e) fun _ _ => False)
    (hst : starEach (e :: es) X.env = (false, eval e X.env) :: starEach es X.env := by rfl) (hpl : (backTo pos (starEach es X.env)).any (·.1) = false := by rfl)
    (ht : eval (.Call (.Attribute o m apos) (e :: es) [] pos) X.env = (do
      let ov ← eval o X.env
      standAt apos.atName
      let (f, first) ← holding [ov] (getMethod ov m pl)
      callWith pos f first (backTo pos (starEach (e :: es) X.env)) (backToKw pos (keywordEach [] X.env))) := by rfl) :
    WE Z X (.Call (.Attribute o m apos) (e :: es) [] pos) env P := w_methX (pl := pl) G hr hgd takes_no h hst hpl ht
theorem w_meth0 {pl : Sem Bool} (G : Mf X.prog X.w X.K X.mg X.base Tq k C m ps sp) (hr : Room k X.A) (hgd : X.A.guards = some [])
    (h : WE Z X o env fun r e1 => methR [] Z X C m r e1 fun as e2 => callD sp as e2 (fun t e => P (.t t) e) fun _ _ => False)
    (ht : eval (.Call (.Attribute o m apos) [] [] pos) X.env = (do
      let ov ← eval o X.env
      standAt apos.atName
      let (f, first) ← holding [ov] (getMethod ov m pl)
      callWith pos f first (backTo pos (starEach [] X.env)) (backToKw pos (keywordEach [] X.env))) := by rfl) :
    WE Z X (.Call (.Attribute o m apos) [] [] pos) env P := w_methX0 (pl := pl) G hr hgd takes_no h ht

/-! ### C(..) -/
def callN (sp : Spc) (C : Addr) (as : List A) (env : Env) (PT : T → Env → Prop) (ET : Ex → Env → Prop) : Prop :=
  ∀ a, deref as env fun ts e2 => sp (.ins a C [] :: ts) (fun t ts' => t = .va .none ∧ match ts' with
      | some u :: ts'' => u.addr = some a ∧ putb as ts'' e2 fun e3 => PT u e3
      | _ => False)
    (fun ex ts' => match ts' with
      | _ :: ts'' => putb as ts'' e2 fun e3 => ET ex e3
      | [] => False)
theorem guards_make {A : Around} {C : Addr} {us : List Value} {kw : List (Str × Value)} (h : A.guards = some []) : (A.under (.builtin "type.__call__" ⟨.ref C :: us, kw⟩)).guards = some [] := by
  first | exact h | (simp [Around.under, Code.weight, Code.isCreation, Code.isGuard, Code.isCaller, Code.frames, Code.isFrame, guardIds, h])
theorem make_g {fI : Addr} {fd : FuncData} {ET : Ex → Env → Prop} {as : List A} {vs : List V} {us : List Value} {pins : List (Addr × Obj)} {s : Shared} {σ : L2.St} {H F : Hp} {O : List Addr}
    (M : Mk X.K C fI) (G : FnG X.prog X.w X.K X.mg X.base Tq k fI fd ps sp) (hr : Room (k + 1) X.A) (hg : X.A.guards = some []) (tk : Takes X (wxOf Z ET)) (hb : Binds X.K fd ps []) (I : Inv X pins σ H s) (b : Bas Z F H O) (o : OwE F H O σ env)
    (st : StAs F vs as) (r : Vals vs us) (h : callN sp C as env (fun t e => P (.t t) e) ET) : wpAny (model X.prog X.w) X.A (call (.ref C) us) (EP X pins σ (Post Z σ H F O P)) X.xe s := by
  have nx : H (s.heap.objs.size + 1) = none := I.hok.fresh (Nat.le_succ _)
  have ndx : H s.heap.objs.size = none := I.hok.fresh (Nat.le_refl _)
  have nex : s.heap.objs.size ≠ s.heap.objs.size + 1 := Nat.ne_of_lt (Nat.lt_succ_self _)
  have h := h (s.heap.objs.size + 1)
  have I2 := Inv.made (C := C) I
  generalize eH : upd (upd H s.heap.objs.size (.own (s.heap.objs.size + 1))) (s.heap.objs.size + 1) (.ins C s.heap.objs.size []) = H2 at I2
  have h2x : H2 (s.heap.objs.size + 1) = some (.ins C s.heap.objs.size []) := by rw [← eH, upd_same]
  have h2d : H2 s.heap.objs.size = some (.own (s.heap.objs.size + 1)) := by rw [← eH, upd_ne nex, upd_same]
  have s2 : Same H H2 := fun c y e => by rw [← eH, upd_ne (ne_of_none e nx), upd_ne (ne_of_none e ndx)]; exact e
  obtain ⟨ts, e2, Oc, Or, pm, sv, o2, h⟩ := deref_ok st o h
  have ex : ∀ c ∈ Or, Held H c := o2.held
  have exc : ∀ c ∈ Oc, Held H c := fun c hc => o.held c (pm.mem_iff.mpr (List.mem_append_left _ hc))
  have keep2 : ∀ c, H c ≠ none → H2 c = H c := fun c hc => by
    cases q : H c with
    | none => exact absurd q hc
    | some y => exact s2 c y q
  -- the new instance beside the arguments
  have Fx : F (s.heap.objs.size + 1) = none := b.sub.free nx
  have Fd : F s.heap.objs.size = none := b.sub.free ndx
  have fr0 : Frm Tq H F O H2 F (O ++ [s.heap.objs.size + 1, s.heap.objs.size]) := ⟨Same.refl _, fun c y e _ _ => s2 c y e, fun c e => by rw [keep2 c e]; exact e, fun c e => .inl e, fun c hc => by
    rcases List.mem_append.mp hc with z | z
    · exact .inl z
    · rcases List.mem_cons.mp z with rfl | z
      · exact .inr nx
      · rw [List.mem_singleton.mp z]; exact .inr ndx, tab_same s2⟩
  have b0 : Bas Z F H2 (O ++ [s.heap.objs.size + 1, s.heap.objs.size]) := ⟨b.sub.trans s2, List.nodup_append.mpr ⟨b.nd, List.nodup_cons.mpr ⟨fun z => nex (List.mem_singleton.mp z).symm, List.nodup_cons.mpr ⟨fun z => (nomatch z), List.nodup_nil⟩⟩, fun c hc d hd z => by
      subst z
      have := o.there c hc
      rcases List.mem_cons.mp hd with z | z
      · exact this (z ▸ nx)
      · exact this ((List.mem_singleton.mp z) ▸ ndx)⟩, fun c hc => by
      rcases List.mem_append.mp hc with z | z
      · exact b.dis c z
      · rcases List.mem_cons.mp z with rfl | z
        · exact Fx
        · rw [List.mem_singleton.mp z]; exact Fd, b.abs.trans fr0⟩
  have pm2 : (O ++ [s.heap.objs.size + 1, s.heap.objs.size]).Perm (((s.heap.objs.size + 1) :: s.heap.objs.size :: Oc) ++ Or) := (List.perm_append_comm (l₁ := O)).trans ((pm.cons s.heap.objs.size).cons (s.heap.objs.size + 1))
  have bc := (b0.perm pm2).left.entry
  have sv2 : StV F H2 ((s.heap.objs.size + 1) :: s.heap.objs.size :: Oc) (.ref (s.heap.objs.size + 1) :: vs) (.ins (s.heap.objs.size + 1) C [] :: ts) := by
    have w0 : Ow F H2 [s.heap.objs.size + 1, s.heap.objs.size] (.ref (s.heap.objs.size + 1)) (.ins (s.heap.objs.size + 1) C []) := .ins h2x h2d .nil
    have svs : StV F H2 Oc vs ts := by
      have key : ∀ {Oc : List Addr} {vs : List V} {ts : List T}, StV F H Oc vs ts → (∀ c ∈ Oc, H2 c = H c) → StV F H2 Oc vs ts := fun {Oc vs ts} z => by
        induction z with
        | nil => intro _; exact .nil
        | cons w r ih => intro kk; exact .cons (w.stay (Same.refl _) fun c hc => kk c (List.mem_append_left _ hc)) (ih fun c hc => kk c (List.mem_append_right _ hc))
      exact key sv fun c hc => keep2 c (exc c hc).ne
    exact .cons w0 svs
  have r2 : Vals (V.ref (s.heap.objs.size + 1) :: vs) (Value.ref (s.heap.objs.size + 1) :: us) := .cons rfl r
  have hl : (Value.ref (s.heap.objs.size + 1) :: us ++ []).length = ps.length := by
    rw [List.append_nil, ← r2.length, sv2.len, G.len _ _ _ h]
  have ex2 : ∀ c ∈ Or, Held H2 c := fun c hc => let ⟨y, e, n⟩ := ex c hc; ⟨y, s2 c y e, n⟩
  refine wpAny_call (make_map (f := fI) I.kIn M.makes M.init (beq_iff_eq.mp M.fn) ?_)
  have hb2 := hb _ (Value.ref (s.heap.objs.size + 1) :: us) I2.kIn hl
  rw [List.append_nil] at hb2
  have run := G.run (X.A.under (.builtin "type.__call__" ⟨.ref C :: us, []⟩)) X.stack _ H2 ⟨Value.ref (s.heap.objs.size + 1) :: us, []⟩ (Value.ref (s.heap.objs.size + 1) :: us) (V.ref (s.heap.objs.size + 1) :: vs) F ((s.heap.objs.size + 1) :: s.heap.objs.size :: Oc) (.ins (s.heap.objs.size + 1) C [] :: ts) _ _
    (fun cls d H' => ∃ e ts' F' O', Bas ⟨H2, F, (s.heap.objs.size + 1) :: s.heap.objs.size :: Oc, (b0.perm pm2).left.tabs⟩ F' H' O' ∧ StVO F' H' O' (.ref (s.heap.objs.size + 1) :: vs) ts' ∧ ExAt F' e cls d ∧ (match ts' with | _ :: ts'' => putb as ts'' e2 fun e3 => ET e e3 | [] => False)) (b0.perm pm2).left.tabs (hr.make C us []) (guards_make hg) (I2.env0.make C us []) hb2 r2 bc sv2 h
    fun e ts' cls d H' F' O' b' s' x' q => ⟨e, ts', F', O', b', s', x', q⟩
  refine codeAny_mono (run) fun rs s' hq => ?_
  have back : ∀ {F' H' : Hp} {O1 O2 : List Addr} {ts' : List (Option T)} {kk : Env → Prop}, Bas ⟨H2, F, _ :: s.heap.objs.size :: Oc, (b0.perm pm2).left.tabs⟩ F' H' (O1 ++ O2) → StVO F' H' O1 vs ts' → putb as ts' e2 kk →
      ∃ e3 O3, OwE F' H' O3 σ e3 ∧ Bas Z F' H' (O3 ++ O2) ∧ Frm Tq H F O H' F' (O3 ++ O2) ∧ kk e3 := fun {F' H' O1 O2 ts' kk} b' s' q => by
    have fr := b'.abs
    have b3 := Bas.frame fr (b0.perm pm2) b' ex2
    have keep := fr.rest (R := Or) (pm2.nodup b0.nd) ex2
    obtain ⟨e3, O3, Od, o3, p3, q3⟩ := putb_ok (F := F') (H := H') (st) s' (o2.stay fr.fz fun c hc => (keep c hc).trans (keep2 c (ex c hc).ne)) q
    have p4 : ((O1 ++ O2) ++ Or).Perm ((O3 ++ O2) ++ Od) := by
      have e1 : ((O1 ++ O2) ++ Or).Perm ((O1 ++ Or) ++ O2) := by
        rw [List.append_assoc, List.append_assoc]
        exact List.perm_append_comm.append_left O1
      have e2 : ((O3 ++ O2) ++ Od).Perm ((O3 ++ Od) ++ O2) := by
        rw [List.append_assoc, List.append_assoc]
        exact List.perm_append_comm.append_left O3
      exact e1.trans ((p3.append_right O2).trans e2.symm)
    exact ⟨e3, O3, o3, (b3.perm p4).left, fr0.trans ((fr.frame (R := Or)).perm (fun c => pm2.symm.mem_iff) (fun c hc => p4.mem_iff.mpr (List.mem_append_left _ hc))), q3⟩
  cases rs with
  | error e =>
    refine tk e s' (XE.of_call I2 (fun cls d H' hE => ?_) hq)
    obtain ⟨y, ts', F', O', b', sv', xa, q⟩ := hE
    cases sv' with
    | un sv' =>
      obtain ⟨e3, O3, o3, b3, fr3, q3⟩ := back (O2 := []) (by rw [List.append_nil]; exact b') sv' q
      rw [List.append_nil] at b3 fr3
      exact ⟨F', O3, e3, y, b3, o3, xa, q3⟩
    | cons w sv' =>
      rename_i Ou O1' u ts''
      obtain ⟨e3, O3, o3, b3, fr3, q3⟩ := back (O1 := O1') (O2 := Ou) (b'.perm List.perm_append_comm) sv' q
      exact ⟨F', O3, e3, y, b3.left, o3, xa, q3⟩
  | ok fl =>
    cases fl with
    | ret u =>
      obtain ⟨v, H', I3, rv, F', O1, O2, t, ts', b', sv', w', rfl, q⟩ := I2.after hq
      cases w' with
      | va rr =>
        cases rr
        refine ⟨rv, ?_⟩
        cases sv' with
        | un sv' => exact q.elim
        | cons w sv' =>
          rename_i Ou O1' u ts''
          obtain ⟨hu, q⟩ := q
          have pmx : ((Ou ++ O1') ++ []).Perm (O1' ++ Ou) := by rw [List.append_nil]; exact List.perm_append_comm
          obtain ⟨e3, O3, o3, b3, fr3, q3⟩ := back (O1 := O1') (O2 := Ou) (b'.perm pmx) sv' q
          exact ⟨V.ref (s.heap.objs.size + 1), H', I3, rfl, F', O3 ++ Ou, .t u, e3, b3, ⟨O3, Ou, rfl, o3, w⟩, fr3, q3⟩
    | next => exact hq.elim
    | brk => exact hq.elim
    | cont => exact hq.elim
theorem w_makeX {ET : Ex → Env → Prop} (G : Ck X.prog X.w X.K X.mg X.base Tq k x C ps sp) (hr : Room (k + 1) X.A) (hgd : X.A.guards = some []) (tk : Takes X (wxOf Z ET)) (h : WAs Z X (e :: es) env fun as e1 => callN sp C as e1 (fun t e => P (.t t) e) ET)
    (hg : Gl X x := by rfl) (hdb : (x == ("__debug__" : Str)) = false := by decide) (he : starEach (e :: es) X.env = (false, eval e X.env) :: starEach es X.env := by rfl) (hpl : (backTo pos (starEach es X.env)).any (·.1) = false := by rfl) :
    WE Z X (.Call (.Name x p) (e :: es) [] pos) env P := fun pins s σ H F O I b o => by
  obtain ⟨fI, fd, g, M, hm, hb⟩ := G.ex
  refine wpAny_Call_Name_kw (ld_glob I hg hm ?_ hdb)
  refine PySem.W.callWith_K (h₀ := X.base) I.ok.mod.kin M.kp (thn ((pa_As (Z := Z)).run pos pins s σ H (PostAs Z σ H F O _) I ⟨env, F, O, _, b, o, h, fun _ _ q => q⟩) fun us s1 ⟨vs, H1, I1, r, F1, O1, as, e1, b1, o1, st, fr, q⟩ => ⟨I1.kIn, ?_⟩) he hpl
  exact thn (make_g M g hr hgd tk hb I1 b1 o1 st r q) (EP.imp fun v H' q => q.from fr)
theorem w_makeX0 {ET : Ex → Env → Prop} (G : Ck X.prog X.w X.K X.mg X.base Tq k x C ps sp) (hr : Room (k + 1) X.A) (hgd : X.A.guards = some []) (tk : Takes X (wxOf Z ET)) (h : callN sp C [] env (fun t e => P (.t t) e) ET)
    (hg : Gl X x := by rfl) (hdb : (x == ("__debug__" : Str)) = false := by decide) : WE Z X (.Call (.Name x p) [] [] pos) env P := fun pins s σ H F O I b o => by
  obtain ⟨fI, fd, g, M, hm, hb⟩ := G.ex
  refine wpAny_Call_Name_kw (ld_glob I hg hm ?_ hdb)
  exact PySem.W.callWith_K0 I.kIn M.kp (make_g (us := []) M g hr hgd tk hb I b o .nil .nil h)
theorem w_make (G : Ck X.prog X.w X.K X.mg X.base Tq k x C ps sp) (hr : Room (k + 1) X.A) (hgd : X.A.guards = some []) (h : WAs Z X (e :: es) env fun as e1 => callN sp C as e1 (fun t e => P (.t t) e) fun _ _ => False)
    (hg : Gl X x := by rfl) (hdb : (x == ("__debug__" : Str)) = false := by decide) (he : starEach (e :: es) X.env = (false, eval e X.env) :: starEach es X.env := by rfl) (hpl : (backTo pos (starEach es X.env)).any (·.1) = false := by rfl) :
    WE Z X (.Call (.Name x p) (e :: es) [] pos) env P := w_makeX G hr hgd takes_no h hg hdb he hpl
theorem w_make0 (G : Ck X.prog X.w X.K X.mg X.base Tq k x C ps sp) (hr : Room (k + 1) X.A) (hgd : X.A.guards = some []) (h : callN sp C [] env (fun t e => P (.t t) e) fun _ _ => False)
    (hg : Gl X x := by rfl) (hdb : (x == ("__debug__" : Str)) = false := by decide) : WE Z X (.Call (.Name x p) [] [] pos) env P := w_makeX0 G hr hgd takes_no h hg hdb
end
end QL

/-! QN: min, max, sorted over data; tuple(reversed(list)). -/
namespace QL
open PySem PySem.Spec PyProof.Rows L2
section
variable {Tq : List (Addr × Str)} {Z : Zb Tq} {X : Cx} {e a b c o : Expr} {es : List Expr} {env : Env} {pos pos2 p p2 : Pos} {P : R → Env → Prop}
/-- what the items of a list are known to be, as the kit's data words take it -/
theorem RpA.readsA {pins : List (Addr × Obj)} {σ : L2.St} {F H : Hp} {s : Shared} (I : Inv X pins σ H s) (sF : Same F H) : ∀ {vs : List V} {us : List Value} {ds : List D}, RpA F vs ds → Vals vs us → PyData.hasDictAll ds = false → ∃ as, ReadsAll s.heap us ds as
  | _, _, _, .nil, .nil, _ => ⟨_, .nil⟩
  | _, _, _, .cons h r, .cons g q, nd => by
    have nd2 := Bool.or_eq_false_iff.mp (show (PyData.hasDict _ || PyData.hasDictAll _) = false from nd)
    obtain ⟨as, k1⟩ := (h.mono sF).reads I g nd2.1
    obtain ⟨bs, k2⟩ := r.readsA I sF q nd2.2
    exact ⟨_, .cons k1 k2⟩
def bestG (f : D → List D → D) (ds : List D) (k : T → Prop) : Prop := ∃ x xs d, (ds = [.list (x :: xs)] ∨ ds = [.tuple (x :: xs)]) ∧ PyData.hasDictAll (x :: xs) = false ∧ W.AlikeAll (x :: xs) ∧ PyData.depthAll (x :: xs) ≤ 60 ∧ f x xs = d ∧ k (.va d)
theorem best_fin {pins : List (Addr × Obj)} {σ : L2.St} {F H : Hp} {s : Shared} {vs : List V} {us : List Value} {ds : List D} {d : D} {k : T → Prop} (I : Inv X pins σ H s) (sF : Same F H) (r : RpA F vs ds) (q : Vals vs us) (nd : PyData.hasDictAll ds = false) (h : k (.va d)) {i : Nat} {v : Value} {h' : Heap} {tk : Nat} {bs : List Addr}
    (hi : us[i]? = some v) (rd : Reads h' v d bs) (kk : ∀ b o, s.heap.get? b = some o → h'.get? b = some o) : EP X pins σ (NewV F H k) v { s with heap := h', toks := tk } := by
  have gv : ∃ x, vs[i]? = some x ∧ L2.RelV x v := by
    cases hx : vs[i]? with
    | none => rw [List.getElem?_eq_none_iff, q.length, ← List.getElem?_eq_none_iff] at hx; rw [hx] at hi; cases hi
    | some x => obtain ⟨u, g, rr⟩ := q.get hx; rw [g] at hi; cases hi; exact ⟨x, rfl, rr⟩
  obtain ⟨x, hx, rx⟩ := gv
  obtain ⟨d', hd, rp⟩ := r.get hx
  have nd' : d'.hasDict = false := by
    have key : ∀ {ds : List D} {i : Nat}, PyData.hasDictAll ds = false → ds[i]? = some d' → d'.hasDict = false := fun {ds} => by
      induction ds with
      | nil => intro i _ z; cases z
      | cons y ys ih =>
        intro i z e
        have z2 := Bool.or_eq_false_iff.mp (show (PyData.hasDict y || PyData.hasDictAll ys) = false from z)
        cases i with
        | zero => cases e; exact z2.1
        | succ i => exact ih z2.2 e
    exact key nd hd
  obtain ⟨as, k1⟩ := (rp.mono sF).reads I rx nd'
  have k2 := PyProof.Rows.Reads.keeps kk k1
  obtain ⟨rfl, _⟩ := Reads.unique k2 _ _ rd
  exact ⟨x, H, I.kept kk, rx, NewV.val sF rp h⟩
theorem dc_minL (hc : X.calm = true) (hu : X.A.units + 110 < cLine) : DCall X (.builtin "min") (bestG W.minD) := fun pins s σ H F vs us ds k I sF ws rv ⟨x, xs, d0, e, nd, al, dp, ed, h⟩ => by
  subst ed
  rcases e with rfl | rfl
  · obtain ⟨v, rfl, w⟩ := ws.one
    obtain ⟨u, rfl, ru⟩ := rv.one
    obtain ⟨p, ys, rfl, h1, r1⟩ := w.lst' sF
    obtain rfl : u = Value.ref p := ru
    obtain ⟨its, rv2, p2, hz⟩ := I.list (SqL.of h1)
    obtain ⟨as, rd⟩ := r1.readsA I sF rv2 nd
    exact W.min_list_data (I.ok.hd hc) p2.isList (by simpa using rd) al (by omega) fun i v h' tk bs hi hr kk => best_fin I sF r1 rv2 nd h (by simpa using hi) hr kk
  · obtain ⟨v, rfl, w⟩ := ws.one
    obtain ⟨u, rfl, ru⟩ := rv.one
    obtain ⟨p, ys, rfl, h1, r1⟩ := w.tup
    obtain rfl : u = Value.ref p := ru
    obtain ⟨its, rv2, p2, hz⟩ := I.tuple (SqT.of (sF _ _ h1))
    obtain ⟨as, rd⟩ := r1.readsA I sF rv2 nd
    exact W.min_tuple_data (I.ok.hd hc) (show s.heap.IsTuple p its.toArray from p2) (by simpa using rd) al (by omega) fun i v h' tk bs hi hr kk => best_fin I sF r1 rv2 nd h (by simpa using hi) hr kk
theorem dc_maxL (hc : X.calm = true) (hu : X.A.units + 110 < cLine) : DCall X (.builtin "max") (bestG W.maxD) := fun pins s σ H F vs us ds k I sF ws rv ⟨x, xs, d0, e, nd, al, dp, ed, h⟩ => by
  subst ed
  rcases e with rfl | rfl
  · obtain ⟨v, rfl, w⟩ := ws.one
    obtain ⟨u, rfl, ru⟩ := rv.one
    obtain ⟨p, ys, rfl, h1, r1⟩ := w.lst' sF
    obtain rfl : u = Value.ref p := ru
    obtain ⟨its, rv2, p2, hz⟩ := I.list (SqL.of h1)
    obtain ⟨as, rd⟩ := r1.readsA I sF rv2 nd
    exact W.max_list_data (I.ok.hd hc) p2.isList (by simpa using rd) al (by omega) fun i v h' tk bs hi hr kk => best_fin I sF r1 rv2 nd h (by simpa using hi) hr kk
  · obtain ⟨v, rfl, w⟩ := ws.one
    obtain ⟨u, rfl, ru⟩ := rv.one
    obtain ⟨p, ys, rfl, h1, r1⟩ := w.tup
    obtain rfl : u = Value.ref p := ru
    obtain ⟨its, rv2, p2, hz⟩ := I.tuple (SqT.of (sF _ _ h1))
    obtain ⟨as, rd⟩ := r1.readsA I sF rv2 nd
    exact W.max_tuple_data (I.ok.hd hc) (show s.heap.IsTuple p its.toArray from p2) (by simpa using rd) al (by omega) fun i v h' tk bs hi hr kk => best_fin I sF r1 rv2 nd h (by simpa using hi) hr kk
/-- one thing alone is sorted -/
theorem sorts_one {prog : Program} {w : World} {A : Around} {s : Shared} {v : Value} {d : D} {as : List Addr} (r : Reads s.heap v d as) (al : W.alike d d = true) (hn : d ≠ .none) (hu : A.units + d.depth < cLine) : W.SortsAt prog w A s (W.dataKind s.heap [d]) [v] := by
  have al1 : W.AllAlike [d] := fun x hx y hy => by rw [List.mem_singleton.mp hx, List.mem_singleton.mp hy]; exact al
  refine ⟨fun x hx => ?_, general', ?_, fun h2 => absurd h2 (by simp)⟩
  · rw [List.mem_singleton.mp hx]
    exact ⟨_, W.dataKind_some al1 (List.mem_singleton.mpr rfl) r⟩
  · intro E x y a b Q ha hb hq
    obtain ⟨d1, as1, hd, ra, rfl⟩ := W.dataKind_inv ha
    obtain ⟨d2, as2, hd', rb, rfl⟩ := W.dataKind_inv hb
    have e1 := List.mem_singleton.mp hd
    have e2 := List.mem_singleton.mp hd'
    subst e1 e2
    show wpAny _ _ (oneLt' false x y) _ _ _
    exact W.oneLt_alike (fun z => (nomatch z)) ra rb al hn (by omega) hq
theorem sorted_data1 {prog : Program} {w : World} {A : Around} {E : Value → Shared → Prop} {s : Shared} {β : Type} {vs : List Value} {bs : List β} {enc : β → PyData} {R : Value → β → Prop} {l : Addr} {Q : Value → Shared → Prop} (hl : s.heap.IsList l vs.toArray) (e : W.EachIs R vs bs) (er : W.EachIs (fun v b => ∃ as, Reads s.heap v (enc b) as) vs bs) (hal : W.AllAlike (bs.map enc)) (hk : W.Sortable (bs.map enc) ∨ ∃ b, bs = [b] ∧ enc b ≠ .none) (hL : bs.length ≤ sizeLine)
    (hu : ∀ b, b ∈ bs → A.units + 2 + (enc b).depth < cLine) (h : ∀ out, out.length = bs.length → W.EachIs R out (bs.mergeSort (W.dataLe false enc)) → Q (.ref (s.heap.objs.size + 1)) { s with heap := sortedAll s.heap vs (List.toArray out) }) :
    wpAny (model prog w) A (call (.builtin "sorted") [.ref l]) Q E s := by
  rcases hk with hk | ⟨b, rfl, hn⟩
  · exact W.sorted_data hl e er hal hk hL hu h
  · have er' : W.EachIs (fun v b => ∃ as, Reads (W.sortingHeap (W.copyHeap s.heap vs) (s.heap.objs.size + 1) vs) v (enc b) as) vs [b] := er.mono fun _ _ ⟨as, r⟩ => ⟨as, PyProof.Rows.Reads.keeps (fun _ _ => W.sorting_copy_old) r⟩
    cases er' with
    | cons r rn =>
      cases rn
      obtain ⟨as, r⟩ := r
      have S := sorts_one (prog := prog) (w := w) (A := A.in1.in1) (s := { s with heap := W.sortingHeap (W.copyHeap s.heap [_]) (s.heap.objs.size + 1) [_] }) r (hal _ (List.mem_singleton.mpr rfl) _ (List.mem_singleton.mpr rfl)) hn (hu b (List.mem_singleton.mpr rfl))
      exact W.sorted_vals hl S (by rw [e.length]; exact hL) (h _ (by rw [W.sortVals_length false rfl]; exact e.length) (W.sortVals_data (enc := enc) (bs := [b]) false e (.cons ⟨as, r⟩ .nil) hal))
/-- sorted(list of alike data) -/
def sortedG (ds : List D) (k : T → Prop) : Prop := ∃ xs ys, ds = [.list xs] ∧ PyData.hasDictAll xs = false ∧ W.AllAlike xs ∧ (W.Sortable xs ∨ ∃ d, xs = [d] ∧ d ≠ .none) ∧ (∀ d ∈ xs, d.depth ≤ 60) ∧ xs.mergeSort (W.dataLe false id) = ys ∧ ∀ p, k (.lst p ys)
theorem dc_sorted (hu : X.A.units + 110 < cLine) : DCall X (.builtin "sorted") sortedG := fun pins s σ H F vs us ds k I sF ws rv ⟨xs, ysd, e, nd, al, so, dp, ed, h⟩ => by
  subst e ed
  obtain ⟨v, rfl, w⟩ := ws.one
  obtain ⟨u, rfl, ru⟩ := rv.one
  obtain ⟨p, ys, rfl, h1, r1⟩ := w.lst' sF
  obtain rfl : u = Value.ref p := ru
  obtain ⟨its, rv2, p2, hz⟩ := I.list (SqL.of h1)
  have each : ∀ {vs : List V} {us : List Value} {ds : List D}, RpA F vs ds → Vals vs us → PyData.hasDictAll ds = false → W.EachIs (fun u d => ∃ v, L2.RelV v u ∧ Rp F v d) us ds ∧ W.EachIs (fun u d => ∃ as, Reads s.heap u (id d) as) us ds := fun {vs us ds} r q nd => by
    induction us generalizing vs ds with
    | nil => cases q; cases r; exact ⟨.nil, .nil⟩
    | cons u us ih =>
      cases q with
      | cons g q =>
        cases r with
        | cons h r =>
          have nd2 := Bool.or_eq_false_iff.mp (show (PyData.hasDict _ || PyData.hasDictAll _) = false from nd)
          obtain ⟨i1, i2⟩ := ih r q nd2.2
          exact ⟨.cons ⟨_, g, h⟩ i1, .cons ((h.mono sF).reads I g nd2.1) i2⟩
  obtain ⟨e1, e2⟩ := each r1 rv2 nd
  refine sorted_data1 p2.isList e1 e2 (by rw [List.map_id]; exact al) (so.imp (fun z => by rw [List.map_id]; exact z) fun z => z) (by rw [← r1.len]; exact hz) (fun d hd => by have := dp d hd; show _ + 2 + d.depth < _; omega) fun out hl eo => ?_
  obtain ⟨ep, he'⟩ := PyProof.Rows.sortedAll_at s.heap its out.toArray
  have back : ∀ {us : List Value} {ds : List D}, W.EachIs (fun u d => ∃ v, L2.RelV v u ∧ Rp F v d) us ds → ∃ vs, Vals vs us ∧ RpA F vs ds := fun {us ds} r => by
    induction r with
    | nil => exact ⟨[], .nil, .nil⟩
    | cons h r ih =>
      obtain ⟨v, g, q⟩ := h
      obtain ⟨vs, i1, i2⟩ := ih
      exact ⟨v :: vs, .cons g i1, .cons q i2⟩
  obtain ⟨vs', k1, k2⟩ := back eo
  have np : H (s.heap.objs.size + 1) = none := I.hok.fresh (Nat.le_succ _)
  refine ⟨.ref (s.heap.objs.size + 1), upd H (s.heap.objs.size + 1) (.lst vs'), I.laid (t' := s.toks) (fun _ _ => PyProof.Rows.sortedAll_old) (Nat.le_succ _) ⟨?_, out, ep, k1, he'⟩, rfl, NewV.lst sF k2 np (h _)⟩
  rw [k1.length, hl, ← r1.len]
  exact hz
/-- tuple(reversed(list)) -/
theorem w_tupRev (hc : X.calm = true) (hm : X.mg "tuple" = none) (hm2 : X.mg "reversed" = none) (h : WA Z X e env fun a1 e1 => View a1 e1 fun d => ∃ xs, d = .list xs ∧ P (.t (.va (.tuple xs.reverse))) e1) (hg : Gl X "tuple" := by rfl) (hg2 : Gl X "reversed" := by rfl)
    (hs : starEach [e] X.env = (false, eval e X.env) :: starEach [] X.env := by rfl)
    (hs2 : starEach [.Call (.Name "reversed" p2) [e] [] pos2] X.env = (false, eval (.Call (.Name "reversed" p2) [e] [] pos2) X.env) :: starEach [] X.env := by rfl) : WE Z X (.Call (.Name "tuple" p) [.Call (.Name "reversed" p2) [e] [] pos2] [] pos) env P :=
  we_of (RT.pe_tupRev hc hg hm hg2 hm2 (pe_A (Z := Z)) hs hs2) fun σ H F O b o => ⟨env, F, O, _, b, o, h, fun v H1 ⟨F1, O1, a1, e1, b1, o1, st, fr, q⟩ => by
    obtain ⟨d, w, xs, rfl, q⟩ := View.vw q o1 st
    obtain ⟨p, vs, rfl, h1, r1⟩ := w.lst' b1.sub
    exact ⟨p, vs, rfl, SqL.of h1, fun p' hp' => ((NewV.tup b1.sub r1.rev hp' (k := fun t => t = .va (.tuple xs.reverse)) rfl).post b1 o1 (fun t e => by subst e; exact q)).from fr⟩⟩
end
end QL

/-! QO: displays with stars, x += e, comprehensions without a state. -/
namespace QL
open PySem PySem.Spec PyProof.Rows L2 StX
inductive Sg
  | a (x : A)
  | s (xs : List D)
def flatS : List Sg → List A
  | [] => []
  | .a x :: r => x :: flatS r
  | .s xs :: r => xs.map A.va ++ flatS r
def absorbS : List Sg → Env → (List D → Env → Prop) → Prop
  | [], env, k => k [] env
  | .a (.va d) :: as, env, k => absorbS as env fun ds env' => k (d :: ds) env'
  | .a (.bor a i p) :: as, env, k => match getP i p env with
    | some t => t.addr = some a ∧ match frzT t with
      | some d => absorbS as (setP i p (.va d) env) fun ds env' => k (d :: ds) env'
      | none => False
    | none => False
  | .s xs :: as, env, k => absorbS as env fun ds env' => k (xs ++ ds) env'
theorem absorb_vas : ∀ (xs : List D) {as : List A} {env : Env} {k : List D → Env → Prop}, absorb as env (fun ds e => k (xs ++ ds) e) → absorb (xs.map A.va ++ as) env k
  | [], _, _, _, h => h
  | x :: xs, _, _, k, h => by
    show absorb _ _ fun ds env' => k (x :: ds) env'
    exact absorb_vas xs (k := fun ds e => k (x :: ds) e) h
theorem absorbS_flat : ∀ {as : List Sg} {env : Env} {k : List D → Env → Prop}, absorbS as env k → absorb (flatS as) env k
  | [], _, _, h => h
  | .a (.va d) :: as, _, k, h => absorbS_flat (as := as) h
  | .a (.bor a i p) :: as, env, k, h => by
    show absorb (.bor a i p :: flatS as) env k
    unfold absorbS at h
    unfold absorb
    cases hg : getP i p env with
    | none => rw [hg] at h; exact h.elim
    | some t =>
      rw [hg] at h
      refine ⟨h.1, ?_⟩
      have h := h.2
      cases hf : frzT t with
      | none => simp only [hf] at h
      | some d => simp only [hf] at h ⊢; exact absorbS_flat h
  | .s xs :: as, env, k, h => absorb_vas xs (absorbS_flat (as := as) h)
def starD (ds : List D) (k : List D → Prop) : Prop := match ds with
  | [.tuple xs] => k xs
  | [.list xs] => k xs
  | _ => False
def starOf : Expr → Option Expr
  | .Starred e _ => some e
  | _ => none
def WAx {Tq : List (Addr × Str)} (Z : Zb Tq) (X : Cx) : List Expr → Env → (List Sg → Env → Prop) → Prop
  | [], env, P => P [] env
  | e :: es, env, P => match starOf e with
    | some e' => (starEach (e :: es) X.env = (true, eval e' X.env) :: starEach es X.env) ∧ WA Z X e' env fun a e1 => absorb [a] e1 fun ds e2 => starD ds fun xs => WAx Z X es e2 fun as e3 => P (.s xs :: as) e3
    | none => (starEach (e :: es) X.env = (false, eval e X.env) :: starEach es X.env) ∧ WA Z X e env fun a e1 => WAx Z X es e1 fun as e2 => P (.a a :: as) e2
def PostX {Tq : List (Addr × Str)} (Z : Zb Tq) (σ : L2.St) (H0 F0 : Hp) (O0 : List Addr) (P : List Sg → Env → Prop) : List V → Hp → Prop := fun vs H => ∃ F O as env, Bas Z F H O ∧ OwE F H O σ env ∧ StAs F vs (flatS as) ∧ Frm Tq H0 F0 O0 H F O ∧ P as env
def tAx {Tq : List (Addr × Str)} (Z : Zb Tq) (X : Cx) (es : List Expr) : TA := fun σ H Q => ∃ env F O P, Bas Z F H O ∧ OwE F H O σ env ∧ WAx Z X es env P ∧ ∀ v H', PostX Z σ H F O P v H' → Q v H'
theorem RpA.stas {F : Hp} : ∀ {vs : List V} {ds : List D}, RpA F vs ds → StAs F vs (ds.map A.va)
  | _, _, .nil => .nil
  | _, _, .cons h r => .cons h r.stas
theorem StAs.app {F : Hp} {vs us : List V} {as bs : List A} (h : StAs F vs as) (g : StAs F us bs) : StAs F (vs ++ us) (as ++ bs) := by
  induction h with
  | nil => exact g
  | cons a _ ih => exact .cons a ih
theorem pa_Ax {Tq : List (Addr × Str)} {Z : Zb Tq} {X : Cx} : ∀ {es : List Expr}, PA X es (tAx Z X es)
  | [] => ⟨fun pos pins s σ H Q I ⟨env, F, O, P, b, o, w, q⟩ => pa_nil.run pos pins s σ H Q I (q [] H ⟨F, O, [], env, b, o, .nil, Frm.refl _ _ _, w⟩)⟩
  | e :: es => ⟨fun pos pins s σ H Q I ⟨env, F, O, P, b, o, w, q⟩ => by
    unfold WAx at w
    cases hs : starOf e with
    | none =>
      simp only [hs] at w
      have hp := pa_cons (X := X) (pe_A (Z := Z) (e := e)) (pa_Ax (Z := Z) (es := es)) w.1
      refine hp.run pos pins s σ H Q I ⟨env, F, O, _, b, o, w.2, ?_⟩
      rintro v1 H1 ⟨F1, O1, a1, env1, b1, o1, st1, fr1, w1⟩
      refine ⟨env1, F1, O1, _, b1, o1, w1, ?_⟩
      rintro vs H2 ⟨F2, O2, as, env2, b2, o2, st2, fr2, w2⟩
      exact q _ _ ⟨F2, O2, .a a1 :: as, env2, b2, o2, .cons (st1.mono fr2.fz) st2, fr1.trans fr2, w2⟩
    | some e' =>
      simp only [hs] at w
      obtain ⟨p, rfl⟩ : ∃ p, e = .Starred e' p := by
        cases e with
        | Starred x p => cases hs; exact ⟨p, rfl⟩
        | _ => cases hs
      have hp := pa_star (X := X) (pe_A (Z := Z) (e := e')) (pa_Ax (Z := Z) (es := es)) w.1
      refine hp.run pos pins s σ H Q I ⟨env, F, O, _, b, o, w.2, ?_⟩
      rintro v1 H1 ⟨F1, O1, a1, env1, b1, o1, st1, fr1, w1⟩
      obtain ⟨F2, O2, ds, e2, b2, o2, r2, fr2, w2⟩ := absorb_ok (.cons st1 .nil) b1 o1 w1
      unfold starD at w2
      split at w2
      · cases r2 with
        | cons r3 rn =>
          cases rn
          cases r3 with
          | tup h3 r3 =>
            refine ⟨_, _, rfl, .inl (SqT.of (b2.sub _ _ h3)), e2, F2, O2, _, b2, o2, w2, ?_⟩
            rintro vs H3 ⟨F3, O3, as, env3, b3, o3, st3, fr3, w3⟩
            exact q _ _ ⟨F3, O3, .s _ :: as, env3, b3, o3, (r3.mono fr3.fz).stas.app st3, (fr1.trans fr2).trans fr3, w3⟩
      · cases r2 with
        | cons r3 rn =>
          cases rn
          cases r3 with
          | lst h3 r3 =>
            refine ⟨_, _, rfl, .inr (SqL.of (b2.sub _ _ h3)), e2, F2, O2, _, b2, o2, w2, ?_⟩
            rintro vs H3 ⟨F3, O3, as, env3, b3, o3, st3, fr3, w3⟩
            exact q _ _ ⟨F3, O3, .s _ :: as, env3, b3, o3, (r3.mono fr3.fz).stas.app st3, (fr1.trans fr2).trans fr3, w3⟩
      · exact w2.elim⟩
section
variable {Tq : List (Addr × Str)} {Z : Zb Tq} {X : Cx} {e a b c o tg iter elt : Expr} {es : List Expr} {env : Env} {pos : Pos} {P : R → Env → Prop}
/-- a tuple with stars -/
theorem w_tupX {x1 : _} (h : WAx Z X es env fun as env1 => absorbS as env1 fun ds env2 => ds.length ≤ sizeLine ∧ P (.t (.va (.tuple ds))) env2) : WE Z X (.Tuple es x1 pos) env P :=
  we_of (pe_tup (pa_Ax (Z := Z))) fun σ H F O b o => ⟨env, F, O, _, b, o, h, fun vs H1 ⟨F1, O1, as, env1, b1, o1, st1, fr1, h1⟩ => by
    obtain ⟨F2, O2, ds, env2, b2, o2, r2, fr2, z, q⟩ := absorb_ok st1 b1 o1 (absorbS_flat h1)
    refine ⟨by rw [r2.len]; exact z, fun p hp => ?_⟩
    exact ((NewV.tup b2.sub r2 hp (k := fun t => t = .va (.tuple ds)) rfl).post b2 o2 (fun t e => by subst e; exact q)).from (fr1.trans fr2)⟩
theorem w_lstX (h : WAx Z X es env fun as env1 => absorbS as env1 fun ds env2 => ds.length ≤ sizeLine ∧ ∀ p, P (.t (.lst p ds)) env2) : WE Z X (.List es pos) env P :=
  we_of (pe_lst (pa_Ax (Z := Z))) fun σ H F O b o => ⟨env, F, O, _, b, o, h, fun vs H1 ⟨F1, O1, as, env1, b1, o1, st1, fr1, h1⟩ => by
    obtain ⟨F2, O2, ds, env2, b2, o2, r2, fr2, z, q⟩ := absorb_ok st1 b1 o1 (absorbS_flat h1)
    refine ⟨by rw [r2.len]; exact z, fun p hp => ?_⟩
    exact ((NewV.lst b2.sub r2 hp (k := fun t => t = .lst p ds) rfl).post b2 o2 (fun t e => by subst e; exact q p)).from (fr1.trans fr2)⟩
/-! ### x += e -/
def addI (d1 d2 : D) (k : T → Prop) : Prop := match d1, d2 with
  | .int i, .int j => k (.va (.int (i + j)))
  | _, _ => False
theorem dip_add : DOp X (inplaceOp .Add) addI := by
  intro pins s σ H F v1 v2 u1 u2 d1 d2 k I sF w1 w2 r1 r2 hg
  cases d1 with
  | int i =>
    cases d2 with
    | int j =>
      cases w1.int
      cases w2.int
      exact in_add pins s σ H _ _ u1 u2 _ I r1 r2 ⟨i, j, rfl, rfl, NewV.val sF (.int _) hg⟩
    | _ => exact hg.elim
  | _ => exact hg.elim
theorem dip_sub : DOp X (inplaceOp .Sub) subD := by
  intro pins s σ H F v1 v2 u1 u2 d1 d2 k I sF w1 w2 r1 r2 hg
  cases d1 with
  | int i =>
    cases d2 with
    | int j =>
      cases w1.int
      cases w2.int
      exact in_sub pins s σ H _ _ u1 u2 _ I r1 r2 ⟨i, j, rfl, rfl, NewV.val sF (.int _) hg⟩
    | _ => exact hg.elim
  | _ => exact hg.elim
/-! ### comprehensions that leave the frame as it is -/
theorem wipeE_wipeE (e : Env) (vs : List Nat) : wipeE (wipeE e vs) vs = wipeE e vs := by
  apply List.ext_getElem?
  intro i
  have hl : ∀ (e : Env) (ws : List Nat), (wipeE e ws).length = e.length := fun e ws => by
    induction ws with
    | nil => rfl
    | cons w ws ih => unfold wipeE; rw [List.length_set, ih]
  rw [wipeE_get, wipeE_get, hl]
  by_cases h : i ∈ vs
  · rw [if_pos h, if_pos h]
  · rw [if_neg h, if_neg h]
structure FMo (f : TF) : Prop where
  mo : ∀ {d : D} {e : Env} {k k' : Env → Prop}, f d e k → (∀ e', k e' → k' e') → f d e k'
structure FMos (f : TFs) : Prop where
  mo : ∀ {d : List D} {e : Env} {k k' : Env → Prop}, f d e k → (∀ e', k e' → k' e') → f d e k'
theorem fm_name {i : Nat} : FMo (fName i) := ⟨fun h hk => ⟨h.1, hk _ h.2⟩⟩
theorem fm_nil : FMos fNil := ⟨fun h hk => ⟨h.1, hk _ h.2⟩⟩
theorem fm_cons {f : TF} {fs : TFs} (h1 : FMo f) (h2 : FMos fs) : FMos (fCons f fs) := ⟨fun {d e k k'} h hk => by
  cases d with
  | nil => exact h.elim
  | cons d r => exact h1.mo h fun e' w => h2.mo w hk⟩
theorem fm_tup {n : Nat} {fs : TFs} (h1 : FMos fs) : FMo (fTup n fs) := ⟨fun {d e k k'} h hk => by
  unfold fTup at h ⊢
  split at h
  · exact ⟨h.1, h1.mo h.2 hk⟩
  · exact h.elim⟩
theorem fm_tup2 {i j : Nat} : FMo (fTup 2 (fCons (fName i) (fCons (fName j) fNil))) := fm_tup (fm_cons fm_name (fm_cons fm_name fm_nil))
/-- [elt for x in ds]: ds are xs seen by enc, elt of x is g x; env0: the frame behind it -/
theorem lc_map {scope : Scope} {f : TF} (fm : FMo f) {vs : List Nat} {ds : List D} {e1 : Env} {α : Type} (enc : α → D) (xs : List α) (g : α → D) (env0 : Env) (h0 : wipeE e1 vs = env0) (hd : ds = xs.map enc) (hl : xs.length < sizeLine)
    (step : ∀ (k : Nat) x, xs[k]? = some x → f (enc x) env0 fun e' => Blk X scope fun X' => WA Z X' elt e' fun a e3 => absorb [a] e3 fun ds e4 => ds = [g x] ∧ wipeE e4 vs = env0)
    (fin : ∀ p, P (.t (.lst p (xs.map g))) env0) : LcI Z X scope f elt vs (fun e k => k true e) P ds e1 := by
  subst hd
  refine ⟨fun k acc e => e = env0 ∧ acc = (xs.take k).map g, ⟨h0, rfl⟩, ?_, ?_⟩
  · rintro k d acc e hk ⟨rfl, rfl⟩
    rw [List.getElem?_map, Option.map_eq_some_iff] at hk
    obtain ⟨x, hx, rfl⟩ := hk
    have q := step k x hx
    have up : ∀ {e' : Env}, (Blk X scope fun X' => WA Z X' elt e' fun a e3 => absorb [a] e3 fun ds e4 => ds = [g x] ∧ wipeE e4 vs = e) → ((true = true → ElI Z X scope elt vs (fun acc e0 => e0 = e ∧ acc = (xs.take (k + 1)).map g) ((xs.take k).map g) e') ∧ (true = false → (fun acc e0 => e0 = e ∧ acc = (xs.take (k + 1)).map g) ((xs.take k).map g) (wipeE e' vs))) := fun {e'} w => by
      refine ⟨fun _ s H C cl fp => ?_, fun z => nomatch z⟩
      refine WE.imp (w s H C cl fp) fun r e3 hr => ?_
      have ab : ∀ {a : A} {e3 : Env}, absorb [a] e3 (fun ds e4 => ds = [g x] ∧ wipeE e4 vs = e) → absorb [a] e3 fun ds e4 => match ds with | [y] => ((xs.take k).map g).length < sizeLine ∧ (fun acc e0 => e0 = e ∧ acc = (xs.take (k + 1)).map g) ((xs.take k).map g ++ [y]) (wipeE e4 vs) | _ => False := fun {a e3} h => by
        have fin : ∀ {y : D} {e4 : Env}, [y] = [g x] ∧ wipeE e4 vs = e → ((xs.take k).map g).length < sizeLine ∧ (wipeE e4 vs = e ∧ (xs.take k).map g ++ [y] = (xs.take (k + 1)).map g) := fun {y e4} ⟨h1, h2⟩ => by
          cases h1
          refine ⟨?_, h2, ?_⟩
          · rw [List.length_map, List.length_take]; omega
          · rw [List.take_add_one, hx]; simp
        cases a with
        | va d => exact fin h
        | bor a i p =>
          unfold absorb at h ⊢
          split at h
          · refine ⟨h.1, ?_⟩
            have h := h.2
            split at h
            · exact fin h
            · exact h.elim
          · exact h.elim
      cases r with
      | bor a i p => exact ab hr
      | t t =>
        unfold toA at hr ⊢
        simp only at hr ⊢
        split at hr
        · rename_i d hf
          exact ab (a := .va d) hr
        · exact hr.elim
    exact fm.mo q fun e' w => up w
  · rintro acc e ⟨rfl, rfl⟩ p
    rw [List.length_map, List.take_length]
    exact fin p
end
end QL

/-! QW: data whose text is short; data that may be compared. -/
namespace QL
open PySem PySem.Spec PyProof.Rows L2
mutual
def nodes : D → Nat
  | .list xs => 1 + nodesA xs
  | .tuple xs => 1 + nodesA xs
  | _ => 1
def nodesA : List D → Nat
  | [] => 0
  | x :: xs => nodes x + nodesA xs
end
mutual
/-- no text, no dict; ints below 2 ** 200 -/
def smallD : D → Bool
  | .list xs => smallA xs
  | .tuple xs => smallA xs
  | .int i => decide (i.natAbs < 2 ^ 200)
  | .none => true
  | .bool _ => true
  | _ => false
def smallA : List D → Bool
  | [] => true
  | x :: xs => smallD x && smallA xs
end
theorem small_int {i : Int} (h : i.natAbs < 2 ^ 200) : (PyData.shown (.int i)).length ≤ 256 ∧ (PyData.int i).weight ≤ 200 ∧ i.natAbs.log2 < 1920 := by
  have l : i.natAbs.log2 < 200 := by
    by_cases z : i.natAbs = 0
    · rw [z]; decide
    · exact (Nat.log2_lt z).mpr h
  refine ⟨?_, ?_, by omega⟩
  · show (PySem.Str.ofString (toString i)).length ≤ 256
    have big : (2 : Nat) ^ 200 < 10 ^ 61 := by decide
    by_cases z : i < 0
    · rw [len_text_neg z]
      have := PyProof.Rows.toString_length_le (v := 0 - i) (by omega) (k := 61) (by decide) (by omega)
      omega
    · have := PyProof.Rows.toString_length_le (v := i) (by omega) (k := 61) (by decide) (by omega)
      omega
  · show (if i == 0 then 0 else i.natAbs.log2 + 1) ≤ 200
    split <;> omega
mutual
theorem show_sm : ∀ d : D, smallD d = true → d.leavesShort 256 = true ∧ d.weight + 1 ≤ 203 * nodes d ∧ d.showable = true ∧ d.hasDict = false ∧ d.canLay0 = true
  | .none, _ => ⟨rfl, (by decide : 0 + 1 ≤ 203 * 1), rfl, rfl, rfl⟩
  | .bool _, _ => ⟨rfl, (by decide : 0 + 1 ≤ 203 * 1), rfl, rfl, rfl⟩
  | .int i, h => by
    obtain ⟨h1, h2, h3⟩ := small_int (of_decide_eq_true (by simpa only [smallD] using h))
    exact ⟨by simp only [PyData.leavesShort, decide_eq_true_eq]; exact h1, (by simp only [nodes]; omega), by simp only [PyData.showable, decide_eq_true_eq]; exact h3, rfl, rfl⟩
  | .str _, h => by simp [smallD] at h
  | .dict _, h => by simp [smallD] at h
  | .list xs, h => by
    obtain ⟨h1, h2, h3, h4, h5⟩ := show_smA xs (by simpa only [smallD] using h)
    exact ⟨by simpa only [PyData.leavesShort] using h1, by simp only [PyData.weight, nodes]; omega, by simpa only [PyData.showable] using h3, by simpa only [PyData.hasDict] using h4, by simpa only [PyData.canLay0] using h5⟩
  | .tuple xs, h => by
    obtain ⟨h1, h2, h3, h4, h5⟩ := show_smA xs (by simpa only [smallD] using h)
    exact ⟨by simpa only [PyData.leavesShort] using h1, by simp only [PyData.weight, nodes]; omega, by simpa only [PyData.showable] using h3, by simpa only [PyData.hasDict] using h4, by simpa only [PyData.canLay0] using h5⟩
theorem show_smA : ∀ ds : List D, smallA ds = true → PyData.leavesShortAll 256 ds = true ∧ PyData.weightAll ds ≤ 203 * nodesA ds ∧ PyData.showableAll ds = true ∧ PyData.hasDictAll ds = false ∧ PyData.canLayAll0 ds = true
  | [], _ => ⟨rfl, Nat.zero_le _, rfl, rfl, rfl⟩
  | d :: ds, h => by
    simp only [smallA, Bool.and_eq_true] at h
    obtain ⟨h1, h2, h3, h4, h5⟩ := show_sm d h.1
    obtain ⟨g1, g2, g3, g4, g5⟩ := show_smA ds h.2
    have np : 1 ≤ nodes d := by cases d <;> simp only [nodes] <;> omega
    exact ⟨by simp only [PyData.leavesShortAll, h1, g1, Bool.and_self], by simp only [PyData.weightAll, nodesA]; omega, by simp only [PyData.showableAll, h3, g3, Bool.and_self], by simp only [PyData.hasDictAll, h4, g4, Bool.or_self], by simp only [PyData.canLayAll0, h5, g5, Bool.and_self]⟩
end
theorem show0 {d : D} (h : smallD d = true) (hn : nodes d ≤ 300) (hd : d.depth ≤ 60) : showOk0 d := by
  obtain ⟨h1, h2, h3, h4, _⟩ := show_sm d h
  refine ⟨h4, h3, by omega, ?_⟩
  have := PyData.shown_le 256 (by decide) d h1
  show d.shown.length ≤ 16777216
  omega
theorem shaped_sm {d : D} (h : smallD d = true) (hd : d.depth ≤ 60) : SeqAt.shaped d = true := by
  unfold SeqAt.shaped
  rw [(show_sm d h).2.2.2.2, Bool.true_and]
  exact decide_eq_true (by omega)
theorem smallA_map {α : Type} {f : α → D} : ∀ {xs : List α}, (∀ x ∈ xs, smallD (f x) = true) → smallA (xs.map f) = true
  | [], _ => rfl
  | x :: xs, h => by simp only [List.map_cons, smallA, h x List.mem_cons_self, smallA_map (fun y hy => h y (List.mem_cons_of_mem _ hy)), Bool.and_self]
theorem nodesA_map {α : Type} {f : α → D} {k : Nat} : ∀ {xs : List α}, (∀ x ∈ xs, nodes (f x) ≤ k) → nodesA (xs.map f) ≤ k * xs.length
  | [], _ => Nat.zero_le _
  | x :: xs, h => by
    have h1 := h x List.mem_cons_self
    have h2 := nodesA_map (xs := xs) fun y hy => h y (List.mem_cons_of_mem _ hy)
    simp only [List.map_cons, nodesA, List.length_cons, Nat.mul_add, Nat.mul_one]
    omega
theorem depthAll_map {α : Type} {f : α → D} {k : Nat} : ∀ {xs : List α}, (∀ x ∈ xs, (f x).depth ≤ k) → PyData.depthAll (xs.map f) ≤ k
  | [], _ => Nat.zero_le _
  | x :: xs, h => by
    have h1 := h x List.mem_cons_self
    have h2 := depthAll_map (xs := xs) fun y hy => h y (List.mem_cons_of_mem _ hy)
    simp only [List.map_cons, PyData.depthAll]
    omega
theorem iDs_small {ns : List Int} (h : ∀ x ∈ ns, x.natAbs < 2 ^ 200) : smallA (iDs ns) = true := smallA_map fun x hx => by simp only [smallD, decide_eq_true_eq]; exact h x hx
theorem iDs_nodes (ns : List Int) : nodesA (iDs ns) ≤ ns.length := by
  have h : nodesA (iDs ns) ≤ 1 * ns.length := nodesA_map fun x _ => by simp only [nodes]; omega
  omega
theorem iDs_depth (ns : List Int) : PyData.depthAll (iDs ns) = 0 := Nat.le_zero.mp (depthAll_map fun x _ => Nat.le_refl 0)
end QL

/-! LM: mathematics of layouts: sums, lines, layouts, least costs, the table. -/
namespace LM
open PySem
def sumsF (a : Int) : List Int → List Int
  | [] => [a]
  | w :: r => a :: sumsF (a + w + 1) r
theorem sumsF_len : ∀ (a : Int) (ws : List Int), (sumsF a ws).length = ws.length + 1
  | _, [] => rfl
  | a, w :: r => congrArg (· + 1) (sumsF_len (a + w + 1) r)
theorem sumsF_snoc : ∀ (a : Int) (ws : List Int) (w : Int), ∃ z, (sumsF a ws).getLast? = some z ∧ sumsF a (ws ++ [w]) = sumsF a ws ++ [z + w + 1]
  | a, [], w => ⟨a, rfl, rfl⟩
  | a, x :: r, w => by
    obtain ⟨z, h1, h2⟩ := sumsF_snoc (a + x + 1) r w
    refine ⟨z, ?_, ?_⟩
    · show (a :: sumsF (a + x + 1) r).getLast? = some z
      rw [List.getLast?_cons, h1]
      rfl
    · show a :: sumsF (a + x + 1) (r ++ [w]) = _
      rw [h2]
      rfl
theorem sumsF_get : ∀ (ws : List Int) (a : Int) (j : Nat), j ≤ ws.length → (sumsF a ws).getD j 0 = a + (ws.take j).sum + j
  | [], a, j, h => by
    have : j = 0 := Nat.le_zero.mp h
    subst this
    simp [sumsF]
  | w :: r, a, 0, _ => by simp [sumsF]
  | w :: r, a, j + 1, h => by
    have ih := sumsF_get r (a + w + 1) j (Nat.le_of_succ_le_succ h)
    show (sumsF (a + w + 1) r).getD j 0 = _
    rw [ih, List.take_succ_cons, List.sum_cons]
    omega
theorem atI_getD {xs : List Int} {i : Nat} (h : i < xs.length) : L2.atI xs (i : Int) = some (xs.getD i 0) := by
  refine L2.atI_nat ?_
  rw [List.getD_eq_getElem?_getD, List.getElem?_eq_getElem h]
  rfl
/-- words of a width -/
structure Wd (wd : Int) (ws : List Int) : Prop where
  w1 : 1 ≤ wd
  w2 : wd ≤ 1000000000
  len : ws.length ≤ 1000
  wrd : ∀ x ∈ ws, 1 ≤ x ∧ x ≤ wd
def sm (ws : List Int) (j : Nat) : Int := (sumsF 0 ws).getD j 0
/-- the length of a line -/
def ln (ws : List Int) (i j : Nat) : Int := sm ws j - sm ws i - 1
def sq (wd : Int) (ws : List Int) (i j : Nat) : Int := (wd - ln ws i j) ^ 2
theorem sm_at (ws : List Int) {j : Nat} (h : j ≤ ws.length) : L2.atI (sumsF 0 ws) (j : Int) = some (sm ws j) := atI_getD (by rw [sumsF_len]; omega)
theorem sm_eq (ws : List Int) {j : Nat} (h : j ≤ ws.length) : sm ws j = (ws.take j).sum + j := by
  unfold sm; rw [sumsF_get ws 0 j h]; omega
theorem sm_succ (ws : List Int) {j : Nat} (h : j < ws.length) : sm ws (j + 1) = sm ws j + ws[j] + 1 := by
  rw [sm_eq ws (by omega), sm_eq ws (by omega), List.take_add_one, List.getElem?_eq_getElem h, List.sum_append]
  simp
  omega
section
variable {wd : Int} {ws : List Int} (W : Wd wd ws)
include W
theorem sm_step {j : Nat} (h : j < ws.length) : sm ws j + 2 ≤ sm ws (j + 1) ∧ sm ws (j + 1) ≤ sm ws j + wd + 1 := by
  have := W.wrd ws[j] (List.getElem_mem h)
  rw [sm_succ ws h]; omega
theorem sm_mono {i j : Nat} (hij : i ≤ j) (h : j ≤ ws.length) : sm ws i + 2 * ((j : Int) - i) ≤ sm ws j ∧ sm ws j ≤ sm ws i + (wd + 1) * ((j : Int) - i) := by
  induction j with
  | zero =>
    have : i = 0 := by omega
    subst this; simp
  | succ j ih =>
    by_cases e : i = j + 1
    · subst e; simp
    · have h1 := ih (by omega) (by omega)
      have h2 := sm_step W (j := j) (by omega)
      have e2 : (wd + 1) * (((j + 1 : Nat) : Int) - i) = (wd + 1) * ((j : Int) - i) + (wd + 1) := by
        have : (((j + 1 : Nat) : Int) - i) = ((j : Int) - i) + 1 := by omega
        rw [this, Int.mul_add]; omega
      rw [e2]
      omega
theorem sm_bd {j : Nat} (h : j ≤ ws.length) : 0 ≤ sm ws j ∧ sm ws j ≤ 1000000001000 := by
  have h1 := sm_mono W (Nat.zero_le j) h
  have h0 : sm ws 0 = 0 := by rw [sm_eq ws (Nat.zero_le _)]; simp
  have h2 := W.len
  have h3 : (wd + 1) * ((j : Int) - (0 : Nat)) ≤ 1000000001 * 1000 := Int.mul_le_mul (by have := W.w2; omega) (by omega) (by omega) (by decide)
  omega
theorem ln_bd {i j : Nat} (hi : i ≤ ws.length) (hj : j ≤ ws.length) : -1000000001001 ≤ ln ws i j ∧ ln ws i j ≤ 1000000001000 := by
  have h1 := sm_bd W hi
  have h2 := sm_bd W hj
  unfold ln; omega
theorem ln_anti {i i' j : Nat} (h : i ≤ i') (h2 : i' ≤ j) (hj : j ≤ ws.length) : ln ws i' j ≤ ln ws i j := by
  have := (sm_mono W h (by omega)).1
  unfold ln; omega
theorem ln_mono {i j j' : Nat} (h : j ≤ j') (hj : j' ≤ ws.length) : ln ws i j ≤ ln ws i j' := by
  have := (sm_mono W h hj).1
  unfold ln; omega
theorem ln_one {j : Nat} (h : j < ws.length) : ln ws j (j + 1) = ws[j] := by
  unfold ln; rw [sm_succ ws h]; omega
theorem ln_fit1 {j : Nat} (h : j < ws.length) : ln ws j (j + 1) ≤ wd := by
  rw [ln_one W h]; exact (W.wrd ws[j] (List.getElem_mem h)).2
theorem ln_pos {i j : Nat} (h : i < j) (hj : j ≤ ws.length) : 1 ≤ ln ws i j := by
  have := (sm_mono W (Nat.le_of_lt h) hj).1
  unfold ln; omega
theorem sq_bd {i j : Nat} (hi : i ≤ ws.length) (hj : j ≤ ws.length) : 0 ≤ sq wd ws i j ∧ sq wd ws i j ≤ 10000000000000000000000000 := by
  have h1 := ln_bd W hi hj
  have := W.w1; have := W.w2
  unfold sq
  generalize ln ws i j = x at h1
  have h2 : (wd - x).natAbs ≤ 2000000000000 := by omega
  generalize wd - x = y at h2
  have e : y ^ 2 = ((y.natAbs * y.natAbs : Nat) : Int) := by rw [Int.pow_succ, Int.pow_succ, Int.pow_zero, Int.one_mul, Int.natAbs_mul_self]
  rw [e]
  have := Nat.mul_le_mul h2 h2
  omega
end
/-! ### the places at which a line can begin -/
def bgF (wd : Int) (ws : List Int) (e : Nat) : Nat → List Nat
  | 0 => []
  | b + 1 => if ln ws b e ≤ wd then b :: bgF wd ws e b else []
/-- the latest one first -/
def bg (wd : Int) (ws : List Int) (e : Nat) : List Nat := bgF wd ws e e
theorem bgF_mem {wd : Int} {ws : List Int} (W : Wd wd ws) {e : Nat} (he : e ≤ ws.length) : ∀ {m b : Nat}, m ≤ e → (b ∈ bgF wd ws e m ↔ b < m ∧ ln ws b e ≤ wd)
  | 0, b, _ => by simp [bgF]
  | m + 1, b, hm => by
    unfold bgF
    by_cases h : ln ws m e ≤ wd
    · rw [if_pos h, List.mem_cons, bgF_mem W he (by omega : m ≤ e)]
      constructor
      · rintro (rfl | ⟨h1, h2⟩)
        · exact ⟨by omega, h⟩
        · exact ⟨by omega, h2⟩
      · rintro ⟨h1, h2⟩
        by_cases e1 : b = m
        · exact .inl e1
        · exact .inr ⟨by omega, h2⟩
    · rw [if_neg h]
      constructor
      · intro z; cases z
      · rintro ⟨h1, h2⟩
        have := ln_anti W (i := b) (i' := m) (j := e) (by omega) (by omega) he
        omega
theorem bg_mem {wd : Int} {ws : List Int} (W : Wd wd ws) {e b : Nat} (he : e ≤ ws.length) : b ∈ bg wd ws e ↔ b < e ∧ ln ws b e ≤ wd := bgF_mem W he (Nat.le_refl e)
theorem bg_ne {wd : Int} {ws : List Int} (W : Wd wd ws) {e : Nat} (h0 : 0 < e) (he : e ≤ ws.length) : bg wd ws e ≠ [] := by
  obtain ⟨e, rfl⟩ : ∃ e', e = e' + 1 := ⟨e - 1, by omega⟩
  have : e ∈ bg wd ws (e + 1) := (bg_mem W he).mpr ⟨by omega, ln_fit1 W (by omega)⟩
  exact List.ne_nil_of_mem this
theorem bg_len {wd : Int} {ws : List Int} {e : Nat} : (bg wd ws e).length ≤ e := by
  have key : ∀ m, (bgF wd ws e m).length ≤ m := fun m => by
    induction m with
    | zero => exact Nat.le_refl _
    | succ m ih => unfold bgF; split <;> simp <;> omega
  exact key e
/-! ### the least of pairs -/
def minP (a : Int × Int) (xs : List (Int × Int)) : Int × Int := xs.foldl (fun a y => if y.1 < a.1 ∨ (y.1 = a.1 ∧ y.2 < a.2) then y else a) a
def pD (p : Int × Int) : PyData := .tuple [.int p.1, .int p.2]
theorem minD_pairs (xs : List (Int × Int)) : ∀ a, W.minD (pD a) (xs.map pD) = pD (minP a xs) := by
  unfold W.minD minP
  induction xs with
  | nil => intro a; rfl
  | cons x xs ih =>
    intro a
    rw [List.map_cons, List.foldl_cons, List.foldl_cons]
    have e : W.dataLt (pD x) (pD a) = decide (x.1 < a.1 ∨ (x.1 = a.1 ∧ x.2 < a.2)) := W.dataLt_ii _ _ _ _
    rw [e]
    by_cases h : x.1 < a.1 ∨ (x.1 = a.1 ∧ x.2 < a.2)
    · rw [if_pos (decide_eq_true h), if_pos h]; exact ih x
    · rw [if_neg (by simpa using h), if_neg h]; exact ih a
theorem minP_spec (xs : List (Int × Int)) : ∀ a, minP a xs ∈ a :: xs ∧ ∀ y ∈ a :: xs, (minP a xs).1 < y.1 ∨ ((minP a xs).1 = y.1 ∧ (minP a xs).2 ≤ y.2) := by
  induction xs with
  | nil => intro a; exact ⟨List.mem_cons_self, fun y hy => by rw [List.mem_singleton.mp hy]; exact .inr ⟨rfl, Int.le_refl _⟩⟩
  | cons x xs ih =>
    intro a
    have e : minP a (x :: xs) = minP (if x.1 < a.1 ∨ (x.1 = a.1 ∧ x.2 < a.2) then x else a) xs := rfl
    rw [e]
    by_cases h : x.1 < a.1 ∨ (x.1 = a.1 ∧ x.2 < a.2)
    · rw [if_pos h]
      obtain ⟨h1, h2⟩ := ih x
      refine ⟨List.mem_cons_of_mem _ h1, fun y hy => ?_⟩
      rcases List.mem_cons.mp hy with rfl | hy
      · have := h2 x List.mem_cons_self
        omega
      · exact h2 y hy
    · rw [if_neg h]
      obtain ⟨h1, h2⟩ := ih a
      refine ⟨?_, fun y hy => ?_⟩
      · rcases List.mem_cons.mp h1 with e | e
        · rw [e]; exact List.mem_cons_self
        · exact List.mem_cons_of_mem _ (List.mem_cons_of_mem _ e)
      · rcases List.mem_cons.mp hy with rfl | hy
        · exact h2 y List.mem_cons_self
        · rcases List.mem_cons.mp hy with rfl | hy
          · have := h2 a List.mem_cons_self
            omega
          · exact h2 y (List.mem_cons_of_mem _ hy)
def minL : List (Int × Int) → Int × Int
  | [] => (0, 0)
  | a :: xs => minP a xs
/-- the least, of equal ones the latest place: costs f at the places bs -/
def best (f : Nat → Int) (bs : List Nat) : Int × Int := minL (bs.map fun b => (f b, -(b : Int)))
theorem best_spec (f : Nat → Int) {bs : List Nat} (h : bs ≠ []) : ∃ b ∈ bs, best f bs = (f b, -(b : Int)) ∧ ∀ c ∈ bs, f b < f c ∨ (f b = f c ∧ c ≤ b) := by
  cases bs with
  | nil => exact absurd rfl h
  | cons a bs =>
    obtain ⟨h1, h2⟩ := minP_spec (bs.map fun b => (f b, -(b : Int))) (f a, -(a : Int))
    have e : best f (a :: bs) = minP (f a, -(a : Int)) (bs.map fun b => (f b, -(b : Int))) := rfl
    rw [← e] at h1 h2
    have m : best f (a :: bs) ∈ (a :: bs).map fun b => (f b, -(b : Int)) := h1
    obtain ⟨b, hb, eb⟩ := List.mem_map.mp m
    refine ⟨b, hb, eb.symm, fun c hc => ?_⟩
    have := h2 (f c, -(c : Int)) (by have : (f c, -(c : Int)) ∈ (a :: bs).map fun b => (f b, -(b : Int)) := List.mem_map.mpr ⟨c, hc, rfl⟩; exact this)
    rw [← eb] at this
    simp only at this
    omega
/-! ### the table -/
/-- costs and befores of the ends up to n -/
def tab (wd : Int) (ws : List Int) : Nat → List (Int × Nat)
  | 0 => [(0, 0)]
  | n + 1 =>
    let t := tab wd ws n
    let p := best (fun b => (t.getD b (0, 0)).1 + sq wd ws b (n + 1)) (bg wd ws (n + 1))
    t ++ [(p.1, (-p.2).toNat)]
theorem tab_len (wd : Int) (ws : List Int) : ∀ n, (tab wd ws n).length = n + 1
  | 0 => rfl
  | n + 1 => by unfold tab; simp [tab_len wd ws n]
theorem tab_pre (wd : Int) (ws : List Int) {m n : Nat} (h : m ≤ n) : (tab wd ws n).take (m + 1) = tab wd ws m := by
  induction n with
  | zero =>
    have : m = 0 := by omega
    subst this; rfl
  | succ n ih =>
    by_cases e : m = n + 1
    · subst e
      rw [List.take_of_length_le]; rw [tab_len]; omega
    · show List.take (m + 1) (tab wd ws n ++ _) = _
      rw [List.take_append_of_le_length (by rw [tab_len]; omega)]
      exact ih (by omega)
/-- the least full cost up to an end; where its last line begins -/
def C (wd : Int) (ws : List Int) (e : Nat) : Int := ((tab wd ws e).getD e (0, 0)).1
def B (wd : Int) (ws : List Int) (e : Nat) : Nat := ((tab wd ws e).getD e (0, 0)).2
theorem tab_get {wd : Int} {ws : List Int} {m n : Nat} (h : m ≤ n) : (tab wd ws n).getD m (0, 0) = (C wd ws m, B wd ws m) := by
  have e := tab_pre wd ws h
  have : (tab wd ws n).getD m (0, 0) = (tab wd ws m).getD m (0, 0) := by
    rw [← e, List.getD_eq_getElem?_getD, List.getD_eq_getElem?_getD, List.getElem?_take]
    simp
  rw [this]
  rfl
theorem tab_eq (wd : Int) (ws : List Int) (n : Nat) : tab wd ws n = (List.range (n + 1)).map fun e => (C wd ws e, B wd ws e) := by
  apply List.ext_getElem?
  intro i
  by_cases h : i < n + 1
  · have := tab_get (wd := wd) (ws := ws) (m := i) (n := n) (by omega)
    rw [List.getD_eq_getElem?_getD] at this
    rw [List.getElem?_map, List.getElem?_range h]
    have l : i < (tab wd ws n).length := by rw [tab_len]; exact h
    rw [List.getElem?_eq_getElem l] at this ⊢
    simp at this
    simp [this]
  · rw [List.getElem?_eq_none (by rw [tab_len]; omega), List.getElem?_eq_none (by simp; omega)]
theorem C0 (wd : Int) (ws : List Int) : C wd ws 0 = 0 := rfl
theorem B0 (wd : Int) (ws : List Int) : B wd ws 0 = 0 := rfl
theorem CB_succ (wd : Int) (ws : List Int) (n : Nat) : best (fun b => C wd ws b + sq wd ws b (n + 1)) (bg wd ws (n + 1)) = best (fun b => ((tab wd ws n).getD b (0, 0)).1 + sq wd ws b (n + 1)) (bg wd ws (n + 1)) := by
  unfold best
  congr 1
  apply List.map_congr_left
  intro b hb
  have : b ≤ n := by
    have key : ∀ m, m ≤ n + 1 → b ∈ bgF wd ws (n + 1) m → b < m := fun m => by
      induction m with
      | zero => intro _ z; cases z
      | succ m ih =>
        intro hm z
        unfold bgF at z
        split at z
        · rcases List.mem_cons.mp z with rfl | z
          · omega
          · have := ih (by omega) z; omega
        · cases z
    have := key (n + 1) (Nat.le_refl _) hb
    omega
  show (C wd ws b + sq wd ws b (n + 1), -(b : Int)) = (((tab wd ws n).getD b (0, 0)).1 + sq wd ws b (n + 1), -(b : Int))
  rw [tab_get this]
theorem CB_at {wd : Int} {ws : List Int} (W : Wd wd ws) {e : Nat} (h0 : 0 < e) (he : e ≤ ws.length) : B wd ws e < e ∧ ln ws (B wd ws e) e ≤ wd ∧ C wd ws e = C wd ws (B wd ws e) + sq wd ws (B wd ws e) e ∧
    best (fun b => C wd ws b + sq wd ws b e) (bg wd ws e) = (C wd ws e, -(B wd ws e : Int)) ∧ ∀ b, b < e → ln ws b e ≤ wd → C wd ws e < C wd ws b + sq wd ws b e ∨ (C wd ws e = C wd ws b + sq wd ws b e ∧ b ≤ B wd ws e) := by
  obtain ⟨n, rfl⟩ : ∃ n, e = n + 1 := ⟨e - 1, by omega⟩
  obtain ⟨b, hb, eb, hm⟩ := best_spec (fun b => C wd ws b + sq wd ws b (n + 1)) (bg_ne W h0 he)
  have eg : (tab wd ws (n + 1)).getD (n + 1) (0, 0) = ((C wd ws b + sq wd ws b (n + 1)), b) := by
    show (tab wd ws n ++ [((best (fun b => ((tab wd ws n).getD b (0, 0)).1 + sq wd ws b (n + 1)) (bg wd ws (n + 1))).1, (-(best (fun b => ((tab wd ws n).getD b (0, 0)).1 + sq wd ws b (n + 1)) (bg wd ws (n + 1))).2).toNat)]).getD (n + 1) (0, 0) = _
    rw [← CB_succ, eb]
    simp only
    rw [List.getD_eq_getElem?_getD, List.getElem?_append_right (by rw [tab_len]; omega), tab_len]
    simp
  have eC : C wd ws (n + 1) = C wd ws b + sq wd ws b (n + 1) := by unfold C; rw [eg]; rfl
  have eB : B wd ws (n + 1) = b := by unfold B; rw [eg]
  have hb2 := (bg_mem W he).mp hb
  rw [eB, eC]
  refine ⟨hb2.1, hb2.2, rfl, eb, fun c hc hl => ?_⟩
  exact hm c ((bg_mem W he).mpr ⟨hc, hl⟩)
theorem C_bd {wd : Int} {ws : List Int} (W : Wd wd ws) : ∀ e, e ≤ ws.length → 0 ≤ C wd ws e ∧ C wd ws e ≤ 10000000000000000000000000 * e := by
  intro e
  induction e using Nat.strongRecOn with
  | _ e ih =>
    intro he
    by_cases h0 : e = 0
    · subst h0; rw [C0]; simp
    · obtain ⟨h1, h2, h3, _, _⟩ := CB_at W (by omega : 0 < e) he
      have i := ih _ h1 (by omega)
      have s := sq_bd W (i := B wd ws e) (j := e) (by omega) he
      rw [h3]
      omega
/-! ### ways -/
def wayN (B : Nat → Nat) : Nat → Nat → List Nat
  | 0, _ => []
  | k + 1, e => if e = 0 then [] else wayN B k (B e) ++ [e]
/-- the ends up to a place -/
def way (wd : Int) (ws : List Int) (e : Nat) : List Nat := wayN (B wd ws) e e
theorem wayN_one {f : Nat → Nat} {n : Nat} (hf : ∀ e, 0 < e → e ≤ n → f e < e) : ∀ k e, e ≤ k → e ≤ n → wayN f (k + 1) e = wayN f k e
  | 0, e, he, _ => by
    have : e = 0 := by omega
    subst this; rfl
  | k + 1, e, he, hn => by
    by_cases h0 : e = 0
    · subst h0; rfl
    · have := hf e (by omega) hn
      show (if e = 0 then [] else wayN f (k + 1) (f e) ++ [e]) = (if e = 0 then [] else wayN f k (f e) ++ [e])
      rw [if_neg h0, if_neg h0, wayN_one hf k (f e) (by omega) (by omega)]
theorem wayN_more {f : Nat → Nat} {n : Nat} (hf : ∀ e, 0 < e → e ≤ n → f e < e) (d e : Nat) (hn : e ≤ n) : wayN f (e + d) e = wayN f e e := by
  induction d with
  | zero => rfl
  | succ d ih =>
    have := wayN_one hf (e + d) e (by omega) hn
    rw [← ih, ← this]
    rfl
theorem way0 (wd : Int) (ws : List Int) : way wd ws 0 = [] := rfl
theorem way_step {wd : Int} {ws : List Int} (W : Wd wd ws) {e : Nat} (h0 : 0 < e) (he : e ≤ ws.length) : way wd ws e = way wd ws (B wd ws e) ++ [e] := by
  obtain ⟨m, rfl⟩ : ∃ m, e = m + 1 := ⟨e - 1, by omega⟩
  have hf : ∀ e, 0 < e → e ≤ ws.length → B wd ws e < e := fun e h1 h2 => (CB_at W h1 h2).1
  have := hf (m + 1) h0 he
  show (if m + 1 = 0 then [] else wayN (B wd ws) m (B wd ws (m + 1)) ++ [m + 1]) = _
  rw [if_neg (by omega)]
  show _ = wayN (B wd ws) (B wd ws (m + 1)) (B wd ws (m + 1)) ++ [m + 1]
  have e1 := wayN_more hf (m - B wd ws (m + 1)) (B wd ws (m + 1)) (by omega)
  have e2 : B wd ws (m + 1) + (m - B wd ws (m + 1)) = m := by omega
  rw [e2] at e1
  rw [e1]
end LM

/-! LN: layouts and which are best. -/
namespace LM
open PySem
def prsN (ns : List Nat) : List (Nat × Nat) := (0 :: ns.dropLast).zip ns
theorem prsN_snoc (ns : List Nat) (h : Nat) : prsN (ns ++ [h]) = prsN ns ++ [(ns.getLastD 0, h)] := by
  unfold prsN
  rw [List.dropLast_concat]
  rcases List.eq_nil_or_concat ns with e | ⟨ms, l, e⟩
  · subst e; rfl
  · rw [List.concat_eq_append] at e
    subst e
    rw [List.dropLast_concat]
    have e1 : (0 :: (ms ++ [l])) = (0 :: ms) ++ [l] := rfl
    rw [e1, List.zip_append (by simp)]
    simp
def sqsN (wd : Int) (ws : List Int) (ns : List Nat) : List Int := (prsN ns).map fun p => sq wd ws p.1 p.2
theorem sqsN_snoc (wd : Int) (ws : List Int) (ns : List Nat) (h : Nat) : sqsN wd ws (ns ++ [h]) = sqsN wd ws ns ++ [sq wd ws (ns.getLastD 0) h] := by
  unfold sqsN; rw [prsN_snoc, List.map_append]; rfl
def fc (wd : Int) (ws : List Int) (ns : List Nat) : Int := (sqsN wd ws ns).sum
def cost (wd : Int) (ws : List Int) (ns : List Nat) : Int := (sqsN wd ws ns).dropLast.sum
theorem fc_nil (wd : Int) (ws : List Int) : fc wd ws [] = 0 := rfl
theorem fc_snoc (wd : Int) (ws : List Int) (ns : List Nat) (h : Nat) : fc wd ws (ns ++ [h]) = fc wd ws ns + sq wd ws (ns.getLastD 0) h := by
  unfold fc; rw [sqsN_snoc, List.sum_append]; simp
theorem cost_snoc (wd : Int) (ws : List Int) (ns : List Nat) (h : Nat) : cost wd ws (ns ++ [h]) = fc wd ws ns := by
  unfold cost fc; rw [sqsN_snoc, List.dropLast_concat]
theorem cost_nil (wd : Int) (ws : List Int) : cost wd ws [] = 0 := rfl
/-- the layouts of the first words; their ends -/
inductive Lay (wd : Int) (ws : List Int) : List Nat → Nat → Prop
  | nil : Lay wd ws [] 0
  | snoc {ns : List Nat} {l h : Nat} : Lay wd ws ns l → l < h → ln ws l h ≤ wd → Lay wd ws (ns ++ [h]) h
theorem Lay.last {wd : Int} {ws : List Int} {ns : List Nat} {l : Nat} (c : Lay wd ws ns l) : ns.getLastD 0 = l := by
  cases c with
  | nil => rfl
  | snoc _ _ _ => simp
theorem Lay.inv {wd : Int} {ws : List Int} {ns : List Nat} {h e : Nat} (c : Lay wd ws (ns ++ [h]) e) : e = h ∧ ∃ l, Lay wd ws ns l ∧ l < h ∧ ln ws l h ≤ wd := by
  generalize hm : ns ++ [h] = ms at c
  cases c with
  | nil => simp at hm
  | snoc c1 h1 h2 =>
    obtain ⟨e1, e2⟩ := List.append_inj' hm rfl
    cases e2
    subst e1
    exact ⟨rfl, _, c1, h1, h2⟩
theorem Lay.ne {wd : Int} {ws : List Int} {ns : List Nat} {e : Nat} (c : Lay wd ws ns e) (h : 0 < e) : ∃ ms l, ns = ms ++ [e] ∧ Lay wd ws ms l ∧ l < e ∧ ln ws l e ≤ wd := by
  cases c with
  | nil => exact absurd h (Nat.lt_irrefl 0)
  | snoc c1 h1 h2 => exact ⟨_, _, rfl, c1, h1, h2⟩
theorem Lay.zero {wd : Int} {ws : List Int} {ns : List Nat} (c : Lay wd ws ns 0) : ns = [] := by
  cases c with
  | nil => rfl
  | snoc c1 h1 h2 => exact absurd h1 (Nat.not_lt_zero _)
theorem Lay.len {wd : Int} {ws : List Int} {ns : List Nat} {l : Nat} (c : Lay wd ws ns l) : ns.length ≤ l := by
  induction c with
  | nil => exact Nat.le_refl _
  | snoc _ h _ ih => rw [List.length_append, List.length_singleton]; omega
theorem Lay.mem {wd : Int} {ws : List Int} {ns : List Nat} {l : Nat} (c : Lay wd ws ns l) : ∀ x ∈ ns, 1 ≤ x ∧ x ≤ l := by
  induction c with
  | nil => intro x hx; cases hx
  | snoc _ h _ ih =>
    intro x hx
    rcases List.mem_append.mp hx with z | z
    · have := ih x z; omega
    · rw [List.mem_singleton.mp z]; omega
theorem Lay.prs {wd : Int} {ws : List Int} {ns : List Nat} {l : Nat} (c : Lay wd ws ns l) : ∀ p ∈ prsN ns, p.1 < p.2 ∧ p.2 ≤ l ∧ ln ws p.1 p.2 ≤ wd := by
  induction c with
  | nil => intro p hp; cases hp
  | @snoc ns l h c hl hf ih =>
    intro p hp
    rw [prsN_snoc] at hp
    rcases List.mem_append.mp hp with z | z
    · have := ih p z; omega
    · rw [List.mem_singleton.mp z, c.last]; exact ⟨hl, Nat.le_refl _, hf⟩
/-- later: the reversed ends as a tuple -/
def rv (ns : List Nat) : List Int := ns.reverse.map fun (n : Nat) => (n : Int)
theorem rv_snoc (ns : List Nat) (h : Nat) : rv (ns ++ [h]) = (h : Int) :: rv ns := by unfold rv; simp
theorem rv_inj {ns ms : List Nat} (h : rv ns = rv ms) : ns = ms := by
  unfold rv at h
  have := List.map_inj_right (f := fun (n : Nat) => (n : Int)) (fun a b e => by exact Int.ofNat.inj e) |>.mp h
  exact List.reverse_inj.mp this
section
variable {wd : Int} {ws : List Int} (W : Wd wd ws)
include W
theorem way_lay : ∀ e, e ≤ ws.length → Lay wd ws (way wd ws e) e ∧ fc wd ws (way wd ws e) = C wd ws e := by
  intro e
  induction e using Nat.strongRecOn with
  | _ e ih =>
    intro he
    by_cases h0 : e = 0
    · subst h0; exact ⟨.nil, rfl⟩
    · obtain ⟨h1, h2, h3, _, _⟩ := CB_at W (by omega : 0 < e) he
      obtain ⟨i1, i2⟩ := ih _ h1 (by omega)
      rw [way_step W (by omega) he]
      exact ⟨.snoc i1 h1 h2, by rw [fc_snoc, i1.last, i2, h3]⟩
theorem opt_full {ns : List Nat} {e : Nat} (c : Lay wd ws ns e) : e ≤ ws.length → C wd ws e ≤ fc wd ws ns ∧ (fc wd ws ns = C wd ws e → rv ns ≤ rv (way wd ws e)) := by
  induction c with
  | nil => intro _; exact ⟨Int.le_refl _, fun _ => List.le_refl _⟩
  | @snoc ns l h c hl hf ih =>
    intro he
    obtain ⟨i1, i2⟩ := ih (by omega)
    obtain ⟨h1, h2, h3, _, h5⟩ := CB_at W (by omega : 0 < h) he
    have q := h5 l hl hf
    rw [fc_snoc, c.last]
    refine ⟨by omega, fun e => ?_⟩
    rw [way_step W (by omega) he, rv_snoc, rv_snoc, List.cons_le_cons_iff]
    refine .inr ⟨rfl, ?_⟩
    have e1 : fc wd ws ns = C wd ws l := by omega
    have q2 : l ≤ B wd ws h := by omega
    by_cases e2 : l = B wd ws h
    · subst e2; exact i2 e1
    · have lb : l < B wd ws h := by omega
      rw [way_step W (e := B wd ws h) (by omega) (by omega), rv_snoc]
      by_cases l0 : l = 0
      · subst l0
        rw [c.zero]
        exact List.nil_le _
      · obtain ⟨ms, l', e3, _⟩ := c.ne (by omega)
        rw [e3, rv_snoc, List.cons_le_cons_iff]
        exact .inl (by omega)
end
/-! ### the best layout -/
def LS (wd : Int) (ws : List Int) : Nat := if ws.length = 0 then 0 else (-(best (C wd ws) (bg wd ws ws.length)).2).toNat
def bestLay (wd : Int) (ws : List Int) : List Nat := if ws.length = 0 then [] else way wd ws (LS wd ws) ++ [ws.length]
section
variable {wd : Int} {ws : List Int} (W : Wd wd ws)
include W
theorem LS_at (h0 : 0 < ws.length) : LS wd ws < ws.length ∧ ln ws (LS wd ws) ws.length ≤ wd ∧ best (C wd ws) (bg wd ws ws.length) = (C wd ws (LS wd ws), -(LS wd ws : Int)) ∧ ∀ b, b < ws.length → ln ws b ws.length ≤ wd → C wd ws (LS wd ws) < C wd ws b ∨ (C wd ws (LS wd ws) = C wd ws b ∧ b ≤ LS wd ws) := by
  obtain ⟨b, hb, eb, hm⟩ := best_spec (C wd ws) (bg_ne W h0 (Nat.le_refl _))
  have e : LS wd ws = b := by unfold LS; rw [if_neg (by omega), eb]; simp
  have hb2 := (bg_mem W (Nat.le_refl _)).mp hb
  rw [e]
  exact ⟨hb2.1, hb2.2, eb, fun c h1 h2 => hm c ((bg_mem W (Nat.le_refl _)).mpr ⟨h1, h2⟩)⟩
theorem LS_le : LS wd ws ≤ ws.length := by
  by_cases h : ws.length = 0
  · unfold LS; rw [if_pos h]; omega
  · have := (LS_at W (by omega)).1; omega
theorem best_lay : Lay wd ws (bestLay wd ws) ws.length ∧ cost wd ws (bestLay wd ws) = C wd ws (LS wd ws) := by
  by_cases h : ws.length = 0
  · unfold bestLay LS
    rw [if_pos h, if_pos h, h]
    exact ⟨.nil, rfl⟩
  · obtain ⟨h1, h2, h3, h4⟩ := LS_at W (by omega)
    obtain ⟨i1, i2⟩ := way_lay W (LS wd ws) (by omega)
    unfold bestLay
    rw [if_neg h]
    exact ⟨.snoc i1 h1 h2, by rw [cost_snoc, i2]⟩
theorem best_opt {ns : List Nat} (c : Lay wd ws ns ws.length) : cost wd ws (bestLay wd ws) ≤ cost wd ws ns ∧ (cost wd ws ns = cost wd ws (bestLay wd ws) → rv ns ≤ rv (bestLay wd ws)) := by
  rw [(best_lay W).2]
  by_cases h : ws.length = 0
  · rw [h] at c
    have e := c.zero
    subst e
    have e2 : LS wd ws = 0 := by unfold LS; rw [if_pos h]
    rw [e2]
    exact ⟨Int.le_refl _, fun _ => List.nil_le _⟩
  · obtain ⟨h1, h2, h3, h4⟩ := LS_at W (by omega)
    obtain ⟨ms, l, rfl, c1, hl, hf⟩ := c.ne (by omega)
    obtain ⟨i1, i2⟩ := opt_full W c1 (by omega)
    have q := h4 l hl hf
    rw [cost_snoc]
    refine ⟨by omega, fun e => ?_⟩
    unfold bestLay
    rw [if_neg h, rv_snoc, rv_snoc, List.cons_le_cons_iff]
    refine .inr ⟨rfl, ?_⟩
    have e1 : fc wd ws ms = C wd ws l := by omega
    by_cases e2 : l = LS wd ws
    · rw [← e2]; exact i2 e1
    · have lb : l < LS wd ws := by omega
      rw [way_step W (e := LS wd ws) (by omega) (by omega), rv_snoc]
      by_cases l0 : l = 0
      · subst l0
        rw [c1.zero]
        exact List.nil_le _
      · obtain ⟨ms', l', e3, _⟩ := c1.ne (by omega)
        rw [e3, rv_snoc, List.cons_le_cons_iff]
        exact .inl (by omega)
end
/-- the only one -/
theorem only_best {wd : Int} {ws : List Int} (W : Wd wd ws) {ns : List Nat} (c : Lay wd ws ns ws.length) (h1 : ∀ ms, Lay wd ws ms ws.length → cost wd ws ns ≤ cost wd ws ms) (h2 : ∀ ms, Lay wd ws ms ws.length → cost wd ws ms = cost wd ws ns → rv ms ≤ rv ns) : ns = bestLay wd ws := by
  have b := best_lay W
  have o := best_opt W c
  have e : cost wd ws ns = cost wd ws (bestLay wd ws) := Int.le_antisymm (h1 _ b.1) o.1
  exact rv_inj (List.le_antisymm (o.2 e) (h2 _ b.1 e.symm))
theorem only_full {wd : Int} {ws : List Int} (W : Wd wd ws) {ns : List Nat} (c : Lay wd ws ns ws.length) (h1 : ∀ ms, Lay wd ws ms ws.length → fc wd ws ns ≤ fc wd ws ms) (h2 : ∀ ms, Lay wd ws ms ws.length → fc wd ws ms = fc wd ws ns → rv ms ≤ rv ns) : ns = way wd ws ws.length := by
  have b := way_lay W ws.length (Nat.le_refl _)
  have o := opt_full W c (Nat.le_refl _)
  have e : fc wd ws ns = fc wd ws (way wd ws ws.length) := Int.le_antisymm (h1 _ b.1) (by rw [b.2]; exact o.1)
  exact rv_inj (List.le_antisymm (o.2 (by rw [e, b.2])) (h2 _ b.1 e.symm))
abbrev nDs (ns : List Nat) : List PyData := ns.map fun (n : Nat) => PyData.int (n : Int)
end LM

namespace K10
open PySem PySem.Spec PyProof.Rows L2 QL
def topS (i : Nat) : Stmt := PySem.Challenge.pw_settledlines_k10_many_best_layouts_count.main.body.getD i (.Pass ⟨0, 0, 0, 0⟩)
open LM
/-- what is known of the class -/
structure Txt_Table (K : PySem.W.Frag) (a : Addr) : Prop where
  cl : Cls K a
  n_wide : NoAttr K a "wide"
  n_sums : NoAttr K a "sums"
  n_costs : NoAttr K a "costs"
  n_befores : NoAttr K a "befores"
def spSums : Spc := fun ts QT _ => ∃ ws : List Int, ts = [.va (.tuple (iDs ws))] ∧ ws.length ≤ 1000 ∧ QT (.va (.tuple (iDs (sumsF 0 ws)))) [none]
def spLenBy : Spc := fun ts QT _ => ∃ (ws : List Int) (i j : Nat), ts = [.va (.tuple (iDs (sumsF 0 ws))), .va (.int i), .va (.int j)] ∧ i ≤ ws.length ∧ j ≤ ws.length ∧ QT (.va (.int (ln ws i j))) [none, none, none]
section
variable {P : Program} {w : World} {K : PySem.W.Frag} {mg : Str → Option Value} {base : Heap} {Tq : List (Addr × Str)}
abbrev N_sums_of : List Str := ["text", "found", "word"]
theorem sc_sums_of : FnScope N_sums_of ["text"] (defScope (topS 2)) := ⟨rfl, rfl, rfl, by decide +kernel, rfl, by decide +kernel, by decide +kernel⟩
theorem g_sums_of {f : Addr} {fd : FuncData} {k : Nat} (Fn : Fun K "sums_of" "sums_of" (topS 2) f fd) (m_tuple : mg "tuple" = none) : FnG P w K mg base Tq (k + 1) f fd ["text"] spSums := by
  refine fn_g Fn sc_sums_of (fun ts Q E h => ?_) fun cdv A outer s H E Z ts QT ET hr hgd hp tk h => ?_
  · obtain ⟨ws, rfl, hl, q⟩ := h; rfl
  · obtain ⟨ws, rfl, hl, q⟩ := h
    -- line 6
    refine wss_cons (ws_set 1 (w_lst ⟨rfl, (w_int ⟨(by first | decide | (simp only [List.length_append, List.length_map, List.length_cons, List.length_nil, List.length_singleton, List.length_replicate, List.length_range, List.length_take, List.length_drop, List.length_dropLast, List.length_reverse, Bool.false_eq_true, eq_self, reduceIte, sizeLine_eq]; omega)), fun p1 => ⟨Nat.lt_of_sub_eq_succ rfl, ?_⟩⟩)⟩) sc_sums_of.nd)
    -- line 7
    refine wss_cons (ws_for hp rfl (pg_name (i := 2) sc_sums_of.nd rfl (by first | exact Or.inl rfl | exact Or.inr rfl)) (gok_name 2) (wi_tup (w_var 0 ?_)))
    refine ⟨fun k e => ∃ y, e = [some (.va (.tuple (iDs ws))), some (.lst p1 (iDs (sumsF 0 (ws.take k)))), y], ⟨none, rfl⟩, ?_, ?_⟩
    · rintro k d e hd ⟨y, rfl⟩
      rw [List.getElem?_map, Option.map_eq_some_iff] at hd
      obtain ⟨x, hx, rfl⟩ := hd
      obtain ⟨z, hz, hs⟩ := sumsF_snoc 0 (ws.take k) x
      have hk : k < ws.length := (List.getElem?_eq_some_iff.mp hx).1
      have ht : ws.take (k + 1) = ws.take k ++ [x] := by rw [List.take_add_one, hx]; rfl
      have hla : atI (iDs (sumsF 0 (ws.take k))) (-1) = some (.int z) := by
        refine atI_last' ?_
        rw [List.getLast?_map, hz]
        rfl
      have hlen : (sumsF 0 (ws.take k)).length ≤ 1001 := by rw [sumsF_len, List.length_take]; omega
      refine ⟨Nat.lt_of_sub_eq_succ rfl, ?_⟩
      -- line 8
      refine wss_one (ws_expr (w_append (w_var 1 ⟨_, _, _, _, rfl, rfl, (w_bin dop_add (w_bin dop_add (w_ix (w_var 1 (w_neg (w_int ⟨rfl, ⟨rfl, rfl, _, hla, (w_var 2 ⟨rfl, rfl, (w_int ⟨rfl, rfl, ⟨_, _, rfl, rfl, (by simp only [List.length_append, List.length_map, List.length_cons, List.length_nil, List.length_singleton, List.length_replicate, List.length_range, List.length_take, List.length_drop, List.length_dropLast, List.length_reverse, Bool.false_eq_true, eq_self, reduceIte, sizeLine_eq]; omega), ?_⟩⟩)⟩)⟩⟩))))))⟩)))
      refine ⟨some (.va (.int x)), ?_⟩
      rw [ht, hs]
      show [_, some (T.lst p1 (iDs (sumsF 0 (ws.take k)) ++ [PyData.int (z + x + 1)])), _] = _
      rw [← List.map_singleton, ← List.map_append]
    · rintro e ⟨y, rfl⟩
      -- line 9
      refine wss_one (ws_ret (w_callTy dc_tuple m_tuple rfl ⟨rfl, (w_var 1 ⟨rfl, ?_⟩)⟩))
      show QT (.va (.tuple (iDs (sumsF 0 (ws.take (iDs ws).length))))) [none]
      rw [List.length_map, List.take_length]
      exact q
abbrev N_length_by : List Str := ["sums", "begin", "end"]
theorem sc_length_by : FnScope N_length_by ["sums", "begin", "end"] (defScope (topS 3)) := ⟨rfl, rfl, rfl, by decide +kernel, rfl, by decide +kernel, by decide +kernel⟩
theorem g_length_by {f : Addr} {fd : FuncData} {k : Nat} (Fn : Fun K "length_by" "length_by" (topS 3) f fd) : FnG P w K mg base Tq (k + 1) f fd ["sums", "begin", "end"] spLenBy := by
  refine fn_g Fn sc_length_by (fun ts Q E h => ?_) fun cdv A outer s H E Z ts QT ET hr hgd hp tk h => ?_
  · obtain ⟨ws, i, j, rfl, hi, hj, q⟩ := h; rfl
  · obtain ⟨ws, i, j, rfl, hi, hj, q⟩ := h
    -- line 11
    refine wss_one (ws_ret (w_bin dop_sub (w_bin dop_sub (w_ix (w_var 0 (w_var 2 ⟨rfl, rfl, _, (atI_map _ (sm_at ws hj)), (w_ix (w_var 0 (w_var 1 ⟨rfl, rfl, _, (atI_map _ (sm_at ws hi)), ⟨rfl, rfl, (w_int ⟨rfl, rfl, ?_⟩)⟩⟩)))⟩))))))
    exact q
end
/-- a table whose rows up to m stand -/
def csL (wd : Int) (ws : List Int) (m : Nat) : List Int := (List.range (m + 1)).map (C wd ws)
def bsL (wd : Int) (ws : List Int) (m : Nat) : List Nat := (List.range (m + 1)).map (B wd ws)
abbrev tabF (wd : Int) (ws : List Int) (m : Nat) (pc pb : Addr) : List (Str × T) := [("wide", .va (.int wd)), ("sums", .va (.tuple (iDs (sumsF 0 ws)))), ("costs", .lst pc (iDs (csL wd ws m))), ("befores", .lst pb (nDs (bsL wd ws m)))]
def spInit (aC : Addr) : Spc := fun ts QT _ => ∃ (a : Addr) (wd : Int) (ws : List Int), ts = [.ins a aC [], .va (.int wd), .va (.tuple (iDs ws))] ∧ Wd wd ws ∧ ∀ pc pb, QT (.va .none) [some (.ins a aC (tabF wd ws ws.length pc pb)), none, none]
def spBegins (aC : Addr) : Spc := fun ts QT _ => ∃ (a : Addr) (wd : Int) (ws : List Int) (m : Nat) (pc pb : Addr) (e : Nat), ts = [.ins a aC (tabF wd ws m pc pb), .va (.int e)] ∧ Wd wd ws ∧ e ≤ ws.length ∧ ∀ p, QT (.lst p (nDs (bg wd ws e))) [some (.ins a aC (tabF wd ws m pc pb)), none]
def spSquare (aC : Addr) : Spc := fun ts QT _ => ∃ (a : Addr) (wd : Int) (ws : List Int) (m : Nat) (pc pb : Addr) (b e : Nat), ts = [.ins a aC (tabF wd ws m pc pb), .va (.int b), .va (.int e)] ∧ Wd wd ws ∧ b ≤ ws.length ∧ e ≤ ws.length ∧ QT (.va (.int (sq wd ws b e))) [some (.ins a aC (tabF wd ws m pc pb)), none, none]
def spWay (aC : Addr) : Spc := fun ts QT _ => ∃ (a : Addr) (wd : Int) (ws : List Int) (pc pb : Addr) (e : Nat), ts = [.ins a aC (tabF wd ws ws.length pc pb), .va (.int e)] ∧ Wd wd ws ∧ e ≤ ws.length ∧ QT (.va (.tuple (nDs (way wd ws e)))) [some (.ins a aC (tabF wd ws ws.length pc pb)), none]
def spLast (aC : Addr) : Spc := fun ts QT _ => ∃ (a : Addr) (wd : Int) (ws : List Int) (pc pb : Addr), ts = [.ins a aC (tabF wd ws ws.length pc pb)] ∧ Wd wd ws ∧ QT (.va (.int (LS wd ws))) [some (.ins a aC (tabF wd ws ws.length pc pb))]
theorem min_pairs {f : Nat → Int} {bs : List Nat} (h : bs ≠ []) : ∃ x xs, bs.map (fun (b : Nat) => PyData.tuple [.int (f b), .int (-(b : Int))]) = x :: xs ∧ W.minD x xs = pD (best f bs) ∧ PyData.hasDictAll (x :: xs) = false ∧ W.AlikeAll (x :: xs) ∧ PyData.depthAll (x :: xs) ≤ 60 := by
  have e : bs.map (fun (b : Nat) => PyData.tuple [.int (f b), .int (-(b : Int))]) = (bs.map fun b => (f b, -(b : Int))).map pD := by rw [List.map_map]; rfl
  rw [e]
  unfold best
  generalize hp : (bs.map fun b => (f b, -(b : Int))) = ps
  cases ps with
  | nil => simp at hp; exact absurd hp h
  | cons p ps =>
    refine ⟨pD p, ps.map pD, rfl, minD_pairs ps p, ?_, ?_, ?_⟩
    · rw [← List.map_cons (f := pD)]
      generalize p :: ps = qs
      induction qs with
      | nil => rfl
      | cons q qs ih => show (false || PyData.hasDictAll _) = false; rw [ih]; rfl
    · rw [← List.map_cons (f := pD)]
      refine ⟨fun x hx y hy => ?_, fun x hx => ?_⟩
      · obtain ⟨p, _, rfl⟩ := List.mem_map.mp hx
        obtain ⟨q, _, rfl⟩ := List.mem_map.mp hy
        rfl
      · obtain ⟨p, _, rfl⟩ := List.mem_map.mp hx
        exact fun z => nomatch z
    · rw [← List.map_cons (f := pD)]
      refine Nat.le_trans (depthAll_map (k := 1) fun p _ => ?_) (by decide)
      simp [pD, PyData.depth, PyData.depthAll]
theorem csL_at {wd : Int} {ws : List Int} {m j : Nat} (h : j ≤ m) : atI (iDs (csL wd ws m)) (j : Int) = some (.int (C wd ws j)) := by
  refine atI_nat ?_
  unfold csL
  simp [iDs, List.getElem?_range (show j < m + 1 by omega)]
theorem csL_snoc {wd : Int} {ws : List Int} {m : Nat} : iDs (csL wd ws m) ++ [PyData.int (C wd ws (m + 1))] = iDs (csL wd ws (m + 1)) := by
  unfold csL
  rw [List.range_succ (n := m + 1)]; simp [iDs]
theorem bsL_snoc {wd : Int} {ws : List Int} {m : Nat} : nDs (bsL wd ws m) ++ [PyData.int (B wd ws (m + 1))] = nDs (bsL wd ws (m + 1)) := by
  unfold bsL
  rw [List.range_succ (n := m + 1)]; simp [nDs]
theorem csL_len {wd : Int} {ws : List Int} {m : Nat} : (csL wd ws m).length = m + 1 := by simp [csL]
theorem bsL_len {wd : Int} {ws : List Int} {m : Nat} : (bsL wd ws m).length = m + 1 := by simp [bsL]
section
variable {P : Program} {w : World} {K : PySem.W.Frag} {mg : Str → Option Value} {base : Heap} {Tq : List (Addr × Str)}
abbrev N_Table_begins : List Str := ["self", "end", "found", "begin"]
theorem sc_Table_begins : FnScope N_Table_begins ["self", "end"] (defScope (inClass (topS 5) 1)) := ⟨rfl, rfl, rfl, by decide +kernel, rfl, by decide +kernel, by decide +kernel⟩
theorem g_Table_begins {f : Addr} {fd : FuncData} {k : Nat} {aTable : Addr} (Fn : Fun K "begins" "Table.begins" (inClass (topS 5) 1) f fd) (TX : Txt_Table K aTable) (G_length_by : Df P w K mg base Tq k "length_by" ["sums", "begin", "end"] spLenBy) : FnG P w K mg base Tq (k + 1) f fd ["self", "end"] (spBegins aTable) := by
  refine fn_g Fn sc_Table_begins (fun ts Q E h => ?_) fun cdv A outer s H E Z ts QT ET hr hgd hp tk h => ?_
  · obtain ⟨a, wd, ws, m, pc, pb, e, rfl, W, he, q⟩ := h; rfl
  · obtain ⟨a, wd, ws, m, pc, pb, e, rfl, W, he, q⟩ := h
    -- line 26
    refine wss_cons (ws_par 2 3 rfl sc_Table_begins.nd (w_lst ⟨(by first | decide | (simp only [List.length_append, List.length_map, List.length_cons, List.length_nil, List.length_singleton, List.length_replicate, List.length_range, List.length_take, List.length_drop, List.length_dropLast, List.length_reverse, Bool.false_eq_true, eq_self, reduceIte, sizeLine_eq]; omega)), fun p1 => ⟨_, rfl, (w_bin dop_sub (w_var 1 (w_int ⟨rfl, rfl, ⟨_, rfl, Nat.lt_of_sub_eq_succ rfl, Nat.lt_of_sub_eq_succ rfl, ?_⟩⟩)))⟩⟩))
    let Iv : Nat → QL.Env → Prop := fun m1 en => m1 ≤ e ∧ ∃ fs, bg wd ws e = fs ++ bgF wd ws e m1 ∧ en = [some (.ins a aTable (tabF wd ws m pc pb)), some (.va (.int e)), some (.lst p1 (nDs fs)), some (.va (.int ((m1 : Int) - 1)))]
    -- line 27
    refine wss_cons (ws_while Iv e ⟨Nat.le_refl e, [], rfl, rfl⟩ ?step hp)
    case step =>
      rintro m1 en ⟨hm, fs, hb, rfl⟩
      rcases m1 with _ | b
      · refine WW.t (ww_and (wt_cmp dop_ge (w_var 3 (w_int ⟨rfl, rfl, _, rfl, ⟨fun h => ?_, fun h => ?_⟩⟩))))
        · exact absurd h (by decide)
        have hb : bg wd ws e = fs := by rw [hb]; simp [bgF]
        refine ⟨fun z => (nomatch z), fun _ => ?_⟩
        show WSs _ _ _ _ _
        -- line 30
        refine wss_one (ws_ret (w_var 2 ⟨rfl, ?_⟩))
        rw [← hb]; exact ⟨rfl, q p1⟩
      · have eb : (((b + 1 : Nat) : Int) - 1) = (b : Int) := by omega
        rw [eb]
        refine (WW.t (ww_and (wt_cmp dop_ge (w_var 3 (w_int ⟨rfl, rfl, _, rfl, ⟨fun h => (ww_and1 (wt_cmp dop_le (w_fn G_length_by hr hgd ⟨rfl, (w_fld (w_var 0 ⟨rfl, ⟨TX.cl, TX.n_sums⟩, ⟨rfl, (w_var 3 ⟨rfl, (w_var 1 ⟨_, _, _, rfl, (by first | assumption | omega | decide), (by first | assumption | omega | decide), (w_fld (w_var 0 ⟨rfl, ⟨TX.cl, TX.n_wide⟩, ⟨rfl, rfl, _, rfl, ⟨fun h => ?_, fun h => ?_⟩⟩⟩))⟩)⟩)⟩⟩))⟩))), fun h => ?_⟩⟩)))))
        · have hl : ln ws b e ≤ wd := of_decide_eq_true h
          have hf : bgF wd ws e (b + 1) = b :: bgF wd ws e b := by show (if _ then _ else _) = _; rw [if_pos hl]
          have hn : fs.length ≤ 1000 := by have h1 := bg_len (wd := wd) (ws := ws) (e := e); have h2 := W.len; rw [hb] at h1; simp only [List.length_append] at h1; omega
          -- line 28
          refine wss_cons (ws_expr (w_append (w_var 2 ⟨_, _, _, _, rfl, rfl, (w_var 3 ⟨_, _, rfl, rfl, (by simp only [List.length_append, List.length_map, List.length_cons, List.length_nil, List.length_singleton, List.length_replicate, List.length_range, List.length_take, List.length_drop, List.length_dropLast, List.length_reverse, Bool.false_eq_true, eq_self, reduceIte, sizeLine_eq]; omega), ?_⟩)⟩)))
          -- line 29
          refine wss_one (ws_aug 3 dip_sub ⟨_, rfl, (w_int ⟨rfl, Nat.lt_of_sub_eq_succ rfl, ?_⟩)⟩ sc_Table_begins.nd)
          exact ⟨b, by omega, by omega, fs ++ [b], by rw [hb, hf]; simp, by simp only [nDs, List.map_append]; rfl⟩
        · have hl : ¬ ln ws b e ≤ wd := of_decide_eq_false h
          have hf : bgF wd ws e (b + 1) = [] := by show (if _ then _ else _) = _; rw [if_neg hl]
          have hb : bg wd ws e = fs := by rw [hb, hf, List.append_nil]
          show WSs _ _ _ _ _
          -- line 30
          refine wss_one (ws_ret (w_var 2 ⟨rfl, ?_⟩))
          rw [← hb]; exact ⟨rfl, q p1⟩
        · exact absurd (of_decide_eq_false h) (by omega)
abbrev N_Table_square : List Str := ["self", "begin", "end"]
theorem sc_Table_square : FnScope N_Table_square ["self", "begin", "end"] (defScope (inClass (topS 5) 2)) := ⟨rfl, rfl, rfl, by decide +kernel, rfl, by decide +kernel, by decide +kernel⟩
theorem g_Table_square {f : Addr} {fd : FuncData} {k : Nat} {aTable : Addr} (Fn : Fun K "square" "Table.square" (inClass (topS 5) 2) f fd) (TX : Txt_Table K aTable) (G_length_by : Df P w K mg base Tq k "length_by" ["sums", "begin", "end"] spLenBy) : FnG P w K mg base Tq (k + 1) f fd ["self", "begin", "end"] (spSquare aTable) := by
  refine fn_g Fn sc_Table_square (fun ts Q E h => ?_) fun cdv A outer s H E Z ts QT ET hr hgd hp tk h => ?_
  · obtain ⟨a, wd, ws, m, pc, pb, b, e, rfl, W, hb, he, q⟩ := h; rfl
  · obtain ⟨a, wd, ws, m, pc, pb, b, e, rfl, W, hb, he, q⟩ := h
    have hl := ln_bd W hb he
    have w1 := W.w1
    have w2 := W.w2
    -- line 33
    refine wss_one (ws_ret (w_bin dop_pow (w_bin dop_sub (w_fld (w_var 0 ⟨rfl, ⟨TX.cl, TX.n_wide⟩, (w_fn G_length_by hr hgd ⟨rfl, (w_fld (w_var 0 ⟨rfl, ⟨TX.cl, TX.n_sums⟩, ⟨rfl, (w_var 1 ⟨rfl, (w_var 2 ⟨_, _, _, rfl, (by first | assumption | omega | decide), (by first | assumption | omega | decide), ⟨rfl, rfl, (w_int ⟨rfl, rfl, (.inl ⟨by decide, by decide, by omega⟩), ?_⟩)⟩⟩)⟩)⟩⟩))⟩)⟩)))))
    exact ⟨rfl, q⟩
abbrev N_Table_last_start : List Str := ["self", "count", "begin"]
theorem sc_Table_last_start : FnScope N_Table_last_start ["self"] (defScope (inClass (topS 5) 4)) := ⟨rfl, rfl, rfl, by decide +kernel, rfl, by decide +kernel, by decide +kernel⟩
theorem g_Table_last_start {f : Addr} {fd : FuncData} {k : Nat} {aTable : Addr} (Fn : Fun K "last_start" "Table.last_start" (inClass (topS 5) 4) f fd) (TX : Txt_Table K aTable) (M_begins : Mf P w K mg base Tq k aTable "begins" ["self", "end"] (spBegins aTable)) (m_len : mg "len" = none) (m_min : mg "min" = none) : FnG P w K mg base Tq (k + 1) f fd ["self"] (spLast aTable) := by
  refine fn_g Fn sc_Table_last_start (fun ts Q E h => ?_) fun cdv A outer s H E Z ts QT ET hr hgd hp tk h => ?_
  · obtain ⟨a, wd, ws, pc, pb, rfl, W, q⟩ := h; rfl
  · obtain ⟨a, wd, ws, pc, pb, rfl, W, q⟩ := h
    have hu := room110 hr
    have hlen := W.len
    have hcs : (iDs (csL wd ws ws.length)).length = ws.length + 1 := by rw [List.length_map, csL_len]
    -- line 39
    refine wss_cons (ws_set 1 (w_bin dop_sub (w_callB dc_len m_len rfl ⟨rfl, (w_fld (w_var 0 ⟨rfl, ⟨TX.cl, TX.n_costs⟩, ⟨rfl, (w_int ⟨rfl, rfl, ⟨Nat.lt_of_sub_eq_succ rfl, ?_⟩⟩)⟩⟩))⟩)) sc_Table_last_start.nd)
    rw [hcs, show (((ws.length + 1 : Nat) : Int) - 1) = (ws.length : Int) by omega]
    -- line 40
    refine wss_cons (ws_if (wt_cmp (dop_eq (room64 hr)) (w_var 1 (w_int ⟨rfl, rfl, _, rfl, ⟨fun h => ?_, fun h => ?_⟩⟩))))
    · have h0 : ws.length = 0 := by have := of_decide_eq_true h; omega
      -- line 41
      refine wss_one (ws_ret (w_int ?_))
      have e1 : LS wd ws = 0 := by unfold LS; rw [if_pos h0]
      rw [e1] at q
      exact ⟨rfl, q⟩
    · refine wss_nil ?_
      have h0 : 0 < ws.length := by have := of_decide_eq_false h; omega
      obtain ⟨l1, l2, l3, l4⟩ := LS_at W h0
      obtain ⟨x, xs, m1, m2, m3, m4, m5⟩ := min_pairs (f := C wd ws) (bg_ne W h0 (Nat.le_refl _))
      have hbl := bg_len (wd := wd) (ws := ws) (e := ws.length)
      -- line 42
      refine wss_one (ws_ret (w_neg (w_ix (w_callB (dc_minL rfl hu) m_min rfl ⟨rfl, (w_lc (own := [("begin", 2)]) rfl sc_Table_last_start.nd (blkOk_by (N := N_Table_last_start) (sc := defScope (inClass (topS 5) 4)) (by decide +kernel)) (fun _ _ _ _ _ => pg_name (i := 2) sc_Table_last_start.nd rfl (by first | exact Or.inl rfl | exact Or.inr rfl)) (gok_name 2) (by decide) (wi_list (w_meth M_begins hr hgd (w_var 0 ⟨⟨rfl, rfl, rfl⟩, ⟨rfl, (w_var 1 ⟨rfl, ⟨_, _, _, _, _, _, _, rfl, (by first | assumption | omega | decide), (by first | assumption | omega | decide), fun p_1 => ⟨rfl, rfl, (lc_map fm_name (fun (b : Nat) => PyData.int b) (bg wd ws ws.length) (fun (b : Nat) => PyData.tuple [.int (C wd ws b), .int (-(b : Int))]) _ rfl (rfl) (by simp only [sizeLine_eq]; omega) (fun k2 b hx => by have hm := (bg_mem W (Nat.le_refl _)).mp (List.mem_of_getElem? hx); exact ⟨Nat.lt_of_sub_eq_succ rfl, fun s2 H2 C2 cl2 fp2 => (w_tup ⟨rfl, (w_ix (w_fld (w_var 0 ⟨rfl, ⟨TX.cl, TX.n_costs⟩, (w_var 2 ⟨rfl, rfl, _, (csL_at (by omega)), ⟨rfl, (w_neg (w_var 2 ⟨rfl, ⟨(by first | decide | (simp only [List.length_append, List.length_map, List.length_cons, List.length_nil, List.length_singleton, List.length_replicate, List.length_range, List.length_take, List.length_drop, List.length_dropLast, List.length_reverse, Bool.false_eq_true, eq_self, reduceIte, sizeLine_eq]; omega)), ⟨rfl, rfl⟩⟩⟩))⟩⟩)⟩)))⟩)⟩) (fun p1 => ⟨rfl, ⟨_, _, _, (.inl (congrArg (fun z => [PyData.list z]) m1)), m3, m4, m5, (m2.trans (congrArg pD l3)), (w_int ⟨rfl, rfl, _, rfl, ⟨rfl, ?_⟩⟩)⟩⟩))⟩⟩⟩)⟩⟩))))⟩))))
      have e1 : - (-(LS wd ws : Int)) = (LS wd ws : Int) := by omega
      refine ⟨rfl, ?_⟩
      show QT (.va (.int (- (-(LS wd ws : Int))))) _
      rw [e1]
      exact q
end
end K10

/-! QP: t[::-1]; a list of one thing sorted; comprehensions with an if. -/
namespace PySem.HTR
open PySem PySem.Spec PyProof.Rows HT PySem.SeqAt PySem.MeetsSeq PySem.MeetsSeq2 PySem.MeetsSeq3
open PySem.AutoSeq1 (wpAny_loadPart')
section
variable {prog : Program} {w : World} {A : Around} {s : Shared} {E : Value → Shared → Prop}
theorem adjust_rev (n : Nat) : Builtin.Slice.sliceAdjust none none (-1) (n : Int) = ((n : Int) - 1, -1) := by
  unfold Builtin.Slice.sliceAdjust
  simp
theorem places_rev (n : Nat) : Builtin.Slice.slicePlaces ((n : Int) - 1) (-1) (-1) = n := by
  unfold Builtin.Slice.slicePlaces
  simp
  omega
theorem sliceApplied_rev {sl : Addr} {vl vu vs : Value} {n : Nat} {Q : Int × Int × Nat → Shared → Prop} (hs : s.heap.IsSliceOf sl vl vu vs) (pl : IsPart vl none) (pu : IsPart vu none) (ps : IsPart vs (some (-1)))
    (h : Q ((n : Int) - 1, -1, n) s) : wpAny (model prog w) A (Builtin.Slice.sliceApplied (.ref sl) (pure (n : Int))) Q E s := by
  obtain ⟨os, hos, hcs, hds⟩ := id hs
  unfold Builtin.Slice.sliceApplied Builtin.Slice.sliceFields
  refine wpAny_bind (wpAny_bind (wpAny_field hos hds (x := vl) rfl (wpAny_bind (wpAny_field hos hds (x := vu) rfl (wpAny_bind (wpAny_field hos hds (x := vs) rfl (wpAny_pure ?_)))))))
  refine wpAny_bind (slicePart_ ps ?_)
  show wpAny _ _ (if ((-1 : Int) == 0) = true then _ else _) _ _ s
  rw [if_neg (by decide)]
  refine wpAny_bind (slicePart_ pl (wpAny_bind (slicePart_ pu (wpAny_bind (wpAny_pure ?_)))))
  show wpAny _ _ (match Builtin.Slice.sliceAdjust none none (-1) (n : Int) with | (lo, hi) => pure (lo, (-1 : Int), Builtin.Slice.slicePlaces lo hi (-1))) _ _ s
  rw [adjust_rev]
  show wpAny _ _ (pure ((n : Int) - 1, (-1 : Int), Builtin.Slice.slicePlaces ((n : Int) - 1) (-1) (-1))) _ _ s
  rw [places_rev]
  exact wpAny_pure h
theorem pick_rev (xs : Array Value) : ((List.range xs.size).filterMap fun (m : Nat) => xs[(((xs.size : Int) - 1) + (m : Int) * (-1)).toNat]?).toArray = xs.toList.reverse.toArray := by
  have e : (List.range xs.size).filterMap (fun (m : Nat) => xs[(((xs.size : Int) - 1) + (m : Int) * (-1)).toNat]?) = ((List.range xs.size).map fun k => xs.size - 1 - k).filterMap (xs[·]?) := by
    rw [List.filterMap_map]
    congr 1
    funext m
    have : (((xs.size : Int) - 1) + (m : Int) * (-1)).toNat = xs.size - 1 - m := by omega
    rw [this]
    rfl
  rw [e, PySem.W.krv_range, List.filterMap_reverse, PySem.W.krv_all]
theorem getItem_tuple_rev {t sl : Addr} {items : Array Value} {vl vu vs : Value} {Q : Value → Shared → Prop} (ht : IsTup s.heap t items) (hs : s.heap.IsSliceOf sl vl vu vs) (pl : IsPart vl none) (pu : IsPart vu none) (ps : IsPart vs (some (-1)))
    (h : Q (.ref s.heap.objs.size) { s with heap := s.heap.push { cls := .type "tuple", data := .seq items.toList.reverse.toArray } }) (hsz : items.size ≤ sizeLine) : wpAny (model prog w) A (getItem (.ref t) (.ref sl)) Q E s := by
  have htake : sizeOk (.seq items.toList.reverse.toArray) := by
    show items.toList.reverse.toArray.size ≤ sizeLine
    simpa using hsz
  obtain ⟨os, hos, hcs, hds⟩ := id hs
  have hTs : s.TypeIs (.ref sl) "slice" := ⟨os, hos, hcs⟩
  unfold getItem
  try with_reducible refine wpAny_holding ?_
  first | refine wpAny_bind (wpAny_pure ?_) | skip
  refine wpAny_bind (wpAny_sequenceKey ht.typeIs (by decide) ?_)
  refine wpAny_bind (wpAny_callSpecial?_slot (name := Str.ofString "__getitem__") ht.typeIs PyProof.Rows.slot_tuple_getitem
    (wpAny_call_entry PyProof.Rows.slot_tuple_getitem ht.typeIs entry_tuple_getitem ?_ (args_tuple_getitem _ _)))
  show wpAny _ _ (Builtin.Tuple.tupleItemsOf (.ref t) >>= _) _ _ s
  refine wpAny_bind (tupleItemsOf_ ht ?_)
  refine wpAny_bind (wpAny_typeOf hTs ?_)
  rw [if_pos (by decide)]
  refine wpAny_bind (sliceApplied_rev hs pl pu ps ?_)
  have hno : ¬ ((((items.size : Int) - 1) == 0 && (-1 : Int) == 1 && items.size == items.size) = true) := by simp
  show wpAny _ _ (if ((((items.size : Int) - 1) == 0 && (-1 : Int) == 1 && items.size == items.size) = true) then _ else _) _ _ s
  rw [if_neg hno, pick_rev]
  first
    | exact wpAny_bind (m := Builtin.Tuple.tupleExact _) (wpAny_newObj_type (wpAny_pure ⟨_, rfl, wpAny_pure h⟩) htake)
    | exact wpAny_bind (m := Builtin.Tuple.tupleExact _) (wpAny_newObj_type (wpAny_bind (wpAny_pure (wpAny_pure ⟨_, rfl, wpAny_pure h⟩))) htake)
end
end PySem.HTR
namespace QL
open PySem PySem.Spec PyProof.Rows L2
section
variable {Tq : List (Addr × Str)} {Z : Zb Tq} {X : Cx} {e a b c o tg iter elt : Expr} {es : List Expr} {env : Env} {pos p1 p2 p3 : Pos} {P : R → Env → Prop} {k : Nat}
/-- t[::-1], t a tuple or a list -/
def tRevA (K : PySem.W.Frag) (te : TE) : TE := fun σ H Q => te σ H fun x H1 => ∃ a xs, x = .ref a ∧ ((SqL K H1 a xs ∧ ∀ p, H1 p = none → Q (.ref p) (upd H1 p (.lst xs.reverse))) ∨ (SqT K H1 a xs ∧ ∀ p, H1 p = none → Q (.ref p) (upd H1 p (.tup xs.reverse))))
theorem pe_revA {te : TE} (he : PE X e te) : PE X (.Subscript e (.Slice none none (some (.UnaryOp .USub (.Constant (.int 1) k p1) p2)) p3) pos) (tRevA X.K te) := by
  refine ⟨fun pins s σ H Q I h => ?_⟩
  refine Subscript_ (thn (he.run pins s σ H _ I h) fun v s1 ⟨x, H1, I1, r1, q1⟩ => ?_)
  obtain ⟨a, xs, ex, q⟩ := q1
  subst ex
  cases r1
  have hst : L2.PO X (some (.UnaryOp .USub (.Constant (.int 1) k p1) p2)) (tPart (tUn (rU fun i => .int (-i)) (tC (.int 1)))) := po_some (pe_un un_neg pe_int)
  refine wpAny_Slice (thn (po_none.run pins s1 σ H1 (fun o H2 => o = none ∧ H2 = H1) I1 ⟨rfl, rfl⟩) fun vl s2 ⟨l, H2, I2, pl, el, e2⟩ => ?_)
  subst el e2
  refine thn (po_none.run pins s2 σ H2 (fun o H3 => o = none ∧ H3 = H2) I2 ⟨rfl, rfl⟩) fun vu s3 ⟨u, H3, I3, pu, eu, e3⟩ => ?_
  subst eu e3
  refine thn (hst.run pins s3 σ H3 (fun o H4 => o = some (-1) ∧ H4 = H3) I3 ⟨1, rfl, -1, rfl, rfl, rfl⟩) fun vs s4 ⟨o, H4, I4, ps, eo, e4⟩ => ?_
  subst eo e4
  have I5 : Inv X pins σ H4 { s4 with heap := s4.heap.push { cls := .type "slice", data := .fields #[vl, vu, vs] } } := I4.kept (t' := s4.toks) fun b ob q => Heap.get?_push_of_some _ q
  show wpAny (model X.prog X.w) X.A (subscriptTail e (.Slice none none (some (.UnaryOp .USub (.Constant (.int 1) k p1) p2)) p3) (.ref a) (.ref s4.heap.objs.size)) (EP X pins σ Q) X.xe { s4 with heap := s4.heap.push { cls := .type "slice", data := .fields #[vl, vu, vs] } }
  rcases q with ⟨hx, q⟩ | ⟨hx, q⟩
  · obtain ⟨its, r, ht, hz⟩ := I5.list hx
    have hlen := r.length
    refine tail_any (ops := [.ref a, .ref s4.heap.objs.size]) ht.isList.typeIs (PySem.slot_list_getitem.lookup) ?_ (by with_unfolding_all rfl)
    refine wpAny_getItem_list_slice ht.isList (Heap.IsSliceOf.new _ vl vu vs) pl pu ps (by decide) ?_ (by rw [List.size_toArray]; omega)
    rw [PySem.W.krv_pick]
    refine ⟨.ref _, _, I5.laid (t' := s4.toks) (o := .lst xs.reverse) (fun b ob q => Heap.get?_push_of_some _ q) (Nat.le_refl _) ?_, rfl, q _ (I5.hok.fresh (Nat.le_refl _))⟩
    exact ⟨by rw [List.length_reverse]; exact hz, _, 0, r.reverse, Heap.get?_push_size _ rfl⟩
  · obtain ⟨its, r, ht, hz⟩ := I5.tuple hx
    have hlen := r.length
    refine tail_any (ops := [.ref a, .ref s4.heap.objs.size]) ht.typeIs (PyProof.Rows.slot_tuple_getitem.lookup) ?_ (by with_unfolding_all rfl)
    refine PySem.HTR.getItem_tuple_rev ht (Heap.IsSliceOf.new _ vl vu vs) pl pu ps ?_ (by rw [List.size_toArray]; omega)
    refine ⟨.ref _, _, I5.laid (t' := s4.toks) (o := .tup xs.reverse) (fun b ob q => Heap.get?_push_of_some _ q) (Nat.le_refl _) ?_, rfl, q _ (I5.hok.fresh (Nat.le_refl _))⟩
    refine ⟨by rw [List.length_reverse]; exact hz, its.reverse, r.reverse, ?_⟩
    exact IsTup.new _ _
theorem WE.to {r0 : R} {e1 : Env} (h : WE Z X e env fun r e2 => r = r0 ∧ e2 = e1) (k : P r0 e1) : WE Z X e env P := WE.imp h fun _ _ ⟨a, b⟩ => by subst a b; exact k
theorem tLc_mono {σ : L2.St} {H : Hp} {g : TG} {tt : TT} {te : TE} {vs : List Nat} {Q Q' : VK} (hq : ∀ v H, Q v H → Q' v H) (h : tLc (tI Z X tg iter) g tt te vs σ H Q) : tLc (tI Z X tg iter) g tt te vs σ H Q' := by
  obtain ⟨env, F, O, P, b, o, w, k⟩ := h
  refine ⟨env, F, O, P, b, o, w, fun J H1 F1 O1 ds e1 b1 o1 fr gv p D hD => ?_⟩
  obtain ⟨W, h0, hs⟩ := k J H1 F1 O1 ds e1 b1 o1 fr gv p D hD
  exact ⟨W, h0, fun i m H hw => (hs i m H hw).imp (fun z => ⟨z.1, hq _ _ z.2⟩) id⟩
/-- y = [..], y a local name -/
theorem ws_setLc (i : Nat) {y : Str} {py pos' : Pos} {g : TG} {f : TF} {ix : List Nat} {scope : Scope} {own : List (Str × Nat)} {PO : Out → Prop} (hc : X.calm = true) (hN : X.N.Nodup) (ok : BlkOk X.N X.env.scope scope own) (hg : Blk X scope fun X' => PG X' tg g) (gk : GOk Z g f ix) (hix : ∀ i ∈ ix, i ∈ own.map (·.2))
    (h : WI Z X tg iter env (LcI Z X scope f elt (own.map (·.2)) (fun e k => k true e) fun r e1 => storeR r i e1 fun e2 => PO (.nx e2))) (hy : X.N[i]? = some y := by rfl) (hyl : X.env.scope.names.lookup y = some .local := by rfl)
    (hsw : swapsWith (.ListComp elt [⟨tg, iter, [], 0⟩] scope pos') (some (.Name y py)) pos.line X.env = pure true := by exact sw_true rfl rfl rfl (by decide +kernel)) (hs : ∀ x, foldedSetIterable iter X.env x = pure x := by intro _; rfl) :
    WS Z X (.Assign [.Name y py] (.ListComp elt [⟨tg, iter, [], 0⟩] scope pos') pos) env PO :=
  ws_of (ps_setLc hc hN hy hyl hsw (pi_I (Z := Z)) ok hg (fun _ _ _ _ _ => pts_nil) (pe_AB (Z := Z)) hs) fun σ H F O b o =>
    tLc_mono (fun v H1 ⟨F1, O1, r, e1, b1, st, fr, p⟩ => by
      obtain ⟨F2, O2, e2, b2, o2, fr2, q⟩ := storeR_ok b1 st p
      exact ⟨F2, O2, e2, b2, o2, fr.trans fr2, q⟩) (lc_read gk hix (fun σ H F O env k Q b o t q => q true H F O env b o (Frm.refl _ _ _) t) b o h)
theorem ws_setLcIf (i : Nat) {y : Str} {py pos' : Pos} {g : TG} {f : TF} {ix : List Nat} {scope : Scope} {own : List (Str × Nat)} {PO : Out → Prop} (hc : X.calm = true) (hN : X.N.Nodup) (ok : BlkOk X.N X.env.scope scope own) (hg : Blk X scope fun X' => PG X' tg g) (gk : GOk Z g f ix) (hix : ∀ i ∈ ix, i ∈ own.map (·.2))
    (h : WI Z X tg iter env (LcI Z X scope f elt (own.map (·.2)) (fun e k => Blk X scope fun X' => WT Z X' c e k) fun r e1 => storeR r i e1 fun e2 => PO (.nx e2))) (hy : X.N[i]? = some y := by rfl) (hyl : X.env.scope.names.lookup y = some .local := by rfl)
    (hsw : swapsWith (.ListComp elt [⟨tg, iter, [c], 0⟩] scope pos') (some (.Name y py)) pos.line X.env = pure true := by exact sw_true rfl rfl rfl (by decide +kernel)) (hs : ∀ x, foldedSetIterable iter X.env x = pure x := by intro _; rfl) :
    WS Z X (.Assign [.Name y py] (.ListComp elt [⟨tg, iter, [c], 0⟩] scope pos') pos) env PO :=
  ws_of (ps_setLc hc hN hy hyl hsw (pi_I (Z := Z)) ok hg (fun s H C cl fp => pts_one (pt_TB (Z := Z) s H C cl fp)) (pe_AB (Z := Z)) hs) fun σ H F O b o =>
    tLc_mono (fun v H1 ⟨F1, O1, r, e1, b1, st, fr, p⟩ => by
      obtain ⟨F2, O2, e2, b2, o2, fr2, q⟩ := storeR_ok b1 st p
      exact ⟨F2, O2, e2, b2, o2, fr.trans fr2, q⟩) (lc_read gk hix (fun σ H F O env k Q b o t q => ⟨env, F, O, k, b, o, t, fun v H' ⟨F1, O1, e1, b1, o1, fr1, p⟩ => q v H' F1 O1 e1 b1 o1 fr1 p⟩) b o h)
/-- a name's list, frozen from here on -/
def varF (env : Env) (i : Nat) (k : R → Env → Prop) : Prop := match env[i]? with
  | some (some (.lst a ds)) => k (.t (.va (.list ds))) (setP i [] (.va (.list ds)) env)
  | some (some (.dic a kvs)) => k (.t (.va (.dict (kvs.map fun p => (kD p.1, p.2))))) (setP i [] (.va (.dict (kvs.map fun p => (kD p.1, p.2)))) env)
  | _ => False
theorem w_varF (i : Nat) {x : Str} (h : varF env i P) (hN : X.N[i]? = some x := by rfl) (hv : Vis X.env.scope x := by first | exact Or.inl rfl | exact Or.inr (Or.inl rfl) | exact Or.inr (Or.inr rfl))
    (hd : (x == ("__debug__" : Str)) = false := by decide) (hcd : (x == ("__classdict__" : Str)) = false := by decide) : WE Z X (.Name x pos) env P := we_of (pe_var hN hv hd hcd) fun σ H F O b o => by
  unfold varF at h
  have fin : ∀ {a : Addr} {t : T} {d : D}, env[i]? = some (some t) → t.addr = some a → frzT t = some d → P (.t (.va d)) (setP i [] (.va d) env) → tVar i σ H (Post Z σ H F O P) := fun {a t d} hi ha hf q => by
    obtain ⟨w, hw, Oj, O', h1, h2, h3⟩ := o.focusI hi
    have hg : getP i [] env = some t := by unfold getP; rw [hi]; rfl
    obtain ⟨F', O1, ds, e1, b1, o1, r1, fr1, q1⟩ := absorb_ok (k := fun ds e => ∃ d, ds = [d] ∧ P (.t (.va d)) e) (.cons (a := .bor a i []) rfl .nil) b o (by
      unfold absorb; simp only [hg]; exact ⟨ha, by simp only [hf]; exact ⟨d, rfl, q⟩⟩)
    obtain ⟨d', ed, q1⟩ := q1
    subst ed
    cases r1 with
    | cons r1 _ =>
      have hw' := h1.ref ha
      subst hw'
      exact ⟨_, hw, F', O1, .t (.va d'), e1, b1, ⟨O1, [], (List.append_nil O1).symm, o1, .va r1⟩, fr1, q1⟩
  split at h
  · rename_i a ds hi; exact fin hi rfl rfl h
  · rename_i a ds hi; exact fin hi rfl rfl h
  · exact h.elim
def revG (d : D) (k : T → Prop) : Prop := match d with
  | .tuple xs => k (.va (.tuple xs.reverse))
  | .list xs => ∀ p, k (.lst p xs.reverse)
  | _ => False
theorem w_rev (h : WA Z X e env fun a1 e1 => View a1 e1 fun d => revG d fun t => P (.t t) e1) : WE Z X (.Subscript e (.Slice none none (some (.UnaryOp .USub (.Constant (.int 1) k p1) p2)) p3) pos) env P :=
  we_of (pe_revA (pe_A (Z := Z))) fun σ H F O b o => ⟨env, F, O, _, b, o, h, fun v H1 ⟨F1, O1, a1, e1, b1, o1, st, fr, q⟩ => by
    obtain ⟨d, w, q⟩ := View.vw q o1 st
    unfold revG at q
    split at q
    · obtain ⟨p, vs, rfl, h1, r1⟩ := w.tup
      exact ⟨p, vs, rfl, .inr ⟨SqT.of (b1.sub _ _ h1), fun p' hp' => ((NewV.tup b1.sub r1.rev hp' (k := fun t => t = .va (.tuple _)) rfl).post b1 o1 (fun t e => by subst e; exact q)).from fr⟩⟩
    · obtain ⟨p, vs, rfl, h1, r1⟩ := w.lst' b1.sub
      exact ⟨p, vs, rfl, .inl ⟨SqL.of h1, fun p' hp' => ((NewV.lst b1.sub r1.rev hp' (k := fun t => t = .lst p' _) rfl).post b1 o1 (fun t e => by subst e; exact q p')).from fr⟩⟩
    · exact q.elim⟩
/-- [elt for x in ds if c]: c of x is t x -/
theorem lc_filt {scope : Scope} {f : TF} (fm : FMo f) {vs : List Nat} {ds : List D} {e1 : Env} {α : Type} (enc : α → D) (xs : List α) (t : α → Bool) (g : α → D) (env0 : Env) (h0 : wipeE e1 vs = env0) (hd : ds = xs.map enc) (hl : xs.length < sizeLine)
    (step : ∀ (k : Nat) x, xs[k]? = some x → f (enc x) env0 fun e' => Blk X scope fun X' => WT Z X' c e' fun bb e2 => bb = t x ∧ (t x = true → Blk X scope fun X' => WA Z X' elt e2 fun a e3 => absorb [a] e3 fun ds e4 => ds = [g x] ∧ wipeE e4 vs = env0) ∧ (t x = false → wipeE e2 vs = env0))
    (fin : ∀ p, P (.t (.lst p ((xs.filter t).map g))) env0) : LcI Z X scope f elt vs (fun e k => Blk X scope fun X' => WT Z X' c e k) P ds e1 := by
  subst hd
  refine ⟨fun k acc e => e = env0 ∧ acc = ((xs.take k).filter t).map g, ⟨h0, rfl⟩, ?_, ?_⟩
  · rintro k d acc e hk ⟨rfl, rfl⟩
    rw [List.getElem?_map, Option.map_eq_some_iff] at hk
    obtain ⟨x, hx, rfl⟩ := hk
    have q := step k x hx
    have tk : xs.take (k + 1) = xs.take k ++ [x] := by rw [List.take_add_one, hx]; rfl
    refine fm.mo q fun e' w s H C cl fp => ?_
    refine WT.imp (w s H C cl fp) fun bb e2 ⟨hb, hT, hF⟩ => ?_
    subst hb
    refine ⟨fun ht s2 H2 C2 cl2 fp2 => ?_, fun hf => ⟨hF hf, ?_⟩⟩
    · refine WE.imp (hT ht s2 H2 C2 cl2 fp2) fun r e3 hr => ?_
      have ab : ∀ {a : A} {e3 : Env}, absorb [a] e3 (fun ds e4 => ds = [g x] ∧ wipeE e4 vs = e) → absorb [a] e3 fun ds e4 => match ds with | [y] => (((xs.take k).filter t).map g).length < sizeLine ∧ (fun acc e0 => e0 = e ∧ acc = ((xs.take (k + 1)).filter t).map g) (((xs.take k).filter t).map g ++ [y]) (wipeE e4 vs) | _ => False := fun {a e3} h => by
        have fin : ∀ {y : D} {e4 : Env}, [y] = [g x] ∧ wipeE e4 vs = e → (((xs.take k).filter t).map g).length < sizeLine ∧ (wipeE e4 vs = e ∧ ((xs.take k).filter t).map g ++ [y] = ((xs.take (k + 1)).filter t).map g) := fun {y e4} ⟨h1, h2⟩ => by
          cases h1
          refine ⟨?_, h2, ?_⟩
          · rw [List.length_map]
            have := List.length_filter_le t (xs.take k)
            rw [List.length_take] at this
            omega
          · rw [tk, List.filter_append]; simp [ht]
        cases a with
        | va d => exact fin h
        | bor a i p =>
          unfold absorb at h ⊢
          split at h
          · refine ⟨h.1, ?_⟩
            have h := h.2
            split at h
            · exact fin h
            · exact h.elim
          · exact h.elim
      cases r with
      | bor a i p => exact ab hr
      | t t =>
        unfold toA at hr ⊢
        simp only at hr ⊢
        split at hr
        · exact ab (a := .va _) hr
        · exact hr.elim
    · show ((xs.take k).filter t).map g = ((xs.take (k + 1)).filter t).map g
      rw [tk, List.filter_append]; simp [hf]
  · rintro acc e ⟨rfl, rfl⟩ p
    rw [List.length_map, List.take_length]
    exact fin p
end
end QL

/-! QR: o.m(..), o.f where o is made on the spot. -/
namespace QL
open PySem PySem.Spec PyProof.Rows L2
section
variable {Tq : List (Addr × Str)} {Z : Zb Tq} {X : Cx} {e a b c o value : Expr} {es : List Expr} {env : Env} {pos pos' apos p : Pos} {P : R → Env → Prop} {f x m : Str} {k : Nat} {C : Addr} {ps : List Str} {sp : Spc}
def callT (sp : Spc) (tx : T) (as : List A) (env : Env) (PT : T → Env → Prop) (ET : Ex → Env → Prop) : Prop :=
  deref as env fun ts e2 => sp (tx :: ts) (fun t ts' => match ts' with
      | _ :: ts'' => putb as ts'' e2 fun e3 => PT t e3
      | _ => False)
    (fun ex ts' => match ts' with
      | _ :: ts'' => putb as ts'' e2 fun e3 => ET ex e3
      | [] => False)
theorem call_own {fI : Addr} {fd : FuncData} {ET : Ex → Env → Prop} {as : List A} {vs : List V} {us us0 : List Value} {kw : List (Str × Value)} {pins : List (Addr × Obj)} {s : Shared} {σ : L2.St} {H F : Hp} {O Ox : List Addr} {vx : V} {ux : Value} {tx : T}
    (G : FnG X.prog X.w X.K X.mg X.base Tq k fI fd ps sp) (hr : Room k X.A) (hg : X.A.guards = some []) (tk : Takes X (wxOf Z ET)) (hb : BindsTo s fd ⟨us0, kw⟩ (ps.zip (ux :: us))) (I : Inv X pins σ H s) (b : Bas Z F H (O ++ Ox)) (o : OwE F H O σ env) (wx : Ow F H Ox vx tx) (rx : RelV vx ux)
    (st : StAs F vs as) (r : Vals vs us) (h : callT sp tx as env (fun t e => P (.t t) e) ET) : wpAny (model X.prog X.w) X.A (call (.ref fI) us0 kw) (EP X pins σ (Post Z σ H F (O ++ Ox) P)) X.xe s := by
  obtain ⟨ts, e2, Oc, Or, pm, sv, o2, h⟩ := deref_ok st o h
  have ex : ∀ c ∈ Or, Held H c := o2.held
  have pm2 : (O ++ Ox).Perm ((Ox ++ Oc) ++ Or) := (List.perm_append_comm (l₁ := O)).trans (by rw [List.append_assoc]; exact pm.append_left Ox)
  have bc := (b.perm pm2).left.entry
  have sv2 : StV F H (Ox ++ Oc) (vx :: vs) (tx :: ts) := .cons wx sv
  have r2 : Vals (vx :: vs) (ux :: us) := .cons rx r
  refine wpAny_call (codeAny_mono (G.run X.A X.stack s H ⟨us0, kw⟩ (ux :: us) (vx :: vs) F (Ox ++ Oc) (tx :: ts) _ _
    (fun cls d H' => ∃ e ts' F' O', Bas ⟨H, F, Ox ++ Oc, (b.perm pm2).left.tabs⟩ F' H' O' ∧ StVO F' H' O' (vx :: vs) ts' ∧ ExAt F' e cls d ∧ (match ts' with | _ :: ts'' => putb as ts'' e2 fun e3 => ET e e3 | [] => False)) (b.perm pm2).left.tabs hr hg I.env0 hb r2 bc sv2 h
    fun e ts' cls d H' F' O' b' s' x' q => ⟨e, ts', F', O', b', s', x', q⟩) fun rs s' hq => ?_)
  have back : ∀ {F' H' : Hp} {O1 O2 : List Addr} {ts' : List (Option T)} {kk : Env → Prop}, Bas ⟨H, F, Ox ++ Oc, (b.perm pm2).left.tabs⟩ F' H' (O1 ++ O2) → StVO F' H' O1 vs ts' → putb as ts' e2 kk →
      ∃ e3 O3, OwE F' H' O3 σ e3 ∧ Bas Z F' H' (O3 ++ O2) ∧ Frm Tq H F (O ++ Ox) H' F' (O3 ++ O2) ∧ kk e3 := fun {F' H' O1 O2 ts' kk} b' s' q => by
    have fr := b'.abs
    have b3 := Bas.frame fr (b.perm pm2) b' ex
    have keep := fr.rest (R := Or) (pm2.nodup b.nd) ex
    obtain ⟨e3, O3, Od, o3, p3, q3⟩ := putb_ok st s' (o2.stay fr.fz keep) q
    have p4 : ((O1 ++ O2) ++ Or).Perm ((O3 ++ O2) ++ Od) := by
      have e1 : ((O1 ++ O2) ++ Or).Perm ((O1 ++ Or) ++ O2) := by
        rw [List.append_assoc, List.append_assoc]
        exact List.perm_append_comm.append_left O1
      have e2 : ((O3 ++ O2) ++ Od).Perm ((O3 ++ Od) ++ O2) := by
        rw [List.append_assoc, List.append_assoc]
        exact List.perm_append_comm.append_left O3
      exact e1.trans ((p3.append_right O2).trans e2.symm)
    exact ⟨e3, O3, o3, (b3.perm p4).left, (fr.frame (R := Or)).perm (fun c => pm2.symm.mem_iff) (fun c hc => p4.mem_iff.mpr (List.mem_append_left _ hc)), q3⟩
  cases rs with
  | error e =>
    refine tk e s' (XE.of_call I (fun cls d H' hE => ?_) hq)
    obtain ⟨y, ts', F', O', b', sv', xa, q⟩ := hE
    cases sv' with
    | un sv' =>
      obtain ⟨e3, O3, o3, b3, fr3, q3⟩ := back (O2 := []) (by rw [List.append_nil]; exact b') sv' q
      rw [List.append_nil] at b3 fr3
      exact ⟨F', O3, e3, y, b3, o3, xa, q3⟩
    | cons w sv' =>
      rename_i Ou O1' u ts''
      obtain ⟨e3, O3, o3, b3, fr3, q3⟩ := back (O1 := O1') (O2 := Ou) (b'.perm List.perm_append_comm) sv' q
      exact ⟨F', O3, e3, y, b3.left, o3, xa, q3⟩
  | ok fl =>
    cases fl with
    | ret u =>
      refine EP.imp (fun v H' q => ?_) u s' (I.after hq)
      obtain ⟨F', O1, O2, t, ts', b', sv', w', q⟩ := q
      cases sv' with
      | un sv' =>
        obtain ⟨e3, O3, o3, b3, fr3, q3⟩ := back b' sv' q
        exact ⟨F', O3 ++ O2, .t t, e3, b3, ⟨O3, O2, rfl, o3, w'⟩, fr3, q3⟩
      | cons wu sv' =>
        rename_i Ou O1' u' ts''
        have pmx : ((Ou ++ O1') ++ O2).Perm (O1' ++ (O2 ++ Ou)) := by
          rw [List.append_assoc]
          refine List.perm_append_comm.trans ?_
          rw [List.append_assoc]
        obtain ⟨e3, O3, o3, b3, fr3, q3⟩ := back (O1 := O1') (O2 := O2 ++ Ou) (b'.perm pmx) sv' q
        rw [← List.append_assoc] at b3 fr3
        exact ⟨F', O3 ++ O2, .t t, e3, b3.left, ⟨O3, O2, rfl, o3, w'⟩, fr3.perm (fun _ => Iff.rfl) fun c hc => List.mem_append_left _ hc, q3⟩
    | next => exact hq.elim
    | brk => exact hq.elim
    | cont => exact hq.elim
/-- the receiver is made on the spot -/
def methTR {Tq : List (Addr × Str)} (as : List Expr) (Z : Zb Tq) (X : Cx) (C : Addr) (m : Str) (r : R) (e1 : Env) (k : T → List A → Env → Prop) : Prop := match r with
  | .t (.ins a C' fs) => (C' = C ∧ fs.lookup m = none) ∧ WAs Z X as e1 fun as' e2 => k (.ins a C fs) as' e2
  | _ => False
theorem methTR_ok {σ : L2.St} {F H : Hp} {O : List Addr} {v : V} {r : R} {e1 : Env} {kk : T → List A → Env → Prop} (st : StR F H O σ e1 v r) (h : methTR es Z X C m r e1 kk) :
    ∃ a fs dx vs Oa Ob, v = .ref a ∧ H a = some (.ins C dx vs) ∧ vs.lookup m = none ∧ O = Oa ++ Ob ∧ OwE F H Oa σ e1 ∧ Ow F H Ob v (.ins a C fs) ∧ WAs Z X es e1 fun as' e2 => kk (.ins a C fs) as' e2 := by
  unfold methTR at h
  split at h
  · rename_i a C' fs
    obtain ⟨⟨rfl, hm⟩, h⟩ := h
    obtain ⟨Oa, Ob, rfl, o1, w1⟩ := st
    cases w1 with
    | ins ha hd rr =>
      refine ⟨_, fs, _, _, Oa, _, rfl, ha, ?_, rfl, o1, .ins ha hd rr, h⟩
      rcases rr.look (f := m) with ⟨_, e2⟩ | ⟨t, w, Ot, e2, _, _⟩
      · exact e2
      · rw [hm] at e2; cases e2
  · exact h.elim
theorem w_methT {pl : Sem Bool} (G : Mf X.prog X.w X.K X.mg X.base Tq k C m ps sp) (hr : Room k X.A) (hgd : X.A.guards = some [])
    (h : WE Z X o env fun r e1 => methTR (e :: es) Z X C m r e1 fun tx as e2 => callT sp tx as e2 (fun t e => P (.t t) e) fun _ _ => False)
    (hst : starEach (e :: es) X.env = (false, eval e X.env) :: starEach es X.env := by rfl) (hpl : (backTo pos (starEach es X.env)).any (·.1) = false := by rfl)
    (ht : eval (.Call (.Attribute o m apos) (e :: es) [] pos) X.env = (do
      let ov ← eval o X.env
      standAt apos.atName
      let (f, first) ← holding [ov] (getMethod ov m pl)
      callWith pos f first (backTo pos (starEach (e :: es) X.env)) (backToKw pos (keywordEach [] X.env))) := by rfl) :
    WE Z X (.Call (.Attribute o m apos) (e :: es) [] pos) env P := fun pins s σ H F O I b o0 => by
  obtain ⟨f, fd, g, c, hm, hb⟩ := G.ex
  refine PySem.W.methodCall_KW (pl := pl) (thn (h pins s σ H F O I b o0) fun u s1 ⟨v, H1, I1, rx, F1, O1, r, e1, b1, st, fr, q⟩ => ?_) ht
  obtain ⟨a, fs, dx, vs, Oa, Ob, rfl, ha, hl, rfl, o1, wx, q⟩ := methTR_ok st q
  obtain rfl : u = Value.ref a := rx
  refine getmeth_ok I1 ha c hm hl ?_
  refine PySem.W.callWith_K (first := [.ref a]) (h₀ := X.base) I1.ok.mod.kin hm.kp (thn ((pa_As (Z := Z)).run pos pins s1 σ H1 (PostAs Z σ H1 F1 Oa _) I1 ⟨e1, F1, Oa, _, b1.left, o1, q, fun _ _ q => q⟩) fun us s2 ⟨vs2, H2, I2, r2, F2, O2, as, e2, b2, o2, st2, fr2, q2⟩ => ⟨I2.kIn, ?_⟩) hst hpl
  have exb := wx.held
  have b3 := Bas.frame fr2 b1 b2 exb
  have wx2 := wx.stay fr2.fz (fr2.rest b1.nd exb)
  have hl2 : (Value.ref a :: us ++ []).length = ps.length := by
    obtain ⟨ts, e3, Oc, Or, pm, sv, o3, hh⟩ := deref_ok st2 o2 q2
    rw [← g.len _ _ _ hh, List.append_nil]
    show us.length + 1 = ts.length + 1
    rw [← sv.len, ← r2.length]
  have hb2 := hb s2 (Value.ref a :: us) I2.kIn hl2
  rw [List.append_nil] at hb2
  exact thn (call_own (us0 := .ref a :: us) (kw := []) g hr hgd takes_no hb2 I2 b3 o2 wx2 rfl st2 r2 q2) (EP.imp fun v H' q => q.from (fr.trans fr2.frame))
theorem w_methT0 {pl : Sem Bool} (G : Mf X.prog X.w X.K X.mg X.base Tq k C m ps sp) (hr : Room k X.A) (hgd : X.A.guards = some [])
    (h : WE Z X o env fun r e1 => methTR [] Z X C m r e1 fun tx as e2 => callT sp tx as e2 (fun t e => P (.t t) e) fun _ _ => False)
    (ht : eval (.Call (.Attribute o m apos) [] [] pos) X.env = (do
      let ov ← eval o X.env
      standAt apos.atName
      let (f, first) ← holding [ov] (getMethod ov m pl)
      callWith pos f first (backTo pos (starEach [] X.env)) (backToKw pos (keywordEach [] X.env))) := by rfl) :
    WE Z X (.Call (.Attribute o m apos) [] [] pos) env P := fun pins s σ H F O I b o0 => by
  obtain ⟨f, fd, g, c, hm, hb⟩ := G.ex
  refine PySem.W.methodCall_KW (pl := pl) (thn (h pins s σ H F O I b o0) fun u s1 ⟨v, H1, I1, rx, F1, O1, r, e1, b1, st, fr, q⟩ => ?_) ht
  obtain ⟨a, fs, dx, vs, Oa, Ob, rfl, ha, hl, rfl, o1, wx, q⟩ := methTR_ok st q
  obtain rfl : u = Value.ref a := rx
  refine getmeth_ok I1 ha c hm hl ?_
  replace q : callT sp (.ins a C fs) [] e1 (fun t e => P (R.t t) e) fun _ _ => False := q
  have hl2 : ([Value.ref a] ++ []).length = ps.length := by
    obtain ⟨ts, e3, Oc, Or, pm, sv, o3, hh⟩ := deref_ok (as := []) (vs := []) .nil o1 q
    cases sv
    rw [← g.len _ _ _ hh]
    rfl
  have hb2 := hb s1 [Value.ref a] I1.kIn hl2
  rw [List.append_nil] at hb2
  exact PySem.W.callWith_K0 (first := [.ref a]) I1.kIn hm.kp (thn (call_own (us0 := [.ref a]) (kw := []) (us := []) (vs := []) (as := []) g hr hgd takes_no hb2 I1 b1 o1 wx rfl .nil .nil q) (EP.imp fun v H' q => q.from fr))
theorem OwF.lookP {F H : Hp} {f : Str} : ∀ {fs : List (Str × T)} {vs : List (Str × V)} {O : List Addr} {t : T}, OwF F H O vs fs → fs.lookup f = some t → ∃ w Oj O', vs.lookup f = some w ∧ Ow F H Oj w t ∧ O.Perm (Oj ++ O')
  | _, _, _, _, .nil, e => nomatch e
  | (n, t0) :: fs, (_, v) :: vs, _, t, .cons (O1 := O1) (O2 := O2) h r, e => by
    rw [List.lookup_cons] at e ⊢
    cases hb : f == n with
    | true => rw [hb] at e; cases e; exact ⟨_, O1, O2, rfl, h, List.Perm.refl _⟩
    | false =>
      rw [hb] at e
      obtain ⟨w, Oj, O', k1, k2, k3⟩ := OwF.lookP r e
      exact ⟨w, Oj, O1 ++ O', k1, k2, perm_mid k3⟩
/-- a field of what is made on the spot -/
def fldTR (K : PySem.W.Frag) (r : R) (f : Str) (k : R → Prop) : Prop := match r with
  | .t (.ins a C fs) => (Cls K C ∧ NoAttr K C f) ∧ (match fs.lookup f with
      | some t => k (.t t)
      | none => False)
  | _ => False
theorem w_fldT (h : WE Z X o env fun r e1 => fldTR X.K r f fun r2 => P r2 e1) (hb : attributeBase o f X.env (eval o X.env) = eval o X.env := by rfl) : WE Z X (.Attribute o f pos) env P :=
  we_of (pe_fld (pe_E (Z := Z)) hb) fun σ H F O b0 o0 => ⟨env, F, O, _, b0, o0, h, fun v H1 ⟨F1, O1, r, e1, b1, st, fr, q⟩ => by
    unfold fldTR at q
    simp only at q
    split at q
    · rename_i a C fs
      obtain ⟨⟨c, n⟩, q⟩ := q
      obtain ⟨Oa, Ob, rfl, o1, wx⟩ := st
      cases wx with
      | @ins _ dx _ vs _ Of ha hd rr =>
        cases hl : fs.lookup f with
        | none => rw [hl] at q; exact q.elim
        | some t =>
          rw [hl] at q
          obtain ⟨w, Oj, O', hv, hw, pm⟩ := rr.lookP hl
          refine ⟨a, C, dx, vs, w, rfl, ha, c, n, hv, ?_⟩
          have pm2 : (Oa ++ (a :: dx :: Of)).Perm ((Oa ++ Oj) ++ (a :: dx :: O')) := by
            rw [List.append_assoc]
            refine List.Perm.append_left Oa ?_
            exact perm_mid (A := [a, dx]) pm
          obtain ⟨b2, fr2⟩ := b1.dropP pm2
          exact ⟨F1, Oa ++ Oj, .t t, e1, b2, ⟨Oa, Oj, rfl, o1, hw⟩, fr.trans fr2, q⟩
    · exact q.elim⟩
end
/-- a promise drawn from another -/
theorem FnG.weaken {P : Program} {w : World} {K : PySem.W.Frag} {mg : Str → Option Value} {base : Heap} {Tq : List (Addr × Str)} {k : Nat} {f : Addr} {fd : FuncData} {ps : List Str} {sp sp' : Spc} (G : FnG P w K mg base Tq k f fd ps sp) (h : ∀ ts QT ET, sp' ts QT ET → sp ts QT ET) : FnG P w K mg base Tq k f fd ps sp' :=
  ⟨fun ts Q E c => G.len ts Q E (h ts Q E c), fun A outer s H args us vs F O ts QT ET E tbs hr hg e0 hb r b sv hsp hE => G.run A outer s H args us vs F O ts QT ET E tbs hr hg e0 hb r b sv (h ts QT ET hsp) hE⟩
end QL

namespace K10
open PySem PySem.Spec PyProof.Rows L2 QL
open LM
def spBest : Spc := fun ts QT _ => ∃ (wd : Int) (ws : List Int), ts = [.va (.int wd), .va (.tuple (iDs ws))] ∧ Wd wd ws ∧ QT (.va (.tuple (nDs (bestLay wd ws)))) [none, none]
def spBestCost : Spc := fun ts QT _ => ∃ (wd : Int) (ws : List Int), ts = [.va (.int wd), .va (.tuple (iDs ws))] ∧ Wd wd ws ∧ QT (.va (.int (C wd ws (LS wd ws)))) [none, none]
def spClosed : Spc := fun ts QT _ => ∃ (wd : Int) (ws : List Int), ts = [.va (.int wd), .va (.tuple (iDs ws))] ∧ Wd wd ws ∧ QT (.va (.tuple (nDs (way wd ws ws.length)))) [none, none]
def spClosedCost : Spc := fun ts QT _ => ∃ (wd : Int) (ws : List Int), ts = [.va (.int wd), .va (.tuple (iDs ws))] ∧ Wd wd ws ∧ QT (.va (.int (C wd ws ws.length))) [none, none]
theorem words_shaped {wd : Int} {ws : List Int} (W : Wd wd ws) : SeqAt.shaped (.tuple (iDs ws)) = true := by
  refine shaped_sm ?_ ?_
  · simp only [smallD]
    refine iDs_small fun x hx => ?_
    have := W.wrd x hx
    have := W.w2
    have b : (1000000000 : Nat) < 2 ^ 200 := by decide
    omega
  · simp only [PyData.depth, iDs_depth]; omega
theorem eqv_nil (ws : List Int) : PyData.eqv (.tuple (iDs ws)) (.tuple []) = decide (ws.length = 0) := by
  cases ws with
  | nil => rfl
  | cons x xs => rfl
theorem LS_way {wd : Int} {ws : List Int} (h : ws.length ≠ 0) : nDs (way wd ws (LS wd ws)) ++ [PyData.int (ws.length : Int)] = nDs (bestLay wd ws) := by
  unfold bestLay; rw [if_neg h]; simp [nDs]
theorem way_len {wd : Int} {ws : List Int} (W : Wd wd ws) {e : Nat} (h : e ≤ ws.length) : (nDs (way wd ws e)).length ≤ 1000 := by
  have h1 := (way_lay W e h).1.len
  have h2 := W.len
  rw [List.length_map]; omega
section
variable {P : Program} {w : World} {K : PySem.W.Frag} {mg : Str → Option Value} {base : Heap} {Tq : List (Addr × Str)}
abbrev N_Table___init__ : List Str := ["self", "width", "text", "end", "least", "before", "at"]
theorem sc_Table___init__ : FnScope N_Table___init__ ["self", "width", "text"] (defScope (inClass (topS 5) 0)) := ⟨rfl, rfl, rfl, by decide +kernel, rfl, by decide +kernel, by decide +kernel⟩
theorem g_Table___init__ {f : Addr} {fd : FuncData} {k : Nat} {aTable : Addr} (Fn : Fun K "__init__" "Table.__init__" (inClass (topS 5) 0) f fd) (TX : Txt_Table K aTable) (G_sums_of : Df P w K mg base Tq k "sums_of" ["text"] spSums) (M_begins : Mf P w K mg base Tq k aTable "begins" ["self", "end"] (spBegins aTable)) (M_square : Mf P w K mg base Tq k aTable "square" ["self", "begin", "end"] (spSquare aTable)) (m_len : mg "len" = none) (m_min : mg "min" = none) (m_range : mg "range" = none) : FnG P w K mg base Tq (k + 1) f fd ["self", "width", "text"] (spInit aTable) := by
  refine fn_g Fn sc_Table___init__ (fun ts Q E h => ?_) fun cdv A outer s H E Z ts QT ET hr hgd hp tk h => ?_
  · obtain ⟨a, wd, ws, rfl, W, q⟩ := h; rfl
  · obtain ⟨a, wd, ws, rfl, W, q⟩ := h
    have hu := room110 hr
    have hlen := W.len
    -- line 16
    refine wss_cons (ws_fld 0 (w_var 1 ⟨⟨TX.cl, TX.n_wide, Nat.lt_of_sub_eq_succ rfl⟩, ?_⟩))
    -- line 17
    refine wss_cons (ws_fld 0 (w_fn G_sums_of hr hgd ⟨rfl, (w_var 2 ⟨_, rfl, (by first | assumption | omega | decide), ⟨⟨TX.cl, TX.n_sums, Nat.lt_of_sub_eq_succ rfl⟩, ?_⟩⟩)⟩))
    -- line 18
    refine wss_cons (ws_fld 0 (w_lst ⟨rfl, (w_int ⟨(by first | decide | (simp only [List.length_append, List.length_map, List.length_cons, List.length_nil, List.length_singleton, List.length_replicate, List.length_range, List.length_take, List.length_drop, List.length_dropLast, List.length_reverse, Bool.false_eq_true, eq_self, reduceIte, sizeLine_eq]; omega)), fun p1 => ⟨⟨TX.cl, TX.n_costs, Nat.lt_of_sub_eq_succ rfl⟩, ?_⟩⟩)⟩))
    -- line 19
    refine wss_cons (ws_fld 0 (w_lst ⟨rfl, (w_int ⟨(by first | decide | (simp only [List.length_append, List.length_map, List.length_cons, List.length_nil, List.length_singleton, List.length_replicate, List.length_range, List.length_take, List.length_drop, List.length_dropLast, List.length_reverse, Bool.false_eq_true, eq_self, reduceIte, sizeLine_eq]; omega)), fun p2 => ⟨⟨TX.cl, TX.n_befores, Nat.lt_of_sub_eq_succ rfl⟩, ?_⟩⟩)⟩))
    have hs : (((iDs (sumsF 0 ws)).length : Nat) : Int) = (ws.length : Int) + 1 := by rw [List.length_map, sumsF_len]; omega
    -- line 20
    refine wss_one (ws_for hp rfl (pg_name (i := 3) sc_Table___init__.nd rfl (by first | exact Or.inl rfl | exact Or.inr rfl)) (gok_name 3) (wi_range2 m_range ⟨rfl, (w_int ⟨rfl, (w_callB dc_len m_len rfl ⟨rfl, (w_fld (w_var 0 ⟨rfl, ⟨TX.cl, TX.n_sums⟩, ⟨rfl, ⟨rfl, rfl, ⟨by omega, by omega, by omega, by omega⟩, ?_⟩⟩⟩))⟩)⟩)⟩))
    rw [show ((((iDs (sumsF 0 ws)).length : Nat) : Int) - 1).toNat = ws.length by rw [hs]; omega]
    refine ⟨fun j e => ∃ o3 o4 o5, e = [some (.ins a aTable (tabF wd ws j p1 p2)), some (.va (.int wd)), some (.va (.tuple (iDs ws))), o3, o4, o5, none], ⟨none, none, none, rfl⟩, ?_, ?_⟩
    · rintro j x e hd ⟨o3, o4, o5, rfl⟩
      obtain ⟨rfl, hj⟩ := rangeD_at hd
      rw [show ((1 : Int) + (j : Int)) = ((j + 1 : Nat) : Int) by omega]
      obtain ⟨c1, c2, c3, c4, c5⟩ := CB_at W (e := j + 1) (by omega) (by omega)
      obtain ⟨x, xs, m1, m2, m3, m4, m5⟩ := min_pairs (f := fun b => C wd ws b + sq wd ws b (j + 1)) (bg_ne W (e := j + 1) (by omega) (by omega))
      have hbl := bg_len (wd := wd) (ws := ws) (e := j + 1)
      refine ⟨Nat.lt_of_sub_eq_succ rfl, ?_⟩
      -- line 21
      refine wss_cons (ws_asg (pg_tup (by rfl) (pgs_cons (pg_name (i := 4) sc_Table___init__.nd rfl (by first | exact Or.inl rfl | exact Or.inr rfl)) (pgs_cons (pg_name (i := 5) sc_Table___init__.nd rfl (by first | exact Or.inl rfl | exact Or.inr rfl)) (pgs_nil)))) (gok_tup (gsok_cons (gok_name 4) (gsok_cons (gok_name 5) (gsok_nil)))) (w_callB (dc_minL rfl hu) m_min rfl ⟨rfl, (w_lc (own := [("at", 6)]) rfl sc_Table___init__.nd (blkOk_by (N := N_Table___init__) (sc := defScope (inClass (topS 5) 0)) (by decide +kernel)) (fun _ _ _ _ _ => pg_name (i := 6) sc_Table___init__.nd rfl (by first | exact Or.inl rfl | exact Or.inr rfl)) (gok_name 6) (by decide) (wi_list (w_meth M_begins hr hgd (w_var 0 ⟨⟨rfl, rfl, rfl⟩, ⟨rfl, (w_var 3 ⟨rfl, ⟨_, _, _, _, _, _, _, rfl, (by first | assumption | omega | decide), (by first | assumption | omega | decide), fun p_2 => ⟨rfl, rfl, (lc_map fm_name (fun (b : Nat) => PyData.int b) (bg wd ws (j + 1)) (fun (b : Nat) => PyData.tuple [.int (C wd ws b + sq wd ws b (j + 1)), .int (-(b : Int))]) _ rfl (rfl) (by simp only [sizeLine_eq]; omega) (fun k2 b hx => by have hm := (bg_mem W (e := j + 1) (by omega)).mp (List.mem_of_getElem? hx); exact ⟨Nat.lt_of_sub_eq_succ rfl, fun s2 H2 C2 cl2 fp2 => (w_tup ⟨rfl, (w_bin dop_add (w_ix (w_fld (w_var 0 ⟨rfl, ⟨TX.cl, TX.n_costs⟩, (w_var 6 ⟨rfl, rfl, _, (csL_at (by omega)), (w_meth M_square hr hgd (w_var 0 ⟨⟨rfl, rfl, rfl⟩, ⟨rfl, (w_var 6 ⟨rfl, (w_var 3 ⟨rfl, ⟨_, _, _, _, _, _, _, _, rfl, (by first | assumption | omega | decide), (by first | assumption | omega | decide), (by first | assumption | omega | decide), ⟨rfl, rfl, ⟨rfl, rfl, ⟨rfl, (w_neg (w_var 6 ⟨rfl, ⟨(by first | decide | (simp only [List.length_append, List.length_map, List.length_cons, List.length_nil, List.length_singleton, List.length_replicate, List.length_range, List.length_take, List.length_drop, List.length_dropLast, List.length_reverse, Bool.false_eq_true, eq_self, reduceIte, sizeLine_eq]; omega)), ⟨rfl, rfl⟩⟩⟩))⟩⟩⟩⟩⟩)⟩)⟩⟩))⟩)⟩))))⟩)⟩) (fun p3 => ⟨rfl, ⟨_, _, _, (.inl (congrArg (fun z => [PyData.list z]) m1)), m3, m4, m5, (m2.trans (congrArg pD c4)), ⟨_, rfl, rfl, ⟨Nat.lt_of_sub_eq_succ rfl, ⟨Nat.lt_of_sub_eq_succ rfl, ⟨rfl, ?_⟩⟩⟩⟩⟩⟩))⟩⟩⟩)⟩⟩))))⟩))
      have l1 := csL_len (wd := wd) (ws := ws) (m := j)
      have l2 := bsL_len (wd := wd) (ws := ws) (m := j)
      -- line 22
      refine wss_cons (ws_expr (w_append (w_fld (w_var 0 ⟨rfl, ⟨TX.cl, TX.n_costs⟩, ⟨_, _, _, _, rfl, rfl, (w_var 4 ⟨_, _, rfl, rfl, (by simp only [List.length_append, List.length_map, List.length_cons, List.length_nil, List.length_singleton, List.length_replicate, List.length_range, List.length_take, List.length_drop, List.length_dropLast, List.length_reverse, Bool.false_eq_true, eq_self, reduceIte, sizeLine_eq]; omega), ?_⟩)⟩⟩))))
      -- line 23
      refine wss_one (ws_expr (w_append (w_fld (w_var 0 ⟨rfl, ⟨TX.cl, TX.n_befores⟩, ⟨_, _, _, _, rfl, rfl, (w_neg (w_var 5 ⟨rfl, ⟨_, _, rfl, rfl, (by simp only [List.length_append, List.length_map, List.length_cons, List.length_nil, List.length_singleton, List.length_replicate, List.length_range, List.length_take, List.length_drop, List.length_dropLast, List.length_reverse, Bool.false_eq_true, eq_self, reduceIte, sizeLine_eq]; omega), ?_⟩⟩))⟩⟩))))
      refine ⟨some (.va (.int ((j + 1 : Nat) : Int))), some (.va (.int (C wd ws (j + 1)))), some (.va (.int (-(B wd ws (j + 1) : Int)))), ?_⟩
      show [some (T.ins a aTable [("wide", .va (.int wd)), ("sums", .va (.tuple (iDs (sumsF 0 ws)))), ("costs", .lst p1 (iDs (csL wd ws j) ++ [.int (C wd ws (j + 1))])), ("befores", .lst p2 (nDs (bsL wd ws j) ++ [.int (-(-(B wd ws (j + 1) : Int)))]))]), _, _, _, _, _, _] = _
      rw [csL_snoc, show (-(-(B wd ws (j + 1) : Int))) = (B wd ws (j + 1) : Int) by omega, bsL_snoc]
    · rintro e ⟨o3, o4, o5, rfl⟩
      rw [show (rangeD 1 ws.length).length = ws.length from rangeD_len _ _]
      exact ⟨rfl, q p1 p2⟩
end
end K10

/-! LP: all layouts, found by going on from their beginnings. -/
namespace LM
open PySem
theorem Lay.pre {wd : Int} {ws : List Int} {ns : List Nat} {h : Nat} : ∀ {r : List Nat} {e : Nat}, Lay wd ws (ns ++ h :: r) e → ∃ l, Lay wd ws ns l ∧ l < h ∧ ln ws l h ≤ wd ∧ h ≤ e := fun {r} => by
  generalize hm : r.length = m
  induction m generalizing r with
  | zero =>
    intro e c
    have : r = [] := List.eq_nil_of_length_eq_zero hm
    subst this
    obtain ⟨rfl, l, h1, h2, h3⟩ := c.inv
    exact ⟨l, h1, h2, h3, Nat.le_refl _⟩
  | succ m ih =>
    intro e c
    rcases List.eq_nil_or_concat r with z | ⟨r', x, z⟩
    · subst z; cases hm
    · rw [List.concat_eq_append] at z
      subst z
      have e1 : ns ++ h :: (r' ++ [x]) = (ns ++ h :: r') ++ [x] := by simp
      rw [e1] at c
      obtain ⟨rfl, l, h1, h2, h3⟩ := c.inv
      obtain ⟨l', k1, k2, k3, k4⟩ := ih (r := r') (by simpa using hm) h1
      exact ⟨l', k1, k2, k3, by omega⟩
theorem Lay.uniq {wd : Int} {ws : List Int} {ns : List Nat} {l l' : Nat} (c : Lay wd ws ns l) (c' : Lay wd ws ns l') : l = l' := by rw [← c.last, ← c'.last]
def wgt (n : Nat) (wt : List (List Nat × Nat)) : Nat := (wt.map fun p => 2 ^ (n - p.2)).sum
theorem wgt_snoc (n : Nat) (wt : List (List Nat × Nat)) (p : List Nat × Nat) : wgt n (wt ++ [p]) = wgt n wt + 2 ^ (n - p.2) := by
  unfold wgt
  rw [List.map_append, List.sum_append]
  simp
theorem wgt_len (n : Nat) : ∀ wt : List (List Nat × Nat), wt.length ≤ wgt n wt
  | [] => Nat.le_refl _
  | p :: wt => by
    have := wgt_len n wt
    have h : 1 ≤ 2 ^ (n - p.2) := Nat.one_le_two_pow
    unfold wgt at this ⊢
    rw [List.map_cons, List.sum_cons, List.length_cons]
    omega
abbrev tN (ns : List Nat) : PyData := .tuple (nDs ns)
def wtD (wt : List (List Nat × Nat)) : List PyData := wt.map fun p => tN p.1
open QL in
theorem tN_small {wd : Int} {ws : List Int} {ns : List Nat} {l : Nat} (c : Lay wd ws ns l) (h : l ≤ 1000) : smallD (tN ns) = true ∧ (tN ns).depth ≤ 1 := by
  have e : nDs ns = iDs (ns.map fun (n : Nat) => (n : Int)) := by simp [nDs, iDs]
  refine ⟨?_, ?_⟩
  · simp only [smallD, e]
    refine iDs_small fun x hx => ?_
    obtain ⟨n, hn, rfl⟩ := List.mem_map.mp hx
    have := c.mem n hn
    have b : (1000 : Nat) < 2 ^ 200 := by decide
    omega
  · simp only [PyData.depth, e, iDs_depth]; omega
/-- found and waiting -/
structure Fnd (wd : Int) (ws : List Int) (fs : List (List Nat)) (wt : List (List Nat × Nat)) : Prop where
  f : ∀ ns ∈ fs, Lay wd ws ns ws.length
  g : ∀ p ∈ wt, Lay wd ws p.1 p.2 ∧ p.2 ≤ ws.length
  all : ∀ ns, Lay wd ws ns ws.length → ns ∈ fs ∨ ∃ p ∈ wt, p.1 <+: ns
  le : fs.length + wgt ws.length wt ≤ 2 ^ ws.length
/-- the children so far of what was taken -/
structure Kid (wd : Int) (ws : List Int) (ns : List Nat) (l j : Nat) (wt0 wt : List (List Nat × Nat)) : Prop where
  old : ∀ p ∈ wt0, p ∈ wt
  g : ∀ p ∈ wt, p ∈ wt0 ∨ (Lay wd ws p.1 p.2 ∧ p.2 ≤ ws.length)
  new : ∀ h, l < h → h ≤ l + j → ln ws l h ≤ wd → (ns ++ [h], h) ∈ wt
  le : wgt ws.length wt + 2 ^ (ws.length - l - j) ≤ wgt ws.length wt0 + 2 ^ (ws.length - l)
theorem Kid.zero {wd : Int} {ws : List Int} {ns : List Nat} {l : Nat} {wt0 : List (List Nat × Nat)} : Kid wd ws ns l 0 wt0 wt0 :=
  ⟨fun _ h => h, fun _ h => .inl h, fun h h1 h2 _ => by omega, Nat.le_refl _⟩
theorem Kid.yes {wd : Int} {ws : List Int} {ns : List Nat} {l j : Nat} {wt0 wt : List (List Nat × Nat)} (K : Kid wd ws ns l j wt0 wt) (c : Lay wd ws ns l) (hj : l + 1 + j ≤ ws.length) (hf : ln ws l (l + 1 + j) ≤ wd) : Kid wd ws ns l (j + 1) wt0 (wt ++ [(ns ++ [l + 1 + j], l + 1 + j)]) := by
  refine ⟨fun p hp => List.mem_append_left _ (K.old p hp), fun p hp => ?_, fun h h1 h2 h3 => ?_, ?_⟩
  · rcases List.mem_append.mp hp with z | z
    · exact K.g p z
    · rw [List.mem_singleton.mp z]; exact .inr ⟨.snoc c (by omega) hf, hj⟩
  · by_cases e : h = l + 1 + j
    · subst e; exact List.mem_append_right _ (List.mem_singleton.mpr rfl)
    · exact List.mem_append_left _ (K.new h h1 (by omega) h3)
  · have := K.le
    rw [wgt_snoc]
    have e1 : ws.length - l - j = (ws.length - (l + 1 + j)) + 1 := by omega
    have e2 : ws.length - l - (j + 1) = ws.length - (l + 1 + j) := by omega
    rw [e1, Nat.pow_succ] at this
    rw [e2]
    show wgt ws.length wt + 2 ^ (ws.length - (l + 1 + j)) + _ ≤ _
    omega
theorem Kid.no {wd : Int} {ws : List Int} {ns : List Nat} {l j : Nat} {wt0 wt : List (List Nat × Nat)} (K : Kid wd ws ns l j wt0 wt) (hf : ¬ ln ws l (l + 1 + j) ≤ wd) : Kid wd ws ns l (j + 1) wt0 wt := by
  refine ⟨K.old, K.g, fun h h1 h2 h3 => ?_, ?_⟩
  · by_cases e : h = l + 1 + j
    · subst e; exact absurd h3 hf
    · exact K.new h h1 (by omega) h3
  · have := K.le
    have : 2 ^ (ws.length - l - (j + 1)) ≤ 2 ^ (ws.length - l - j) := Nat.pow_le_pow_right (by decide) (by omega)
    omega
theorem Fnd.next {wd : Int} {ws : List Int} {fs fs' : List (List Nat)} {ns : List Nat} {l : Nat} {wt0 wt : List (List Nat × Nat)} (F : Fnd wd ws fs (wt0 ++ [(ns, l)])) (K : Kid wd ws ns l (ws.length - l) wt0 wt) (hf : (l = ws.length ∧ fs' = fs ++ [ns]) ∨ (l ≠ ws.length ∧ fs' = fs)) :
    Fnd wd ws fs' wt ∧ wgt ws.length wt < wgt ws.length (wt0 ++ [(ns, l)]) := by
  have hc := F.g (ns, l) (List.mem_append_right _ (List.mem_singleton.mpr rfl))
  have hle := K.le
  have e0 : ws.length - l - (ws.length - l) = 0 := by omega
  rw [e0, Nat.pow_zero] at hle
  have hw := wgt_snoc ws.length wt0 (ns, l)
  have hF := F.le
  simp only at hw
  have sub : ∀ x, x ∈ fs → x ∈ fs' := fun x hx => by
    rcases hf with ⟨_, rfl⟩ | ⟨_, rfl⟩
    · exact List.mem_append_left _ hx
    · exact hx
  refine ⟨⟨fun x hx => ?_, fun p hp => ?_, fun ms hm => ?_, ?_⟩, by rw [hw]; omega⟩
  · rcases hf with ⟨e, rfl⟩ | ⟨_, rfl⟩
    · rcases List.mem_append.mp hx with z | z
      · exact F.f x z
      · rw [List.mem_singleton.mp z, ← e]; exact hc.1
    · exact F.f x hx
  · rcases K.g p hp with z | z
    · exact F.g p (List.mem_append_left _ z)
    · exact z
  · rcases F.all ms hm with z | ⟨p, hp, z⟩
    · exact .inl (sub _ z)
    · rcases List.mem_append.mp hp with y | y
      · exact .inr ⟨p, K.old p y, z⟩
      · rw [List.mem_singleton.mp y] at z
        obtain ⟨r, hr⟩ := z
        cases r with
        | nil =>
          rw [List.append_nil] at hr
          subst hr
          have := hm.uniq hc.1
          rcases hf with ⟨_, rfl⟩ | ⟨e, _⟩
          · exact .inl (List.mem_append_right _ (List.mem_singleton.mpr rfl))
          · exact absurd this.symm e
        | cons h r =>
          rw [← hr] at hm
          obtain ⟨l', k1, k2, k3, k4⟩ := hm.pre
          have := k1.uniq hc.1
          subst this
          exact .inr ⟨_, K.new h k2 (by omega) k3, ⟨r, by rw [← hr]; simp⟩⟩
  · rcases hf with ⟨e, rfl⟩ | ⟨_, rfl⟩
    · rw [List.length_append, List.length_singleton]; omega
    · omega
end LM

/-! LQ: least of rows of data, sorted tuples, what is shown. -/
namespace LM
open PySem QL
theorem hasDict_map {α : Type} {f : α → PyData} (h : ∀ x, (f x).hasDict = false) : ∀ xs : List α, PyData.hasDictAll (xs.map f) = false
  | [] => rfl
  | x :: xs => by show ((f x).hasDict || PyData.hasDictAll (xs.map f)) = false; rw [h x, hasDict_map h xs]; rfl
theorem min_ints {ns : List Int} (h : ns ≠ []) : ∃ x xs m, ns.map PyData.int = x :: xs ∧ W.minD x xs = .int m ∧ m ∈ ns ∧ (∀ y ∈ ns, m ≤ y) ∧ PyData.hasDictAll (x :: xs) = false ∧ W.AlikeAll (x :: xs) ∧ PyData.depthAll (x :: xs) ≤ 60 := by
  cases ns with
  | nil => exact absurd rfl h
  | cons n ns =>
    have key : ∀ (ns : List Int) (a : Int), (ns.foldl min a) ∈ a :: ns ∧ ∀ y ∈ a :: ns, ns.foldl min a ≤ y := fun ns => by
      induction ns with
      | nil => intro a; exact ⟨List.mem_cons_self, fun y hy => by rw [List.mem_singleton.mp hy]; exact Int.le_refl _⟩
      | cons b ns ih =>
        intro a
        obtain ⟨h1, h2⟩ := ih (min a b)
        rw [List.foldl_cons]
        refine ⟨?_, fun y hy => ?_⟩
        · rcases List.mem_cons.mp h1 with e | e
          · rw [e]
            rcases Int.le_total a b with z | z
            · rw [Int.min_eq_left z]; exact List.mem_cons_self
            · rw [Int.min_eq_right z]; exact List.mem_cons_of_mem _ List.mem_cons_self
          · exact List.mem_cons_of_mem _ (List.mem_cons_of_mem _ e)
        · have h3 := h2 (min a b) List.mem_cons_self
          rcases List.mem_cons.mp hy with rfl | hy
          · omega
          · rcases List.mem_cons.mp hy with rfl | hy
            · omega
            · exact h2 y (List.mem_cons_of_mem _ hy)
    refine ⟨.int n, ns.map .int, ns.foldl min n, rfl, W.minD_ints n ns, (key ns n).1, (key ns n).2, ?_, ?_, ?_⟩
    · exact hasDict_map (f := PyData.int) (fun _ => rfl) (n :: ns)
    · rw [← List.map_cons (f := PyData.int)]
      refine ⟨fun x hx y hy => ?_, fun x hx => ?_⟩
      · obtain ⟨p, _, rfl⟩ := List.mem_map.mp hx
        obtain ⟨q, _, rfl⟩ := List.mem_map.mp hy
        rfl
      · obtain ⟨p, _, rfl⟩ := List.mem_map.mp hx
        exact fun z => nomatch z
    · rw [← List.map_cons (f := PyData.int)]
      refine Nat.le_trans (depthAll_map (k := 0) fun p _ => ?_) (by decide)
      simp [PyData.depth]
theorem alike_nDs (ns ms : List Nat) : W.alikeAll (nDs ns) (nDs ms) = true := by
  induction ns generalizing ms with
  | nil => cases ms <;> rfl
  | cons n ns ih =>
    cases ms with
    | nil => rfl
    | cons m ms => exact ih ms
/-- priced layouts -/
abbrev enS (x : Int × List Nat) : PyData := .tuple [.int x.1, tN x.2]
theorem alike_enS (x y : Int × List Nat) : W.alike (enS x) (enS y) = true := by
  show (W.alike (.int x.1) (.int y.1) && (W.alikeAll (nDs x.2) (nDs y.2) && true)) = true
  rw [alike_nDs]; rfl
theorem dataLt_enS (x y : Int × List Nat) (h : x.1 ≠ y.1) : W.dataLt (enS x) (enS y) = decide (x.1 < y.1) := by
  have e : W.dataLt (enS x) (enS y) = _ := W.dataLt_pair (x := .int x.1) (y := tN x.2) (x' := .int y.1) (y' := tN y.2) rfl (alike_nDs x.2 y.2)
  rw [e, W.dataLt_int]
  have : PyData.eqv (.int x.1) (.int y.1) = false := by simp [PyData.eqv, h]
  rw [this]
  rfl
theorem min_enS {S : List (Int × List Nat)} (h : S ≠ []) : ∃ x xs m t, S.map enS = x :: xs ∧ W.minD x xs = enS (m, t) ∧ (m, t) ∈ S ∧ (∀ y ∈ S, m ≤ y.1) ∧ PyData.hasDictAll (x :: xs) = false ∧ W.AlikeAll (x :: xs) ∧ PyData.depthAll (x :: xs) ≤ 60 := by
  cases S with
  | nil => exact absurd rfl h
  | cons s S =>
    have key : ∀ (S : List (Int × List Nat)) (a : Int × List Nat), ∃ b, W.minD (enS a) (S.map enS) = enS b ∧ b ∈ a :: S ∧ ∀ y ∈ a :: S, b.1 ≤ y.1 := fun S => by
      induction S with
      | nil => intro a; exact ⟨a, rfl, List.mem_cons_self, fun y hy => by rw [List.mem_singleton.mp hy]; exact Int.le_refl _⟩
      | cons y S ih =>
        intro a
        have e : W.minD (enS a) ((y :: S).map enS) = W.minD (if W.dataLt (enS y) (enS a) then enS y else enS a) (S.map enS) := rfl
        by_cases hl : W.dataLt (enS y) (enS a) = true
        · obtain ⟨b, h1, h2, h3⟩ := ih y
          have hya : y.1 ≤ a.1 := by
            by_cases q : y.1 = a.1
            · omega
            · rw [dataLt_enS y a q] at hl; have := of_decide_eq_true hl; omega
          refine ⟨b, by rw [e, if_pos hl, h1], List.mem_cons_of_mem _ h2, fun z hz => ?_⟩
          rcases List.mem_cons.mp hz with rfl | hz
          · have := h3 y List.mem_cons_self; omega
          · exact h3 z hz
        · obtain ⟨b, h1, h2, h3⟩ := ih a
          have hay : a.1 ≤ y.1 := by
            by_cases q : y.1 = a.1
            · omega
            · rw [dataLt_enS y a q] at hl; have : ¬ y.1 < a.1 := by simpa using hl
              omega
          refine ⟨b, by rw [e, if_neg hl, h1], ?_, fun z hz => ?_⟩
          · rcases List.mem_cons.mp h2 with e2 | e2
            · rw [e2]; exact List.mem_cons_self
            · exact List.mem_cons_of_mem _ (List.mem_cons_of_mem _ e2)
          · rcases List.mem_cons.mp hz with rfl | hz
            · exact h3 z List.mem_cons_self
            · rcases List.mem_cons.mp hz with rfl | hz
              · have := h3 a List.mem_cons_self; omega
              · exact h3 z (List.mem_cons_of_mem _ hz)
    obtain ⟨b, h1, h2, h3⟩ := key S s
    refine ⟨enS s, S.map enS, b.1, b.2, rfl, h1, h2, h3, ?_, ?_, ?_⟩
    · refine hasDict_map (f := enS) (fun x => ?_) (s :: S)
      show (false || (PyData.hasDictAll (nDs x.2) || false)) = false
      rw [hasDict_map (f := fun (n : Nat) => PyData.int (n : Int)) (fun _ => rfl) x.2]; rfl
    · rw [← List.map_cons (f := enS)]
      refine ⟨fun x hx y hy => ?_, fun x hx => ?_⟩
      · obtain ⟨p, _, rfl⟩ := List.mem_map.mp hx
        obtain ⟨q, _, rfl⟩ := List.mem_map.mp hy
        exact alike_enS p q
      · obtain ⟨p, _, rfl⟩ := List.mem_map.mp hx
        exact fun z => nomatch z
    · rw [← List.map_cons (f := enS)]
      refine Nat.le_trans (depthAll_map (k := 2) fun p _ => ?_) (by decide)
      have : PyData.depthAll (nDs p.2) ≤ 0 := depthAll_map (k := 0) fun n _ => by simp [PyData.depth]
      simp only [PyData.depth, PyData.depthAll]
      omega
/-! ### sorted tuples -/
abbrev tI (xs : List Int) : PyData := .tuple (iDs xs)
theorem dataLe_tI (xs ys : List Int) : W.dataLe false id (tI xs) (tI ys) = decide (xs ≤ ys) := by
  rw [W.dataLe_eq]
  show (!W.dataLt (tI ys) (tI xs)) = _
  rw [W.dataLt_tuple]
  have e : PyProof.Rows.lexLt PyProof.Rows.itemOrd (W.keyToksAll (iDs ys)) (W.keyToksAll (iDs xs)) = decide (ys < xs) := W.dataLt_ints ys xs
  rw [e]
  by_cases h : ys < xs
  · rw [decide_eq_true h, decide_eq_false (List.not_le.mpr h)]; rfl
  · rw [decide_eq_false h, decide_eq_true (List.not_lt.mp h)]; rfl
theorem rev_nDs (ns : List Nat) : (nDs ns).reverse = iDs (rv ns) := by unfold rv; simp [nDs, iDs]
theorem rev_iDs (ns : List Nat) : (iDs (rv ns)).reverse = nDs ns := by rw [← rev_nDs, List.reverse_reverse]
/-- layouts, the later ones first -/
def desc (Ls : List (List Nat)) : List (List Nat) := (Ls.mergeSort fun a b => decide (rv a ≤ rv b)).reverse
theorem desc_perm (Ls : List (List Nat)) : (desc Ls).Perm Ls := (List.reverse_perm _).trans (List.mergeSort_perm _ _)
theorem desc_sorted (Ls : List (List Nat)) : (desc Ls).Pairwise fun a b => rv b ≤ rv a := by
  unfold desc
  rw [List.pairwise_reverse]
  have := List.pairwise_mergeSort (le := fun a b => decide (rv a ≤ rv b)) (fun a b c h1 h2 => by
    simp only [decide_eq_true_eq] at h1 h2 ⊢; exact List.le_trans h1 h2) (fun a b => by
    rcases List.le_total (rv a) (rv b) with h | h <;> simp [h]) Ls
  exact this.imp fun h => by simpa using h
theorem sort_rows (Ls : List (List Nat)) : (Ls.map fun ns => PyData.tuple (nDs ns).reverse).mergeSort (W.dataLe false id) = (desc Ls).reverse.map fun ns => tI (rv ns) := by
  unfold desc
  rw [List.reverse_reverse]
  have e : (Ls.map fun ns => PyData.tuple (nDs ns).reverse) = Ls.map fun ns => tI (rv ns) := List.map_congr_left fun ns _ => by rw [rev_nDs]
  rw [e, List.map_mergeSort]
  intro a _ b _
  exact (dataLe_tI _ _).symm
theorem desc_head {Ls : List (List Nat)} (h : Ls ≠ []) : ∃ ns r, desc Ls = ns :: r ∧ ns ∈ Ls ∧ ∀ ms ∈ Ls, rv ms ≤ rv ns := by
  have p := desc_perm Ls
  have s := desc_sorted Ls
  cases hd : desc Ls with
  | nil => rw [hd] at p; exact absurd (List.nil_perm.mp p) h
  | cons ns r =>
    rw [hd] at p s
    refine ⟨ns, r, rfl, p.mem_iff.mp List.mem_cons_self, fun ms hm => ?_⟩
    rcases List.mem_cons.mp (p.mem_iff.mpr hm) with e | e
    · rw [e]; exact List.le_refl _
    · exact (List.pairwise_cons.mp s).1 ms e
/-- the first of the chosen ones -/
theorem chosen_gen {fs : List (List Nat)} {f : List Nat → Int} {b : List Nat} (hb : b ∈ fs) (hle : ∀ ns ∈ fs, f b ≤ f ns) (hl : ∀ ns ∈ fs, f ns = f b → rv ns ≤ rv b) {m : Int} (h1 : ∃ x ∈ fs.map (fun ns => (f ns, ns)), x.1 = m) (h2 : ∀ y ∈ fs.map (fun ns => (f ns, ns)), m ≤ y.1) :
    m = f b ∧ ∃ r, desc (((fs.map fun ns => (f ns, ns)).filter fun x => decide (x.1 = m)).map (·.2)) = b :: r := by
  have hm : m = f b := by
    obtain ⟨x, hx, rfl⟩ := h1
    obtain ⟨ns, hn, rfl⟩ := List.mem_map.mp hx
    have := h2 (f b, b) (List.mem_map.mpr ⟨b, hb, rfl⟩)
    have := hle ns hn
    simp only at *
    omega
  refine ⟨hm, ?_⟩
  have mem : ∀ ns, ns ∈ (((fs.map fun ns => (f ns, ns)).filter fun x => decide (x.1 = m)).map (·.2)) ↔ ns ∈ fs ∧ f ns = m := fun ns => by
    simp only [List.mem_map, List.mem_filter, decide_eq_true_eq]
    constructor
    · rintro ⟨x, ⟨⟨y, h1, rfl⟩, h2⟩, rfl⟩
      exact ⟨h1, h2⟩
    · rintro ⟨h1, h2⟩
      exact ⟨(f ns, ns), ⟨⟨ns, h1, rfl⟩, h2⟩, rfl⟩
  obtain ⟨ns, r, e1, e2, e3⟩ := desc_head (List.ne_nil_of_mem ((mem b).mpr ⟨hb, hm.symm⟩))
  have k1 := (mem ns).mp e2
  have k2 := hl ns k1.1 (by rw [k1.2, hm])
  have k3 := e3 b ((mem b).mpr ⟨hb, hm.symm⟩)
  have : ns = b := rv_inj (List.le_antisymm k2 k3)
  rw [this] at e1
  exact ⟨r, e1⟩
theorem chosen_best {wd : Int} {ws : List Int} (W : Wd wd ws) {fs : List (List Nat)} (hfs : ∀ ns, ns ∈ fs ↔ Lay wd ws ns ws.length) {m : Int} (h1 : ∃ x ∈ fs.map (fun ns => (cost wd ws ns, ns)), x.1 = m) (h2 : ∀ y ∈ fs.map (fun ns => (cost wd ws ns, ns)), m ≤ y.1) :
    m = C wd ws (LS wd ws) ∧ L2.atI ((desc (((fs.map fun ns => (cost wd ws ns, ns)).filter fun x => decide (x.1 = m)).map (·.2))).map tN) 0 = some (tN (bestLay wd ws)) := by
  have b := best_lay W
  obtain ⟨e1, r, e2⟩ := chosen_gen (f := cost wd ws) ((hfs _).mpr b.1) (fun ns h => (best_opt W ((hfs ns).mp h)).1) (fun ns h => (best_opt W ((hfs ns).mp h)).2) h1 h2
  rw [b.2] at e1
  exact ⟨e1, by rw [e2]; exact L2.atI_nat (j := 0) rfl⟩
theorem chosen_closed {wd : Int} {ws : List Int} (W : Wd wd ws) {fs : List (List Nat)} (hfs : ∀ ns, ns ∈ fs ↔ Lay wd ws ns ws.length) {m : Int} (h1 : ∃ x ∈ fs.map (fun ns => (fc wd ws ns, ns)), x.1 = m) (h2 : ∀ y ∈ fs.map (fun ns => (fc wd ws ns, ns)), m ≤ y.1) :
    m = C wd ws ws.length ∧ L2.atI ((desc (((fs.map fun ns => (fc wd ws ns, ns)).filter fun x => decide (x.1 = m)).map (·.2))).map tN) 0 = some (tN (way wd ws ws.length)) := by
  have b := way_lay W ws.length (Nat.le_refl _)
  obtain ⟨e1, r, e2⟩ := chosen_gen (f := fc wd ws) ((hfs _).mpr b.1) (fun ns h => by rw [b.2]; exact (opt_full W ((hfs ns).mp h) (Nat.le_refl _)).1) (fun ns h e => (opt_full W ((hfs ns).mp h) (Nat.le_refl _)).2 (by rw [e, b.2])) h1 h2
  rw [b.2] at e1
  exact ⟨e1, by rw [e2]; exact L2.atI_nat (j := 0) rfl⟩
/-- what is asked of the priced layouts -/
theorem priced_side {wd : Int} {ws : List Int} (W : Wd wd ws) {fs : List (List Nat)} (f : List Nat → Int) (hfs : ∀ ns, ns ∈ fs ↔ Lay wd ws ns ws.length) (hl : fs.length ≤ 2 ^ ws.length) (h15 : ws.length ≤ 15) : (fs.map fun ns => (f ns, ns)) ≠ [] ∧ (fs.map fun ns => (f ns, ns)).length ≤ 40000 ∧ ((∀ x ∈ fs.map (fun ns => (f ns, ns)), x.2 ≠ []) ∨ ∃ x, (fs.map fun ns => (f ns, ns)) = [x]) := by
  have p : 2 ^ ws.length ≤ 2 ^ 15 := Nat.pow_le_pow_right (by decide) h15
  have hne : fs ≠ [] := List.ne_nil_of_mem ((hfs _).mpr (best_lay W).1)
  refine ⟨by simpa using hne, by rw [List.length_map]; omega, ?_⟩
  by_cases h0 : ws.length = 0
  · rw [h0] at hl
    cases fs with
    | nil => exact absurd rfl hne
    | cons a r =>
      cases r with
      | nil => exact .inr ⟨_, rfl⟩
      | cons b r => simp at hl
  · refine .inl fun x hx => ?_
    obtain ⟨ns, hn, rfl⟩ := List.mem_map.mp hx
    obtain ⟨ms, l, e, _⟩ := ((hfs ns).mp hn).ne (by omega)
    rw [e]
    simp
theorem ne_self {x : Str} {Q : Prop} (h : (!decide (x = x)) = true) : Q := by simp at h
/-! ### what is shown -/
theorem sh_row {wd : Int} {ws : List Int} (W : Wd wd ws) (h : ws.length ≤ 290) : showOk0 (.tuple (iDs ws)) := by
  refine show0 ?_ ?_ ?_
  · simp only [smallD]
    refine iDs_small fun x hx => ?_
    have := W.wrd x hx
    have := W.w2
    have b : (1000000000 : Nat) < 2 ^ 200 := by decide
    omega
  · have := iDs_nodes ws
    simp only [nodes]; omega
  · simp only [PyData.depth, iDs_depth]; omega
theorem nDs_eq (ns : List Nat) : nDs ns = iDs (ns.map fun (n : Nat) => (n : Int)) := by simp [nDs, iDs]
theorem sh_lay2 {wd : Int} {ws : List Int} {ns : List Nat} {l : Nat} (c : Lay wd ws ns l) (h : l ≤ 100) : showOk0 (.list [tN ns, tN ns]) := by
  have t := (tN_small c (by omega)).1
  have d := (tN_small c (by omega)).2
  have n : nodes (tN ns) ≤ 101 := by
    have := iDs_nodes (ns.map fun (n : Nat) => (n : Int))
    have := c.len
    simp only [nodes, nDs_eq]
    rw [List.length_map] at *
    omega
  refine show0 ?_ ?_ ?_
  · simp only [smallD, smallA, Bool.and_true, Bool.and_eq_true]
    simp only [smallD] at t
    exact ⟨t, t⟩
  · show 1 + (nodes (tN ns) + (nodes (tN ns) + 0)) ≤ 300
    omega
  · simp only [PyData.depth, PyData.depthAll] at d ⊢
    omega
theorem sh_int2 {a b : Int} (ha : a.natAbs < 2 ^ 200) (hb : b.natAbs < 2 ^ 200) : showOk0 (.list [.int a, .int b]) :=
  show0 (by simp only [smallD, smallA, Bool.and_true, Bool.and_eq_true, decide_eq_true_eq]; exact ⟨ha, hb⟩) (by simp only [nodes, nodesA]; omega) (by simp only [PyData.depth, PyData.depthAll]; omega)
theorem C_small {wd : Int} {ws : List Int} (W : Wd wd ws) {e : Nat} (he : e ≤ ws.length) : (C wd ws e).natAbs < 2 ^ 200 := by
  have h := C_bd W e he
  have := W.len
  have b : (10000000000000000000000000 : Nat) * 1000 < 2 ^ 200 := by decide
  omega
end LM

/-! LR: chains of lines, parts of texts, texts turned about. -/
namespace LM
open PySem
/-- lines from l to r -/
inductive Seg (wd : Int) (ws : List Int) : Nat → List Nat → Nat → Prop
  | nil {l : Nat} : Seg wd ws l [] l
  | cons {l h r : Nat} {ns : List Nat} : l < h → ln ws l h ≤ wd → Seg wd ws h ns r → Seg wd ws l (h :: ns) r
def sc (wd : Int) (ws : List Int) : Nat → List Nat → Int
  | _, [] => 0
  | l, h :: r => sq wd ws l h + sc wd ws h r
theorem Seg.app {wd : Int} {ws : List Int} {l m : Nat} {ns : List Nat} (a : Seg wd ws l ns m) : ∀ {ms : List Nat} {r : Nat}, Seg wd ws m ms r → Seg wd ws l (ns ++ ms) r := by
  induction a with
  | nil => exact fun h => h
  | cons h1 h2 _ ih => exact fun h => .cons h1 h2 (ih h)
theorem sc_app {wd : Int} {ws : List Int} : ∀ {ns : List Nat} {l : Nat} {ms : List Nat}, sc wd ws l (ns ++ ms) = sc wd ws l ns + sc wd ws (ns.getLastD l) ms
  | [], l, ms => by simp [sc]
  | h :: r, l, ms => by
    show sq wd ws l h + sc wd ws h (r ++ ms) = sq wd ws l h + sc wd ws h r + _
    rw [sc_app (ns := r) (l := h), List.getLastD_cons]
    omega
theorem Seg.last {wd : Int} {ws : List Int} {l r : Nat} {ns : List Nat} (a : Seg wd ws l ns r) : ns.getLastD l = r := by
  induction a with
  | nil => rfl
  | cons h1 h2 _ ih => rw [List.getLastD_cons]; exact ih
theorem Seg.le {wd : Int} {ws : List Int} {l r : Nat} {ns : List Nat} (a : Seg wd ws l ns r) : l ≤ r ∧ ns.length ≤ r - l := by
  induction a with
  | nil => exact ⟨Nat.le_refl _, Nat.zero_le _⟩
  | cons h1 h2 _ ih => exact ⟨by omega, by rw [List.length_cons]; omega⟩
theorem Seg.mem {wd : Int} {ws : List Int} {l r : Nat} {ns : List Nat} (a : Seg wd ws l ns r) : ∀ x ∈ ns, l < x ∧ x ≤ r := by
  induction a with
  | nil => intro x hx; cases hx
  | cons h1 h2 a ih =>
    intro x hx
    rcases List.mem_cons.mp hx with e | e
    · subst e; exact ⟨h1, a.le.1⟩
    · have := ih x e; omega
theorem Lay.seg {wd : Int} {ws : List Int} {ns : List Nat} {e : Nat} (c : Lay wd ws ns e) : Seg wd ws 0 ns e ∧ fc wd ws ns = sc wd ws 0 ns := by
  induction c with
  | nil => exact ⟨.nil, rfl⟩
  | @snoc ns l h c h1 h2 ih =>
    refine ⟨ih.1.app (.cons h1 h2 .nil), ?_⟩
    rw [fc_snoc, sc_app, ih.2, ih.1.last]
    simp [sc]
theorem Seg.layG {wd : Int} {ws : List Int} {l r : Nat} {ns : List Nat} (a : Seg wd ws l ns r) : ∀ {ms : List Nat}, Lay wd ws ms l → Lay wd ws (ms ++ ns) r := by
  induction a with
  | nil => intro ms h; rw [List.append_nil]; exact h
  | @cons l h r ns h1 h2 a ih => intro ms c; have := ih (c.snoc h1 h2); rwa [List.append_assoc] at this
theorem Seg.lay {wd : Int} {ws : List Int} {r : Nat} {ns : List Nat} (a : Seg wd ws 0 ns r) : Lay wd ws ns r := a.layG .nil
theorem Seg.inv {wd : Int} {ws : List Int} : ∀ {ns : List Nat} {l : Nat} {ms : List Nat} {r : Nat}, Seg wd ws l (ns ++ ms) r → Seg wd ws l ns (ns.getLastD l) ∧ Seg wd ws (ns.getLastD l) ms r
  | [], l, ms, r, a => ⟨.nil, a⟩
  | h :: t, l, ms, r, a => by
    have a' : Seg wd ws l (h :: (t ++ ms)) r := a
    cases a' with
    | cons h1 h2 b =>
      have := Seg.inv b
      rw [List.getLastD_cons]
      exact ⟨.cons h1 h2 this.1, this.2⟩
/-- two texts that have alike lines -/
theorem Seg.move {wd : Int} {ws vs : List Int} {l r : Nat} {ns : List Nat} (f : Nat → Nat) (n : Nat) (hf : ∀ i j, i < j → j ≤ n → f i < f j ∧ ln vs (f i) (f j) = ln ws i j) (a : Seg wd ws l ns r) : r ≤ n → Seg wd vs (f l) (ns.map f) (f r) ∧ sc wd vs (f l) (ns.map f) = sc wd ws l ns := by
  induction a with
  | nil => exact fun _ => ⟨.nil, rfl⟩
  | @cons l h r ns h1 h2 a ih =>
    intro hr
    have e := hf l h h1 (by have := a.le.1; omega)
    refine ⟨.cons e.1 (by rw [e.2]; exact h2) (ih hr).1, ?_⟩
    show sq wd vs (f l) (f h) + sc wd vs (f h) (ns.map f) = sq wd ws l h + sc wd ws h ns
    rw [(ih hr).2]
    unfold sq
    rw [e.2]
/-! ### lines of parts -/
theorem ln_sum (ws : List Int) {i j : Nat} (h : i ≤ j) (hj : j ≤ ws.length) : ln ws i j = ((ws.drop i).take (j - i)).sum + j - i - 1 := by
  unfold ln
  rw [sm_eq ws (j := i) (by omega), sm_eq ws hj]
  have e : ws.take j = ws.take i ++ (ws.drop i).take (j - i) := by
    have : j = i + (j - i) := by omega
    conv => lhs; rw [this, List.take_add]
  rw [e, List.sum_append]
  omega
theorem ln_take {ws : List Int} {m i j : Nat} (h : i ≤ j) (hj : j ≤ m) (hm : m ≤ ws.length) : ln (ws.take m) i j = ln ws i j := by
  rw [ln_sum ws h (by omega), ln_sum _ h (by rw [List.length_take]; omega), List.drop_take, List.take_take, Nat.min_eq_left (by omega)]
theorem ln_drop {ws : List Int} {m i j : Nat} (h : i ≤ j) (hj : j + m ≤ ws.length) : ln (ws.drop m) i j = ln ws (i + m) (j + m) := by
  rw [ln_sum ws (by omega) hj, ln_sum _ h (by rw [List.length_drop]; omega), List.drop_drop, Nat.add_comm m i, show j + m - (i + m) = j - i by omega]
  omega
theorem ln_appL {ws vs : List Int} {i j : Nat} (h : i ≤ j) (hj : j ≤ ws.length) : ln (ws ++ vs) i j = ln ws i j := by
  have := ln_take (ws := ws ++ vs) (m := ws.length) h hj (by rw [List.length_append]; omega)
  rw [List.take_left] at this
  exact this.symm
theorem ln_appR {ws vs : List Int} {i j : Nat} (h : i ≤ j) (hj : j ≤ vs.length) : ln (ws ++ vs) (i + ws.length) (j + ws.length) = ln vs i j := by
  have := ln_drop (ws := ws ++ vs) (m := ws.length) h (by rw [List.length_append]; omega)
  rw [List.drop_left] at this
  exact this.symm
theorem ln_rev {ws : List Int} {i j : Nat} (h : i ≤ j) (hj : j ≤ ws.length) : ln ws.reverse (ws.length - j) (ws.length - i) = ln ws i j := by
  rw [ln_sum ws h hj, ln_sum _ (by omega) (by rw [List.length_reverse]; omega)]
  have e : ((ws.reverse.drop (ws.length - j)).take (ws.length - i - (ws.length - j))).sum = ((ws.drop i).take (j - i)).sum := by
    rw [show ws.length - i - (ws.length - j) = j - i by omega]
    have e1 : ws.reverse.drop (ws.length - j) = (ws.take j).reverse := by
      rw [List.reverse_take]
    rw [e1, List.take_reverse, List.length_take, Nat.min_eq_left hj, show j - (j - i) = i by omega, List.drop_take, List.sum_reverse]
  rw [e]
  omega
theorem Wd.take {wd : Int} {ws : List Int} (W : Wd wd ws) (m : Nat) : Wd wd (ws.take m) := ⟨W.w1, W.w2, by rw [List.length_take]; have := W.len; omega, fun x hx => W.wrd x (List.mem_of_mem_take hx)⟩
theorem Wd.drop {wd : Int} {ws : List Int} (W : Wd wd ws) (m : Nat) : Wd wd (ws.drop m) := ⟨W.w1, W.w2, by rw [List.length_drop]; have := W.len; omega, fun x hx => W.wrd x (List.mem_of_mem_drop hx)⟩
theorem Wd.rev {wd : Int} {ws : List Int} (W : Wd wd ws) : Wd wd ws.reverse := ⟨W.w1, W.w2, by rw [List.length_reverse]; exact W.len, fun x hx => W.wrd x (List.mem_reverse.mp hx)⟩
theorem Wd.app {wd : Int} {ws vs : List Int} (W : Wd wd ws) (h : ws.length + vs.length ≤ 1000) (hv : ∀ x ∈ vs, 1 ≤ x ∧ x ≤ wd) : Wd wd (ws ++ vs) := ⟨W.w1, W.w2, by rw [List.length_append]; exact h, fun x hx => (List.mem_append.mp hx).elim (W.wrd x) (hv x)⟩
/-! ### the table of a text is that of each text that begins so -/
theorem bgF_congr {wd : Int} {ws vs : List Int} {e : Nat} (h : ∀ i, i < e → ln ws i e = ln vs i e) : ∀ m, m ≤ e → bgF wd ws e m = bgF wd vs e m
  | 0, _ => rfl
  | m + 1, hm => by
    show (if ln ws m e ≤ wd then m :: bgF wd ws e m else []) = (if ln vs m e ≤ wd then m :: bgF wd vs e m else [])
    rw [h m (by omega), bgF_congr h m (by omega)]
theorem bg_congr {wd : Int} {ws vs : List Int} {e : Nat} (h : ∀ i, i < e → ln ws i e = ln vs i e) : bg wd ws e = bg wd vs e := bgF_congr h e (Nat.le_refl e)
theorem best_congr {f g : Nat → Int} {bs : List Nat} (h : ∀ b ∈ bs, f b = g b) : best f bs = best g bs := by
  unfold best
  rw [List.map_congr_left (fun b hb => by rw [h b hb])]
theorem bgF_lt {wd : Int} {ws : List Int} {e : Nat} : ∀ {m b : Nat}, b ∈ bgF wd ws e m → b < m
  | 0, b, h => by cases h
  | m + 1, b, h => by
    have h : b ∈ (if ln ws m e ≤ wd then m :: bgF wd ws e m else []) := h
    split at h
    · rcases List.mem_cons.mp h with z | z
      · omega
      · have := bgF_lt z; omega
    · cases h
theorem tab_congr {wd : Int} {ws vs : List Int} : ∀ n, (∀ i j, i < j → j ≤ n → ln ws i j = ln vs i j) → tab wd ws n = tab wd vs n
  | 0, _ => rfl
  | n + 1, h => by
    have ih := tab_congr (wd := wd) n fun i j h1 h2 => h i j h1 (by omega)
    have e1 : bg wd ws (n + 1) = bg wd vs (n + 1) := bg_congr fun i hi => h i (n + 1) hi (Nat.le_refl _)
    have e2 : best (fun b => ((tab wd ws n).getD b (0, 0)).1 + sq wd ws b (n + 1)) (bg wd ws (n + 1)) = best (fun b => ((tab wd vs n).getD b (0, 0)).1 + sq wd vs b (n + 1)) (bg wd vs (n + 1)) := by
      rw [ih, e1]
      refine best_congr fun b hb => ?_
      unfold sq
      rw [h b (n + 1) (bgF_lt hb) (Nat.le_refl _)]
    show tab wd ws n ++ [((best (fun b => ((tab wd ws n).getD b (0, 0)).1 + sq wd ws b (n + 1)) (bg wd ws (n + 1))).1, (-(best (fun b => ((tab wd ws n).getD b (0, 0)).1 + sq wd ws b (n + 1)) (bg wd ws (n + 1))).2).toNat)] = tab wd vs n ++ [((best (fun b => ((tab wd vs n).getD b (0, 0)).1 + sq wd vs b (n + 1)) (bg wd vs (n + 1))).1, (-(best (fun b => ((tab wd vs n).getD b (0, 0)).1 + sq wd vs b (n + 1)) (bg wd vs (n + 1))).2).toNat)]
    rw [e2, ih]
theorem CB_congr {wd : Int} {ws vs : List Int} {n : Nat} (h : ∀ i j, i < j → j ≤ n → ln ws i j = ln vs i j) {e : Nat} (he : e ≤ n) : C wd ws e = C wd vs e ∧ B wd ws e = B wd vs e := by
  unfold C B
  rw [tab_congr e fun i j h1 h2 => h i j h1 (by omega)]
  exact ⟨rfl, rfl⟩
theorem wayN_congr {f g : Nat → Nat} {n : Nat} (h : ∀ e, e ≤ n → f e = g e) (hf : ∀ e, 0 < e → e ≤ n → f e < e) : ∀ k e, e ≤ n → wayN f k e = wayN g k e
  | 0, _, _ => rfl
  | k + 1, e, he => by
    show (if e = 0 then [] else wayN f k (f e) ++ [e]) = (if e = 0 then [] else wayN g k (g e) ++ [e])
    by_cases h0 : e = 0
    · rw [if_pos h0, if_pos h0]
    · rw [if_neg h0, if_neg h0, ← h e he, wayN_congr h hf k (f e) (by have := hf e (by omega) he; omega)]
theorem way_congr {wd : Int} {ws vs : List Int} (W : Wd wd ws) {n : Nat} (hn : n ≤ ws.length) (h : ∀ i j, i < j → j ≤ n → ln ws i j = ln vs i j) {e : Nat} (he : e ≤ n) : way wd ws e = way wd vs e :=
  wayN_congr (n := n) (fun e he => (CB_congr h he).2) (fun e h0 h1 => (CB_at W h0 (by omega)).1) e e he
/-- parts in front -/
theorem C_take {wd : Int} {ws : List Int} (W : Wd wd ws) {m e : Nat} (hm : m ≤ ws.length) (he : e ≤ m) : C wd (ws.take m) e = C wd ws e ∧ B wd (ws.take m) e = B wd ws e ∧ way wd (ws.take m) e = way wd ws e := by
  have h : ∀ i j, i < j → j ≤ m → ln (ws.take m) i j = ln ws i j := fun i j h1 h2 => ln_take (by omega) h2 hm
  have c := CB_congr (wd := wd) h he
  exact ⟨c.1, c.2, way_congr (W.take m) (by rw [List.length_take]; omega) h he⟩
/-- the first ends of a way are a way -/
theorem way_pre {wd : Int} {ws : List Int} (W : Wd wd ws) : ∀ e, e ≤ ws.length → ∀ k x, (way wd ws e)[k]? = some x → (way wd ws e).take (k + 1) = way wd ws x := by
  intro e
  induction e using Nat.strongRecOn with
  | _ e ih =>
    intro he k x hx
    rcases Nat.eq_zero_or_pos e with h0 | h0
    · subst h0; rw [way0] at hx; cases hx
    · have s := way_step W h0 he
      have hb := (CB_at W h0 he).1
      rw [s] at hx ⊢
      by_cases hk : k < (way wd ws (B wd ws e)).length
      · rw [List.getElem?_append_left hk] at hx
        rw [List.take_append_of_le_length (by omega)]
        exact ih _ hb (by omega) k x hx
      · rw [List.getElem?_append_right (by omega)] at hx
        have hk2 : k = (way wd ws (B wd ws e)).length := by
          have := (List.getElem?_eq_some_iff.mp hx).1
          rw [List.length_singleton] at this
          omega
        rw [hk2, Nat.sub_self] at hx
        have ex : e = x := by simpa using hx
        subst ex
        rw [List.take_of_length_le (by rw [List.length_append, List.length_singleton]; omega)]
        exact s.symm
/-! ### turned about -/
/-- the ends of the lines from the back -/
def trn (ns : List Nat) : List Nat := if ns = [] then [] else ((0 :: ns.dropLast).reverse).map fun x => ns.getLastD 0 - x
def rvs (n : Nat) : Nat → List Nat → List Nat
  | _, [] => []
  | l, h :: t => rvs n h t ++ [n - l]
theorem rvs_eq (n : Nat) : ∀ (ns : List Nat) (l : Nat), rvs n l ns = ((l :: ns).dropLast.reverse).map fun x => n - x
  | [], l => rfl
  | h :: t, l => by
    show rvs n h t ++ [n - l] = _
    rw [rvs_eq n t h]
    show _ = ((l :: (h :: t).dropLast).reverse).map fun x => n - x
    rw [List.reverse_cons, List.map_append]
    rfl
theorem trn_rvs {ns : List Nat} : trn ns = rvs (ns.getLastD 0) 0 ns := by
  cases ns with
  | nil => rfl
  | cons h t =>
    unfold trn
    rw [if_neg (List.cons_ne_nil _ _), rvs_eq]
    rfl
theorem Seg.rev {wd : Int} {ws : List Int} {l r : Nat} {ns : List Nat} (a : Seg wd ws l ns r) : r ≤ ws.length → Seg wd ws.reverse (ws.length - r) (rvs ws.length l ns) (ws.length - l) ∧ sc wd ws.reverse (ws.length - r) (rvs ws.length l ns) = sc wd ws l ns := by
  induction a with
  | nil => exact fun _ => ⟨.nil, rfl⟩
  | @cons l h r ns h1 h2 a ih =>
    intro hr
    have hle := a.le.1
    have e := ln_rev (ws := ws) (i := l) (j := h) (by omega) (by omega)
    obtain ⟨i1, i2⟩ := ih hr
    show Seg wd ws.reverse _ (rvs ws.length h ns ++ [ws.length - l]) _ ∧ sc wd ws.reverse _ (rvs ws.length h ns ++ [ws.length - l]) = _
    refine ⟨i1.app (.cons (by omega) (by rw [e]; exact h2) .nil), ?_⟩
    rw [sc_app, i1.last, i2]
    show sc wd ws h ns + (sq wd ws.reverse (ws.length - h) (ws.length - l) + 0) = sq wd ws l h + sc wd ws h ns
    unfold sq
    rw [e]
    omega
theorem Lay.trn {wd : Int} {ws : List Int} {ns : List Nat} (c : Lay wd ws ns ws.length) : Lay wd ws.reverse (trn ns) ws.reverse.length ∧ fc wd ws.reverse (trn ns) = fc wd ws ns := by
  have s := c.seg
  have r := s.1.rev (Nat.le_refl _)
  rw [Nat.sub_self, Nat.sub_zero] at r
  have e : LM.trn ns = rvs ws.length 0 ns := by rw [trn_rvs, c.last]
  rw [e, List.length_reverse]
  have l := r.1.lay
  exact ⟨l, by rw [l.seg.2, r.2, s.2]⟩
theorem trn_trn {wd : Int} {ws : List Int} {ns : List Nat} {n : Nat} (c : Lay wd ws ns n) : trn (trn ns) = ns := by
  rcases Nat.eq_zero_or_pos n with h0 | h0
  · subst h0; rw [c.zero]; rfl
  · obtain ⟨ms, l, rfl, c1, _⟩ := c.ne h0
    have hm : ∀ x ∈ ms, x ≤ n := fun x hx => (c.mem x (List.mem_append_left _ hx)).2
    have e1 : ∀ ms : List Nat, trn (ms ++ [n]) = ms.reverse.map (fun x => n - x) ++ [n] := fun ms => by
      unfold trn
      rw [if_neg (by simp), List.dropLast_concat, List.reverse_cons, List.map_append]
      simp
    rw [e1, e1, ← List.map_reverse, List.reverse_reverse, List.map_map]
    congr 1
    rw [List.map_congr_left (g := id) (fun x hx => by have := hm x hx; simp only [Function.comp, id]; omega), List.map_id]
theorem C_le_fc {wd : Int} {ws : List Int} (W : Wd wd ws) {ns : List Nat} (c : Lay wd ws ns ws.length) : C wd ws ws.length ≤ fc wd ws ns := (opt_full W c (Nat.le_refl _)).1
theorem C_rev {wd : Int} {ws : List Int} (W : Wd wd ws) : C wd ws.reverse ws.reverse.length = C wd ws ws.length := by
  obtain ⟨a1, a2⟩ := way_lay W ws.length (Nat.le_refl _)
  obtain ⟨b1, b2⟩ := way_lay W.rev ws.reverse.length (Nat.le_refl _)
  have a := a1.trn
  have b := b1.trn
  rw [List.reverse_reverse] at b
  have i := C_le_fc W.rev a.1
  have j := C_le_fc W b.1
  rw [a.2, a2] at i
  rw [b.2, b2] at j
  omega
end LM

/-! LS: words of the width; parts of best layouts. -/
namespace LM
open PySem
theorem best_le_closed {wd : Int} {ws : List Int} (W : Wd wd ws) : C wd ws (LS wd ws) ≤ C wd ws ws.length := by
  by_cases h : ws.length = 0
  · have e : LS wd ws = 0 := by unfold LS; rw [if_pos h]
    rw [e, h]; exact Int.le_refl _
  · obtain ⟨h1, h2, h3, h4⟩ := LS_at W (by omega)
    obtain ⟨b1, b2, b3, _⟩ := CB_at W (e := ws.length) (by omega) (Nat.le_refl _)
    have := h4 _ b1 b2
    have := (sq_bd W (i := B wd ws ws.length) (j := ws.length) (by omega) (Nat.le_refl _)).1
    omega
theorem wide_line {wd : Int} {ws : List Int} (W : Wd wd ws) {i j : Nat} (hi : i + 1 < j) (hj : j ≤ ws.length) (h : ws[j - 1]? = some wd) : wd < ln ws i j := by
  have a := sm_mono W (i := i) (j := j - 1) (by omega) (by omega)
  have b := sm_succ ws (j := j - 1) (by omega)
  have e : ws[j - 1]'(by omega) = wd := (List.getElem?_eq_some_iff.mp h).2
  rw [show j - 1 + 1 = j by omega, e] at b
  unfold ln
  have := a.1
  have := W.w1
  omega
theorem wide_line2 {wd : Int} {ws : List Int} (W : Wd wd ws) {i j : Nat} (hi : i + 1 < j) (hj : j ≤ ws.length) (h : ws[i]? = some wd) : wd < ln ws i j := by
  have a := sm_mono W (i := i + 1) (j := j) (by omega) (by omega)
  have b := sm_succ ws (j := i) (by omega)
  have e : ws[i]'(by omega) = wd := (List.getElem?_eq_some_iff.mp h).2
  rw [e] at b
  unfold ln
  have := a.1
  have := W.w1
  omega
theorem Wd.snocW {wd : Int} {ws : List Int} (W : Wd wd ws) {x : Int} (h : ws.length + 1 ≤ 1000) (h1 : 1 ≤ x) (h2 : x ≤ wd) : Wd wd (ws ++ [x]) := W.app h fun y hy => by rw [List.mem_singleton.mp hy]; exact ⟨h1, h2⟩
theorem Wd.consW {wd : Int} {ws : List Int} (W : Wd wd ws) {x : Int} (h : ws.length + 1 ≤ 1000) (h1 : 1 ≤ x) (h2 : x ≤ wd) : Wd wd ([x] ++ ws) := ⟨W.w1, W.w2, h, fun y hy => (List.mem_cons.mp hy).elim (fun e => by rw [e]; exact ⟨h1, h2⟩) (W.wrd y)⟩
/-- a word of the width behind -/
theorem LS_wide {wd : Int} {ws : List Int} (W : Wd wd ws) (h : ws.length + 1 ≤ 1000) : LS wd (ws ++ [wd]) = ws.length ∧ C wd (ws ++ [wd]) (LS wd (ws ++ [wd])) = C wd ws ws.length := by
  have W' := W.snocW h W.w1 (Int.le_refl wd)
  have hl : (ws ++ [wd]).length = ws.length + 1 := by simp
  obtain ⟨h1, h2, h3, h4⟩ := LS_at W' (by omega)
  have e : LS wd (ws ++ [wd]) = ws.length := by
    by_cases c : LS wd (ws ++ [wd]) = ws.length
    · exact c
    · exact absurd h2 (Int.not_le.mpr (wide_line W' (by omega) (Nat.le_refl _) (by rw [hl]; simp)))
  refine ⟨e, ?_⟩
  rw [e]
  exact (CB_congr (n := ws.length) (fun i j h1 h2 => ln_appL (by omega) h2) (Nat.le_refl _)).1
theorem C_wideL {wd : Int} {ws : List Int} (W : Wd wd ws) (h : ws.length + 1 ≤ 1000) : C wd ([wd] ++ ws) ([wd] ++ ws).length = C wd ws ws.length := by
  have W' := W.consW h W.w1 (Int.le_refl wd)
  have hl : ([wd] ++ ws).length = ws.length + 1 := by simp
  have mv : ∀ i j, i < j → j ≤ ws.length → i + 1 < j + 1 ∧ ln ([wd] ++ ws) (i + 1) (j + 1) = ln ws i j := fun i j h1 h2 => ⟨by omega, ln_appR (ws := [wd]) (vs := ws) (by omega) h2⟩
  have mb : ∀ i j, i < j → j ≤ ws.length + 1 → i - 1 < j - 1 ∨ i = 0 := fun i j h1 h2 => by omega
  have l01 : ln ([wd] ++ ws) 0 1 = wd := by have := ln_one W' (j := 0) (by omega); simpa using this
  have s01 : sq wd ([wd] ++ ws) 0 1 = 0 := by unfold sq; rw [l01, Int.sub_self]; rfl
  obtain ⟨a1, a2⟩ := way_lay W ws.length (Nat.le_refl _)
  obtain ⟨b1, b2⟩ := way_lay W' ([wd] ++ ws).length (Nat.le_refl _)
  have a := a1.seg
  have m := a.1.move (vs := [wd] ++ ws) (· + 1) ws.length mv (Nat.le_refl _)
  have s : Seg wd ([wd] ++ ws) 0 (1 :: (way wd ws ws.length).map (· + 1)) ([wd] ++ ws).length := .cons (by omega) (by rw [l01]; exact Int.le_refl _) (by rw [hl]; exact m.1)
  have i1 := C_le_fc W' s.lay
  rw [s.lay.seg.2] at i1
  have e1 : sc wd ([wd] ++ ws) 0 (1 :: (way wd ws ws.length).map (· + 1)) = C wd ws ws.length := by
    show sq wd ([wd] ++ ws) 0 1 + sc wd ([wd] ++ ws) 1 _ = _
    have := m.2
    rw [s01, this, ← a.2, a2]
    omega
  rw [e1] at i1
  have b := b1.seg
  have key : C wd ws ws.length ≤ fc wd ([wd] ++ ws) (way wd ([wd] ++ ws) ([wd] ++ ws).length) := by
    rw [b.2]
    have bs := b.1
    generalize way wd ([wd] ++ ws) ([wd] ++ ws).length = ns at bs
    cases ns with
    | nil => cases bs
    | cons x r =>
      cases bs with
      | cons h1 h2 c =>
        have hx : x = 1 := by
          have := c.le.1
          by_cases z : x = 1
          · exact z
          · exact absurd h2 (Int.not_le.mpr (wide_line2 W' (by omega) this (by simp)))
        subst hx
        have hn : ∀ y ∈ r, 1 < y ∧ y ≤ ([wd] ++ ws).length := c.mem
        have mk : ∀ {l : Nat} {r : List Nat} {e : Nat}, Seg wd ([wd] ++ ws) l r e → 1 ≤ l → e ≤ ws.length + 1 → Seg wd ws (l - 1) (r.map (· - 1)) (e - 1) ∧ sc wd ws (l - 1) (r.map (· - 1)) = sc wd ([wd] ++ ws) l r := by
          intro l r e c
          induction c with
          | nil => exact fun _ _ => ⟨.nil, rfl⟩
          | @cons l h e ns g1 g2 c ih =>
            intro hl he
            have hle := c.le.1
            have q := (mv (l - 1) (h - 1) (by omega) (by omega)).2
            rw [show l - 1 + 1 = l by omega, show h - 1 + 1 = h by omega] at q
            obtain ⟨i1, i2⟩ := ih (by omega) he
            show Seg wd ws (l - 1) ((h - 1) :: ns.map (· - 1)) (e - 1) ∧ _
            refine ⟨.cons (by omega) (by rw [← q]; exact g2) i1, ?_⟩
            show sq wd ws (l - 1) (h - 1) + sc wd ws (h - 1) (ns.map (· - 1)) = sq wd ([wd] ++ ws) l h + sc wd ([wd] ++ ws) h ns
            rw [i2]
            unfold sq
            rw [q]
        obtain ⟨k1, k2⟩ := mk c (Nat.le_refl _) (by omega)
        have hr : ([wd] ++ ws).length - 1 = ws.length := by omega
        rw [hr] at k1
        have j := C_le_fc W k1.lay
        rw [k1.lay.seg.2] at j
        show _ ≤ sq wd ([wd] ++ ws) 0 1 + sc wd ([wd] ++ ws) 1 r
        rw [s01, ← k2]
        simp only [Nat.sub_self] at j ⊢
        omega
  rw [b2] at key
  omega
theorem ln_all_rev {ws : List Int} : ln ws.reverse 0 ws.length = ln ws 0 ws.length := by
  have := ln_rev (ws := ws) (i := 0) (j := ws.length) (by omega) (Nat.le_refl _)
  rwa [Nat.sub_self, Nat.sub_zero] at this
end LM

/-! LT: what is behind an end of a best layout; begins of a last line. -/
namespace LM
open PySem
theorem Seg.down {wd : Int} {ws vs : List Int} {d n : Nat} (hq : ∀ i j, i < j → j + d ≤ n → ln vs i j = ln ws (i + d) (j + d)) {l r : Nat} {ns : List Nat} (c : Seg wd ws l ns r) : d ≤ l → r ≤ n → Seg wd vs (l - d) (ns.map (· - d)) (r - d) ∧ sc wd vs (l - d) (ns.map (· - d)) = sc wd ws l ns := by
  induction c with
  | nil => exact fun _ _ => ⟨.nil, rfl⟩
  | @cons l h e ns g1 g2 c ih =>
    intro hl he
    have hle := c.le.1
    have q := hq (l - d) (h - d) (by omega) (by omega)
    rw [show l - d + d = l by omega, show h - d + d = h by omega] at q
    obtain ⟨i1, i2⟩ := ih (by omega) he
    show Seg wd vs (l - d) ((h - d) :: ns.map (· - d)) (e - d) ∧ _
    refine ⟨.cons (by omega) (by rw [q]; exact g2) i1, ?_⟩
    show sq wd vs (l - d) (h - d) + sc wd vs (h - d) (ns.map (· - d)) = sq wd ws l h + sc wd ws h ns
    rw [i2]
    unfold sq
    rw [q]
theorem Seg.up {wd : Int} {ws vs : List Int} {d n : Nat} (hq : ∀ i j, i < j → j + d ≤ n → ln vs i j = ln ws (i + d) (j + d)) {l r : Nat} {ns : List Nat} (c : Seg wd vs l ns r) : r + d ≤ n → Seg wd ws (l + d) (ns.map (· + d)) (r + d) ∧ sc wd ws (l + d) (ns.map (· + d)) = sc wd vs l ns := by
  induction c with
  | nil => exact fun _ => ⟨.nil, rfl⟩
  | @cons l h e ns g1 g2 c ih =>
    intro he
    have hle := c.le.1
    have q := hq l h g1 (by omega)
    obtain ⟨i1, i2⟩ := ih he
    show Seg wd ws (l + d) ((h + d) :: ns.map (· + d)) (e + d) ∧ _
    refine ⟨.cons (by omega) (by rw [← q]; exact g2) i1, ?_⟩
    show sq wd ws (l + d) (h + d) + sc wd ws (h + d) (ns.map (· + d)) = sq wd vs l h + sc wd vs h ns
    rw [i2]
    unfold sq
    rw [q]
theorem cost_sc {wd : Int} {ws : List Int} {ns : List Nat} {e : Nat} (c : Lay wd ws ns e) : cost wd ws ns = sc wd ws 0 ns.dropLast := by
  cases c with
  | nil => rfl
  | @snoc ns l h c h1 h2 => rw [cost_snoc, c.seg.2, List.dropLast_concat]
theorem lex_app {p : List Int} (d : Int) : ∀ {a b : List Int}, (∀ y ∈ b, ∀ z ∈ p, z < y + d) → a < b → a.map (· + d) ++ p < b.map (· + d) ++ p
  | a, [], _, h => absurd h (List.not_lt_nil a)
  | [], y :: b, hz, _ => by
    show p < (y + d) :: (b.map (· + d) ++ p)
    cases p with
    | nil => exact List.nil_lt_cons ..
    | cons z p => exact List.cons_lt_cons_iff.mpr (.inl (hz y List.mem_cons_self z List.mem_cons_self))
  | x :: a, y :: b, hz, h => by
    show (x + d) :: (a.map (· + d) ++ p) < (y + d) :: (b.map (· + d) ++ p)
    rw [List.cons_lt_cons_iff] at h ⊢
    rcases h with h | ⟨h, h2⟩
    · exact .inl (by omega)
    · exact .inr ⟨by omega, lex_app d (fun y' hy => hz y' (List.mem_cons_of_mem _ hy)) h2⟩
theorem rv_app (a b : List Nat) : rv (a ++ b) = rv b ++ rv a := by unfold rv; rw [List.reverse_append, List.map_append]
theorem rv_up (a : List Nat) (d : Nat) : rv (a.map (· + d)) = (rv a).map (· + (d : Int)) := by
  unfold rv
  rw [← List.map_reverse, List.map_map, List.map_map]
  refine List.map_congr_left fun x _ => ?_
  simp
theorem map_down_up {a : List Nat} {d : Nat} (h : ∀ x ∈ a, d ≤ x) : (a.map (· - d)).map (· + d) = a := by
  rw [List.map_map]
  conv => rhs; rw [← List.map_id a]
  exact List.map_congr_left fun x hx => by have := h x hx; simp only [Function.comp, id]; omega
/-- what is behind an end of the best layout is the best layout of the words there -/
theorem best_drop {wd : Int} {ws : List Int} (W : Wd wd ws) {pre suf : List Nat} (h : bestLay wd ws = pre ++ suf) (hs : suf ≠ []) :
    pre.getLastD 0 < ws.length ∧ (∀ x ∈ suf, pre.getLastD 0 < x ∧ x ≤ ws.length) ∧ suf.map (· - pre.getLastD 0) = bestLay wd (ws.drop (pre.getLastD 0)) ∧ C wd ws (pre.getLastD 0) + C wd (ws.drop (pre.getLastD 0)) (LS wd (ws.drop (pre.getLastD 0))) = C wd ws (LS wd ws) := by
  obtain ⟨bl, bc⟩ := best_lay W
  rw [h] at bl bc
  obtain ⟨s1, s2⟩ := Seg.inv bl.seg.1
  generalize hf : pre.getLastD 0 = f at s1 s2
  have hm := s2.mem
  have hlt : f < ws.length := by
    obtain ⟨x, hx⟩ := List.exists_mem_of_ne_nil _ hs
    have := hm x hx; omega
  have hdl : (ws.drop f).length = ws.length - f := List.length_drop
  have hq : ∀ i j, i < j → j + f ≤ ws.length → ln (ws.drop f) i j = ln ws (i + f) (j + f) := fun i j h1 h2 => ln_drop (by omega) h2
  -- costs of what is put together
  have price : ∀ ms, Lay wd (ws.drop f) ms (ws.drop f).length → Lay wd ws (pre ++ ms.map (· + f)) ws.length ∧ cost wd ws (pre ++ ms.map (· + f)) = sc wd ws 0 pre + cost wd (ws.drop f) ms := fun ms c => by
    have u := c.seg.1.up hq (by omega)
    rw [hdl, Nat.zero_add, show ws.length - f + f = ws.length by omega] at u
    have L := (s1.app u.1).lay
    refine ⟨L, ?_⟩
    obtain ⟨ms0, l, rfl, c0, hl, _⟩ := c.ne (by omega)
    rw [cost_sc L, cost_sc c, List.dropLast_concat, List.map_append]
    show sc wd ws 0 (pre ++ (ms0.map (· + f) ++ [(ws.drop f).length + f])).dropLast = _
    rw [← List.append_assoc, List.dropLast_concat, sc_app, hf]
    have u0 := c0.seg.1.up hq (by omega)
    rw [Nat.zero_add] at u0
    rw [u0.2]
  have hdn : (suf.map (· - f)).map (· + f) = suf := map_down_up fun x hx => by have := hm x hx; omega
  have dn := s2.down hq (Nat.le_refl _) (Nat.le_refl _)
  rw [Nat.sub_self, ← hdl] at dn
  have Ld := dn.1.lay
  have pd := price _ Ld
  rw [hdn] at pd
  have WD := W.drop f
  have eq : suf.map (· - f) = bestLay wd (ws.drop f) := by
    refine only_best WD Ld (fun ms c => ?_) fun ms c e => ?_
    · have o := (best_opt W (price ms c).1).1
      rw [h, (price ms c).2, pd.2] at o
      omega
    · have o := (best_opt W (price ms c).1).2
      rw [h, (price ms c).2, pd.2] at o
      have o := o (by rw [e])
      rw [← hdn, rv_app, rv_app, rv_up, rv_up] at o
      refine List.not_lt.mp fun lt => ?_
      refine List.not_lt.mpr o (lex_app (f : Int) (fun y hy z hz => ?_) lt)
      unfold rv at hy hz
      obtain ⟨y', hy', rfl⟩ := List.mem_map.mp hy
      obtain ⟨z', hz', rfl⟩ := List.mem_map.mp hz
      have a1 := c.mem y' (List.mem_reverse.mp hy')
      have a2 := s1.mem z' (List.mem_reverse.mp hz')
      omega
  refine ⟨hlt, hm, eq, ?_⟩
  have bd := best_lay WD
  rw [← eq] at bd
  rw [← bd.2, ← bc, pd.2]
  have hc : sc wd ws 0 pre = C wd ws f := by
    rcases List.eq_nil_or_concat pre with e | ⟨p0, x, e⟩
    · subst e; subst hf; rfl
    · rw [List.concat_eq_append] at e
      subst e
      have hx : x = f := by rw [← hf]; simp
      subst hx
      -- a beginning of the way
      have hb : bestLay wd ws = way wd ws (LS wd ws) ++ [ws.length] := by unfold bestLay; rw [if_neg (by omega)]
      obtain ⟨s0, y, e2⟩ : ∃ s0 y, suf = s0 ++ [y] := ⟨suf.dropLast, suf.getLast hs, (List.dropLast_concat_getLast hs).symm⟩
      rw [h, e2, ← List.append_assoc] at hb
      have hw := (List.append_inj' hb rfl).1
      have hk : (way wd ws (LS wd ws))[p0.length]? = some x := by rw [← hw]; simp
      have ht := way_pre W _ (LS_le W) _ _ hk
      rw [← hw, List.append_assoc, List.take_append, List.take_of_length_le (by simp)] at ht
      have ht : p0 ++ [x] = way wd ws x := by
        rw [← ht]
        simp
      have hw2 := way_lay W x (by omega)
      rw [← ht] at hw2
      rw [← hw2.2, hw2.1.seg.2]
  rw [hc]
/-- begins of the last line -/
theorem best_eq {f : Nat → Int} {bs : List Nat} {b : Nat} (hb : b ∈ bs) (h : ∀ c ∈ bs, f b < f c ∨ (f b = f c ∧ c ≤ b)) : best f bs = (f b, -(b : Int)) := by
  obtain ⟨b', hb', e, h'⟩ := best_spec f (List.ne_nil_of_mem hb)
  have := h b' hb'
  have := h' b hb
  have e1 : b = b' := by omega
  rw [e, e1]
theorem last_range {wd : Int} {ws : List Int} (W : Wd wd ws) {lo : Nat} (h0 : lo < ws.length) (h1 : ln ws lo ws.length ≤ wd) (h2 : lo = 0 ∨ ¬ ln ws (lo - 1) ws.length ≤ wd) :
    best (C wd ws) ((List.range (ws.length - lo)).map (lo + ·)) = (C wd ws (LS wd ws), -(LS wd ws : Int)) := by
  obtain ⟨l1, l2, l3, l4⟩ := LS_at W (by omega)
  refine best_eq (List.mem_map.mpr ⟨LS wd ws - lo, List.mem_range.mpr (by omega), ?_⟩) fun c hc => ?_
  · rcases h2 with z | z
    · omega
    · have : lo ≤ LS wd ws := by
        by_cases g : lo ≤ LS wd ws
        · exact g
        · exact absurd (Int.le_trans (ln_anti W (i := LS wd ws) (i' := lo - 1) (j := ws.length) (by omega) (by omega) (Nat.le_refl _)) l2) z
      omega
  · obtain ⟨i, hi, rfl⟩ := List.mem_map.mp hc
    have hi := List.mem_range.mp hi
    exact l4 _ (by omega) (Int.le_trans (ln_anti W (i := lo) (i' := lo + i) (by omega) (by omega) (Nat.le_refl _)) h1)
open L2 QL in
theorem cut_to {α : Type} (f : α → PyData) (xs : List α) (j : Nat) (hj : j ≤ xs.length) : cutD (xs.map f) none (some (j : Int)) = (xs.take j).map f := by
  rw [QL.cutD_map]
  have h1 : HT.sIx xs.length 0 none = 0 := rfl
  rw [h1, HT.sIx_nat, Nat.min_eq_left hj, List.drop_zero, Nat.sub_zero]
open L2 QL in
theorem cut_from {α : Type} (f : α → PyData) (xs : List α) (i : Nat) (hi : i ≤ xs.length) : cutD (xs.map f) (some (i : Int)) none = (xs.drop i).map f := by
  rw [QL.cutD_map]
  have h1 : HT.sIx xs.length xs.length none = xs.length := rfl
  rw [h1, HT.sIx_nat, Nat.min_eq_left hi, List.take_of_length_le (by rw [List.length_drop]; omega)]
open L2 QL in
theorem range_from (lo n : Nat) : rangeD (lo : Int) (n - lo) = ((List.range (n - lo)).map (lo + ·)).map fun (b : Nat) => PyData.int (b : Int) := by
  unfold rangeD
  rw [List.map_map]
  refine List.map_congr_left fun x _ => ?_
  show PyData.int ((lo : Int) + (x : Int)) = PyData.int ((lo + x : Nat) : Int)
  rw [Int.natCast_add]
theorem atI_neg2 {α : Type} (xs : List α) (x y : α) : L2.atI (xs ++ [x, y]) (-2) = some x := by
  have hl : (xs ++ [x, y]).length = xs.length + 2 := by simp
  have e : L2.ixN (xs ++ [x, y]).length (-2) = some xs.length := by
    unfold L2.ixN
    rw [hl, if_neg (by decide), if_pos (by omega)]
    congr 1
    omega
  unfold L2.atI
  rw [e]
  simp
theorem way_last {wd : Int} {ws : List Int} (W : Wd wd ws) {e : Nat} (h0 : 0 < e) (he : e ≤ ws.length) : ∃ p0, 0 :: way wd ws e = p0 ++ [B wd ws e, e] := by
  obtain ⟨b1, _⟩ := CB_at W h0 he
  rw [way_step W h0 he]
  rcases Nat.eq_zero_or_pos (B wd ws e) with z | z
  · rw [z, way0]; exact ⟨[], rfl⟩
  · rw [way_step W (e := B wd ws e) z (by omega)]
    exact ⟨0 :: way wd ws (B wd ws (B wd ws e)), by simp⟩
theorem best_last {wd : Int} {ws : List Int} (W : Wd wd ws) (h0 : 0 < ws.length) : (1 < (bestLay wd ws).length → ∃ p0, bestLay wd ws = p0 ++ [LS wd ws, ws.length]) ∧ (¬ 1 < (bestLay wd ws).length → LS wd ws = 0) := by
  have hb : bestLay wd ws = way wd ws (LS wd ws) ++ [ws.length] := by unfold bestLay; rw [if_neg (by omega)]
  have hl := LS_le W
  rw [hb]
  rcases Nat.eq_zero_or_pos (LS wd ws) with z | z
  · rw [z, way0]; exact ⟨fun h => absurd h (by simp), fun _ => rfl⟩
  · rw [way_step W z hl]
    exact ⟨fun _ => ⟨_, by rw [List.append_assoc]; rfl⟩, fun h => absurd h (by simp)⟩
theorem take_len {ws : List Int} {m : Nat} (h : m ≤ ws.length) : (ws.take m).length = m := by rw [List.length_take, Nat.min_eq_left h]
theorem best_way {wd : Int} {ws : List Int} (W : Wd wd ws) (h0 : 0 < ws.length) : way wd (ws.take (LS wd ws)) (ws.take (LS wd ws)).length ++ [ws.length] = bestLay wd ws ∧ C wd (ws.take (LS wd ws)) (ws.take (LS wd ws)).length = C wd ws (LS wd ws) := by
  have hl := LS_le W
  have hb : bestLay wd ws = way wd ws (LS wd ws) ++ [ws.length] := by unfold bestLay; rw [if_neg (by omega)]
  obtain ⟨c1, _, c3⟩ := C_take W hl (Nat.le_refl _)
  rw [take_len hl, c1, c3, hb]
  exact ⟨rfl, rfl⟩
/-- ends of the best layout and what is behind them -/
theorem best_cut {wd : Int} {ws : List Int} (W : Wd wd ws) {k : Nat} (hk : k < (bestLay wd ws).length) : ∃ f : Nat, f < ws.length ∧ (k = 0 → f = 0) ∧ (0 < k → (bestLay wd ws)[k - 1]? = some f) ∧
    (bestLay wd (ws.drop f)).map (· + f) = (bestLay wd ws).drop k ∧ C wd (ws.take f) (ws.take f).length + C wd (ws.drop f) (LS wd (ws.drop f)) = C wd ws (LS wd ws) := by
  have hd : (bestLay wd ws).drop k ≠ [] := fun z => by have := congrArg List.length z; rw [List.length_drop] at this; simp at this; omega
  obtain ⟨h1, h2, h3, h4⟩ := best_drop W (List.take_append_drop k (bestLay wd ws)).symm hd
  refine ⟨_, h1, fun z => ?_, fun z => ?_, ?_, ?_⟩
  · rw [z]; rfl
  · rw [List.getLastD_eq_getLast?, List.getLast?_take, if_neg (by omega)]
    rw [List.getElem?_eq_getElem (by omega)]
    simp
  · rw [← h3]; exact map_down_up fun x hx => by have := h2 x hx; omega
  · rw [take_len (by omega), (C_take W (by omega : ((bestLay wd ws).take k).getLastD 0 ≤ ws.length) (Nat.le_refl _)).1]
    exact h4
theorem way_cut {wd : Int} {ws : List Int} (W : Wd wd ws) {k : Nat} (hk : k < (way wd ws ws.length).length) : ∃ f : Nat, f ≤ ws.length ∧ (way wd ws ws.length)[k]? = some f ∧ way wd (ws.take f) (ws.take f).length = (way wd ws ws.length).take (k + 1) := by
  have e := List.getElem?_eq_getElem hk
  have hm := (way_lay W ws.length (Nat.le_refl _)).1.mem _ (List.getElem_mem hk)
  refine ⟨_, hm.2, e, ?_⟩
  rw [take_len hm.2, (C_take W hm.2 (Nat.le_refl _)).2.2]
  exact (way_pre W _ (Nat.le_refl _) k _ e).symm
theorem closed_cost_last {wd : Int} {ws : List Int} (W : Wd wd ws) (h0 : 0 < ws.length) : cost wd ws (way wd ws ws.length) + (wd - ln ws (B wd ws ws.length) ws.length) ^ 2 = C wd ws ws.length := by
  obtain ⟨b1, b2, b3, _⟩ := CB_at W h0 (Nat.le_refl _)
  rw [way_step W h0 (Nat.le_refl _), cost_snoc, (way_lay W _ (by omega)).2, b3]
  rfl
end LM

/-! LU: rows of priced layouts in order; a table begun from the back of a line; the start of a future. -/
namespace LM
open PySem L2 QL
theorem eqvAll_ints (xs : List Int) : ∀ ys : List Int, PyData.eqvAll (iDs xs) (iDs ys) = decide (xs = ys) := by
  induction xs with
  | nil => intro ys; cases ys <;> simp [PyData.eqvAll]
  | cons x xs ih =>
    intro ys
    cases ys with
    | nil => simp [PyData.eqvAll]
    | cons y ys =>
      show (PyData.eqv (.int x) (.int y) && PyData.eqvAll (iDs xs) (iDs ys)) = _
      rw [ih]
      have e : PyData.eqv (.int x) (.int y) = decide (x = y) := by
        by_cases h : x = y
        · subst h; simp [PyData.eqv]
        · simp [PyData.eqv, h]
      rw [e]
      by_cases h : x = y <;> simp [h]
theorem tI_eqv (xs ys : List Int) : PyData.eqv (tI xs) (tI ys) = decide (xs = ys) := eqvAll_ints xs ys
theorem dataLt_tI (xs ys : List Int) : W.dataLt (tI xs) (tI ys) = decide (xs < ys) := by
  rw [W.dataLt_tuple]
  exact W.dataLt_ints xs ys
/-- priced rows as the laws sort them: the greater the price the earlier, then the later ends -/
abbrev enQ (x : Int × List Nat) : PyData := .tuple [.int x.1, .tuple (nDs x.2).reverse]
def leQ (x y : Int × List Nat) : Prop := x.1 < y.1 ∨ (x.1 = y.1 ∧ rv x.2 ≤ rv y.2)
theorem leQ_trans {x y z : Int × List Nat} (a : leQ x y) (b : leQ y z) : leQ x z := by
  rcases a with a | ⟨a, a2⟩ <;> rcases b with b | ⟨b, b2⟩
  · exact .inl (by omega)
  · exact .inl (by omega)
  · exact .inl (by omega)
  · exact .inr ⟨by omega, List.le_trans a2 b2⟩
theorem leQ_total (x y : Int × List Nat) : leQ x y ∨ leQ y x := by
  rcases Int.lt_or_le x.1 y.1 with h | h
  · exact .inl (.inl h)
  · rcases Int.lt_or_le y.1 x.1 with g | g
    · exact .inr (.inl g)
    · rcases List.le_total (rv x.2) (rv y.2) with z | z
      · exact .inl (.inr ⟨by omega, z⟩)
      · exact .inr (.inr ⟨by omega, z⟩)
instance (x y : Int × List Nat) : Decidable (leQ x y) := by unfold leQ; infer_instance
theorem alike_enQ (x y : Int × List Nat) : W.alike (enQ x) (enQ y) = true := by
  show (true && (W.alikeAll (nDs x.2).reverse (nDs y.2).reverse && true)) = true
  rw [← List.map_reverse, ← List.map_reverse]
  rw [show W.alikeAll (List.map (fun (n : Nat) => PyData.int (n : Int)) x.2.reverse) (List.map (fun (n : Nat) => PyData.int (n : Int)) y.2.reverse) = true from alike_nDs _ _]
  rfl
theorem dataLe_enQ (x y : Int × List Nat) : W.dataLe false id (enQ x) (enQ y) = decide (leQ x y) := by
  rw [W.dataLe_eq]
  show (!W.dataLt (enQ y) (enQ x)) = _
  have al : W.alike (.tuple (nDs y.2).reverse) (.tuple (nDs x.2).reverse) = true := by
    show W.alikeAll (nDs y.2).reverse (nDs x.2).reverse = true
    rw [← List.map_reverse, ← List.map_reverse]
    exact alike_nDs _ _
  have e : W.dataLt (enQ y) (enQ x) = _ := W.dataLt_pair (x := .int y.1) (y := .tuple (nDs y.2).reverse) (x' := .int x.1) (y' := .tuple (nDs x.2).reverse) rfl al
  rw [e, W.dataLt_int, rev_nDs, rev_nDs, tI_eqv, dataLt_tI]
  by_cases h : y.1 = x.1
  · have e1 : PyData.eqv (.int y.1) (.int x.1) = true := by rw [h]; simp [PyData.eqv]
    rw [e1, if_pos rfl]
    by_cases g : rv y.2 = rv x.2
    · rw [decide_eq_true g, if_pos rfl]
      exact (decide_eq_true (show leQ x y from .inr ⟨h.symm, by rw [g]; exact List.le_refl _⟩)).symm
    · rw [decide_eq_false g, if_neg (by decide)]
      by_cases l : rv y.2 < rv x.2
      · rw [decide_eq_true l]
        refine (decide_eq_false (show ¬ leQ x y from ?_)).symm
        rintro (z | ⟨_, z⟩)
        · omega
        · exact List.not_lt.mpr z l
      · rw [decide_eq_false l]
        exact (decide_eq_true (show leQ x y from .inr ⟨h.symm, List.not_lt.mp l⟩)).symm
  · have e1 : PyData.eqv (.int y.1) (.int x.1) = false := by simp [PyData.eqv, h]
    rw [e1, if_neg (by decide)]
    by_cases l : y.1 < x.1
    · rw [decide_eq_true l]
      refine (decide_eq_false (show ¬ leQ x y from ?_)).symm
      rintro (z | ⟨z, _⟩) <;> omega
    · rw [decide_eq_false l]
      exact (decide_eq_true (show leQ x y from .inl (by omega))).symm
/-- the last one of the sorted rows -/
theorem top_last {S : List (Int × List Nat)} (h : S ≠ []) : ∃ z R0, (S.map enQ).mergeSort (W.dataLe false id) = (R0 ++ [z]).map enQ ∧ z ∈ S ∧ (R0 ++ [z]).length = S.length ∧ ∀ y ∈ S, leQ y z := by
  have e : (S.map enQ).mergeSort (W.dataLe false id) = (S.mergeSort fun a b => decide (leQ a b)).map enQ := by
    rw [List.map_mergeSort]
    intro a _ b _
    exact (dataLe_enQ a b).symm
  have pm := List.mergeSort_perm S fun a b => decide (leQ a b)
  have pw := List.pairwise_mergeSort (le := fun a b => decide (leQ a b)) (fun a b c h1 h2 => by simp only [decide_eq_true_eq] at h1 h2 ⊢; exact leQ_trans h1 h2) (fun a b => by rcases leQ_total a b with h | h <;> simp [h]) S
  rcases List.eq_nil_or_concat (S.mergeSort fun a b => decide (leQ a b)) with z | ⟨R0, z, z2⟩
  · rw [z] at pm; exact absurd (List.nil_perm.mp pm) h
  · rw [List.concat_eq_append] at z2
    rw [z2] at pm pw e
    refine ⟨z, R0, e, pm.mem_iff.mp (List.mem_append_right _ (List.mem_singleton.mpr rfl)), pm.length_eq, fun y hy => ?_⟩
    rcases List.mem_append.mp (pm.mem_iff.mpr hy) with g | g
    · have := (List.pairwise_append.mp pw).2.2 y g z (List.mem_singleton.mpr rfl)
      simpa using this
    · rw [List.mem_singleton.mp g]
      rcases leQ_total z z with t | t <;> exact t
theorem side_enQ (S : List (Int × List Nat)) : PyData.hasDictAll (S.map enQ) = false ∧ W.AllAlike (S.map enQ) ∧ (W.Sortable (S.map enQ) ∨ ∃ d, S.map enQ = [d] ∧ d ≠ .none) ∧ ∀ d ∈ S.map enQ, d.depth ≤ 60 := by
  refine ⟨?_, fun a ha b hb => ?_, .inl (.inl fun d hd => ?_), fun d hd => ?_⟩
  · refine hasDict_map (f := enQ) (fun x => ?_) S
    show (false || (PyData.hasDictAll (nDs x.2).reverse || false)) = false
    rw [← List.map_reverse, show PyData.hasDictAll (List.map (fun (n : Nat) => PyData.int (n : Int)) x.2.reverse) = false from hasDict_map (f := fun (n : Nat) => PyData.int (n : Int)) (fun _ => rfl) _]
    rfl
  · obtain ⟨x, _, rfl⟩ := List.mem_map.mp ha
    obtain ⟨y, _, rfl⟩ := List.mem_map.mp hb
    exact alike_enQ x y
  · obtain ⟨x, _, rfl⟩ := List.mem_map.mp hd
    exact ⟨_, _, rfl⟩
  · obtain ⟨x, _, rfl⟩ := List.mem_map.mp hd
    have : PyData.depthAll (nDs x.2).reverse ≤ 0 := by rw [← List.map_reverse]; exact depthAll_map (k := 0) fun n _ => by simp [PyData.depth]
    simp only [enQ, PyData.depth, PyData.depthAll]; omega
/-- the last one of all layouts so priced is the best one -/
theorem ranked_best {wd : Int} {ws : List Int} (W : Wd wd ws) {fs : List (List Nat)} (hfs : ∀ ns, ns ∈ fs ↔ Lay wd ws ns ws.length) {z : Int × List Nat} (hz : z ∈ fs.map fun ns => (0 - cost wd ws ns, ns)) (hm : ∀ y ∈ fs.map (fun ns => (0 - cost wd ws ns, ns)), leQ y z) : z.2 = bestLay wd ws := by
  obtain ⟨ns, hn, rfl⟩ := List.mem_map.mp hz
  have c := (hfs ns).mp hn
  refine only_best W c (fun ms hms => ?_) fun ms hms e => ?_
  · show cost wd ws ns ≤ cost wd ws ms
    have := hm _ (List.mem_map.mpr ⟨ms, (hfs ms).mpr hms, rfl⟩)
    rcases this with g | ⟨g, _⟩ <;> simp only at g ⊢ <;> omega
  · have := hm _ (List.mem_map.mpr ⟨ms, (hfs ms).mpr hms, rfl⟩)
    rcases this with g | ⟨_, g⟩
    · have e : cost wd ws ms = cost wd ws ns := e
      simp only at g; omega
    · exact g
/-! ### from the back of a line -/
/-- what was found among the begins b .. e - 1 -/
def Sofar (f : Nat → Int) (b e : Nat) (l : PyData) (a : Nat) : Prop := (l = .none ∧ b = e ∧ a = 0) ∨ (l = .int (f a) ∧ b ≤ a ∧ a < e ∧ ∀ c, b ≤ c → c < e → f a < f c ∨ (f a = f c ∧ c ≤ a))
theorem Sofar.start {f : Nat → Int} {e : Nat} : Sofar f e e .none 0 := .inl ⟨rfl, rfl, rfl⟩
theorem Sofar.first {f : Nat → Int} {b : Nat} : Sofar f b (b + 1) (.int (f b)) b := .inr ⟨rfl, Nat.le_refl _, Nat.lt_succ_self _, fun c h1 h2 => .inr ⟨by rw [show c = b by omega], by omega⟩⟩
theorem Sofar.less {f : Nat → Int} {b e a : Nat} {l : PyData} (s : Sofar f (b + 1) e l a) (hl : l = .int (f a)) (h : f b < f a) (he : b < e) : Sofar f b e (.int (f b)) b := by
  rcases s with ⟨s, _⟩ | ⟨_, s1, s2, s3⟩
  · rw [s] at hl; cases hl
  · refine .inr ⟨rfl, Nat.le_refl _, he, fun c h1 h2 => ?_⟩
    by_cases z : c = b
    · subst z; exact .inr ⟨rfl, Nat.le_refl _⟩
    · have := s3 c (by omega) h2; exact .inl (by omega)
theorem Sofar.more {f : Nat → Int} {b e a : Nat} {l : PyData} (s : Sofar f (b + 1) e l a) (hl : l = .int (f a)) (h : ¬ f b < f a) : Sofar f b e l a := by
  rcases s with ⟨s, _⟩ | ⟨_, s1, s2, s3⟩
  · rw [s] at hl; cases hl
  · refine .inr ⟨hl, by omega, s2, fun c h1 h2 => ?_⟩
    by_cases z : c = b
    · subst z
      by_cases g : f a = f c
      · exact .inr ⟨g, by omega⟩
      · exact .inl (by omega)
    · exact s3 c (by omega) h2
theorem sofar_table {wd : Int} {ws : List Int} (W : Wd wd ws) {b e a : Nat} {l : PyData} (he0 : 0 < e) (he : e ≤ ws.length) (s : Sofar (fun b => C wd ws b + sq wd ws b e) b e l a) (hb : ∀ c, c < e → ln ws c e ≤ wd → b ≤ c) (hf : ∀ c, b ≤ c → c < e → ln ws c e ≤ wd) : l = .int (C wd ws e) ∧ a = B wd ws e := by
  obtain ⟨c1, c2, c3, _, c5⟩ := CB_at W he0 he
  rcases s with ⟨_, s, _⟩ | ⟨s0, s1, s2, s3⟩
  · exact absurd (hb _ c1 c2) (by omega)
  · have h1 := s3 _ (hb _ c1 c2) c1
    have h2 := c5 a s2 (hf a s1 s2)
    simp only at h1 s0
    have ea : a = B wd ws e := by omega
    exact ⟨by rw [s0, ea, c3], ea⟩
theorem sofar_last {wd : Int} {ws : List Int} (W : Wd wd ws) {b a : Nat} {l : PyData} (he0 : 0 < ws.length) (s : Sofar (C wd ws) b ws.length l a) (hb : ∀ c, c < ws.length → ln ws c ws.length ≤ wd → b ≤ c) (hf : ∀ c, b ≤ c → c < ws.length → ln ws c ws.length ≤ wd) : l = .int (C wd ws (LS wd ws)) ∧ a = LS wd ws := by
  obtain ⟨c1, c2, _, c5⟩ := LS_at W he0
  rcases s with ⟨_, s, _⟩ | ⟨s0, s1, s2, s3⟩
  · exact absurd (hb _ c1 c2) (by omega)
  · have h1 := s3 _ (hb _ c1 c2) c1
    have h2 := c5 a s2 (hf a s1 s2)
    have ea : a = LS wd ws := by omega
    exact ⟨by rw [s0, ea], ea⟩
theorem fits_down {wd : Int} {ws : List Int} (W : Wd wd ws) {b e : Nat} (hbe : b ≤ e) (he : e ≤ ws.length) (h : ¬ ln ws b e ≤ wd) : ∀ c, c < e → ln ws c e ≤ wd → b + 1 ≤ c := fun c hc hf => by
  by_cases z : b + 1 ≤ c
  · exact z
  · exact absurd (Int.le_trans (ln_anti W (i := c) (i' := b) (by omega) (by omega) he) hf) h
/-! ### the start of a future -/
def lastLe (n : Nat) (ns : List Nat) : Nat := (ns.filter fun x => decide (x ≤ n)).getLastD 0
theorem lastLe_nil (n : Nat) : lastLe n [] = 0 := rfl
theorem lastLe_yes {n h : Nat} (ns : List Nat) (c : h ≤ n) : lastLe n (ns ++ [h]) = h := by
  unfold lastLe
  rw [List.filter_append, List.filter_cons_of_pos (by simpa using c)]
  simp
theorem lastLe_no {n h : Nat} (ns : List Nat) (c : ¬ h ≤ n) : lastLe n (ns ++ [h]) = lastLe n ns := by
  unfold lastLe
  rw [List.filter_append, List.filter_cons_of_neg (by simpa using c)]
  simp
theorem lastLe_le (n : Nat) (ns : List Nat) : lastLe n ns ≤ n := by
  unfold lastLe
  rcases List.eq_nil_or_concat (ns.filter fun x => decide (x ≤ n)) with e | ⟨r, x, e⟩
  · rw [e]; exact Nat.zero_le _
  · have hx : x ∈ ns.filter fun x => decide (x ≤ n) := by rw [e]; simp
    rw [e, List.concat_eq_append]
    simp only [List.getLastD_concat]
    simpa using (List.mem_filter.mp hx).2
theorem lastLe_way {wd : Int} {ws : List Int} (W : Wd wd ws) {n e : Nat} (he : e ≤ ws.length) (h : e ≤ n) : lastLe n (way wd ws e) = e := by
  rcases Nat.eq_zero_or_pos e with z | z
  · subst z; rfl
  · rw [way_step W z he]; exact lastLe_yes _ h
theorem max_ints {ns : List Int} (h : ns ≠ []) : ∃ x xs m, ns.map PyData.int = x :: xs ∧ W.maxD x xs = .int m ∧ m ∈ ns ∧ (∀ y ∈ ns, y ≤ m) ∧ PyData.hasDictAll (x :: xs) = false ∧ W.AlikeAll (x :: xs) ∧ PyData.depthAll (x :: xs) ≤ 60 := by
  cases ns with
  | nil => exact absurd rfl h
  | cons n ns =>
    have key : ∀ (ns : List Int) (a : Int), (ns.foldl max a) ∈ a :: ns ∧ ∀ y ∈ a :: ns, y ≤ ns.foldl max a := fun ns => by
      induction ns with
      | nil => intro a; exact ⟨List.mem_cons_self, fun y hy => by rw [List.mem_singleton.mp hy]; exact Int.le_refl _⟩
      | cons b ns ih =>
        intro a
        obtain ⟨h1, h2⟩ := ih (max a b)
        rw [List.foldl_cons]
        refine ⟨?_, fun y hy => ?_⟩
        · rcases List.mem_cons.mp h1 with e | e
          · rw [e]
            rcases Int.le_total a b with z | z
            · rw [Int.max_eq_right z]; exact List.mem_cons_of_mem _ List.mem_cons_self
            · rw [Int.max_eq_left z]; exact List.mem_cons_self
          · exact List.mem_cons_of_mem _ (List.mem_cons_of_mem _ e)
        · have h3 := h2 (max a b) List.mem_cons_self
          rcases List.mem_cons.mp hy with rfl | hy
          · omega
          · rcases List.mem_cons.mp hy with rfl | hy
            · omega
            · exact h2 y (List.mem_cons_of_mem _ hy)
    obtain ⟨x, xs, m, e1, _, _, _, e5, e6, e7⟩ := min_ints (ns := n :: ns) (List.cons_ne_nil _ _)
    have ex : x = .int n ∧ xs = ns.map .int := by
      have : PyData.int n :: ns.map .int = x :: xs := e1
      injection this with a b
      exact ⟨a.symm, b.symm⟩
    obtain ⟨rfl, rfl⟩ := ex
    exact ⟨.int n, ns.map .int, ns.foldl max n, rfl, W.maxD_ints n ns, (key ns n).1, (key ns n).2, e5, e6, e7⟩
/-- the greatest end of a layout that is at most n -/
theorem max_le {wd : Int} {ws : List Int} {ns : List Nat} {e : Nat} (c : Lay wd ws ns e) (n : Nat) : ∃ x xs, (((0 : Nat) :: ns).filter fun (y : Nat) => decide ((y : Int) ≤ (n : Int))).map (fun (y : Nat) => PyData.int (y : Int)) = x :: xs ∧ W.maxD x xs = .int (lastLe n ns : Int) ∧ PyData.hasDictAll (x :: xs) = false ∧ W.AlikeAll (x :: xs) ∧ PyData.depthAll (x :: xs) ≤ 60 := by
  have ef : (((0 : Nat) :: ns).filter fun (y : Nat) => decide ((y : Int) ≤ (n : Int))) = 0 :: ns.filter fun y => decide (y ≤ n) := by
    rw [List.filter_cons_of_pos (by simp)]
    congr 1
    refine List.filter_congr fun y _ => ?_
    by_cases h : y ≤ n
    · rw [decide_eq_true h, decide_eq_true (by omega)]
    · rw [decide_eq_false h, decide_eq_false (by omega)]
  rw [ef]
  obtain ⟨x, xs, m, e1, e2, e3, e4, e5, e6, e7⟩ := max_ints (ns := (0 :: ns.filter fun y => decide (y ≤ n)).map fun (y : Nat) => (y : Int)) (by simp)
  rw [List.map_map] at e1
  refine ⟨x, xs, e1, ?_, e5, e6, e7⟩
  rw [e2]
  -- the greatest one is the last one
  have key : ∀ {ns : List Nat} {e : Nat}, Lay wd ws ns e → ∀ y ∈ (0 :: ns.filter fun y => decide (y ≤ n)), y ≤ lastLe n ns := by
    intro ns e c
    induction c with
    | nil => intro y hy; simp at hy; omega
    | @snoc ns l h c h1 h2 ih =>
      intro y hy
      by_cases g : h ≤ n
      · rw [lastLe_yes _ g]
        rcases List.mem_cons.mp hy with z | z
        · omega
        · have := (List.mem_filter.mp z).1
          rcases List.mem_append.mp this with t | t
          · have := c.mem y t; omega
          · rw [List.mem_singleton.mp t]; exact Nat.le_refl _
      · rw [lastLe_no _ g]
        refine ih y ?_
        rw [List.filter_append, List.filter_cons_of_neg (by simpa using g)] at hy
        simpa using hy
  have mem : lastLe n ns ∈ (0 :: ns.filter fun y => decide (y ≤ n)) := by
    unfold lastLe
    rcases List.eq_nil_or_concat (ns.filter fun y => decide (y ≤ n)) with z | ⟨r, t, z⟩
    · rw [z]; simp
    · rw [z, List.concat_eq_append]; simp
  obtain ⟨y, hy, rfl⟩ := List.mem_map.mp e3
  have a := key c y hy
  have b := e4 _ (List.mem_map.mpr ⟨_, mem, rfl⟩)
  have : y = lastLe n ns := by omega
  rw [this]
end LM

/-! LV: words of more than half the width. -/
namespace LM
open PySem
theorem long_lines {wd : Int} {ws : List Int} (W : Wd wd ws) (h : ∀ x ∈ ws, wd < 2 * x) {i j : Nat} (hij : i + 1 < j) (hj : j ≤ ws.length) : wd < ln ws i j := by
  have a := sm_mono W (i := i + 2) (j := j) (by omega) (by omega)
  have b := sm_succ ws (j := i) (by omega)
  have c := sm_succ ws (j := i + 1) (by omega)
  have hb := h _ (List.getElem_mem (l := ws) (n := i) (by omega))
  have hc := h _ (List.getElem_mem (l := ws) (n := i + 1) (by omega))
  have := a.1
  unfold ln
  rw [show i + 1 + 1 = i + 2 by omega] at c
  omega
theorem long_B {wd : Int} {ws : List Int} (W : Wd wd ws) (h : ∀ x ∈ ws, wd < 2 * x) {e : Nat} (h0 : 0 < e) (he : e ≤ ws.length) : B wd ws e = e - 1 := by
  obtain ⟨b1, b2, _⟩ := CB_at W h0 he
  by_cases z : B wd ws e + 1 < e
  · exact absurd b2 (Int.not_le.mpr (long_lines W h z he))
  · omega
theorem long_way {wd : Int} {ws : List Int} (W : Wd wd ws) (h : ∀ x ∈ ws, wd < 2 * x) : ∀ e, e ≤ ws.length → way wd ws e = (List.range e).map (· + 1) := by
  intro e
  induction e with
  | zero => intro _; rfl
  | succ e ih =>
    intro he
    rw [way_step W (by omega) he, long_B W h (by omega) he, Nat.add_sub_cancel, ih (by omega), List.range_succ, List.map_append]
    rfl
theorem long_C {wd x : Int} {n : Nat} (W : Wd wd (List.replicate n x)) (h : wd < 2 * x) : ∀ e, e ≤ n → C wd (List.replicate n x) e = e * (wd - x) ^ 2 := by
  have hh : ∀ y ∈ List.replicate n x, wd < 2 * y := fun y hy => by rw [(List.mem_replicate.mp hy).2]; exact h
  have hl : (List.replicate n x).length = n := List.length_replicate
  intro e
  induction e with
  | zero => intro _; rw [C0]; simp
  | succ e ih =>
    intro he
    obtain ⟨b1, b2, b3, _⟩ := CB_at W (e := e + 1) (by omega) (by omega)
    rw [long_B W hh (by omega) (by omega), Nat.add_sub_cancel, ih (by omega)] at b3
    rw [b3]
    unfold sq
    rw [ln_one W (by omega), List.getElem_replicate]
    rw [Int.natCast_add, Int.add_mul]
    simp
theorem long_LS {wd : Int} {ws : List Int} (W : Wd wd ws) (h : ∀ x ∈ ws, wd < 2 * x) (h0 : 0 < ws.length) : LS wd ws = ws.length - 1 := by
  obtain ⟨b1, b2, _⟩ := LS_at W h0
  by_cases z : LS wd ws + 1 < ws.length
  · exact absurd b2 (Int.not_le.mpr (long_lines W h z (Nat.le_refl _)))
  · omega
/-- one hundred and fifty words of 1 fill one line of three hundred -/
theorem ones_line {wd : Int} {n : Nat} (W : Wd wd (List.replicate n 1)) (h0 : 0 < n) (h : 2 * (n : Int) - 1 < wd) : bestLay wd (List.replicate n 1) = [n] := by
  have hl : (List.replicate n (1 : Int)).length = n := List.length_replicate
  have hln : ∀ i j, i ≤ j → j ≤ n → ln (List.replicate n 1) i j = 2 * ((j : Int) - i) - 1 := fun i j h1 h2 => by
    rw [ln_sum _ h1 (by omega), List.drop_replicate, List.take_replicate, List.sum_replicate_int]
    rw [show min (j - i) (n - i) = j - i by omega]
    omega
  obtain ⟨l1, l2, _, l4⟩ := LS_at W (by omega)
  have c0 := l4 0 (by omega) (by rw [hl, hln 0 n (by omega) (Nat.le_refl _)]; omega)
  rw [C0] at c0
  have e : LS wd (List.replicate n 1) = 0 := by
    rcases Nat.eq_zero_or_pos (LS wd (List.replicate n 1)) with z | z
    · exact z
    · obtain ⟨b1, b2, b3, _⟩ := CB_at W z (by omega)
      have q := (C_bd W (B wd (List.replicate n 1) (LS wd (List.replicate n 1))) (by omega)).1
      have hs : 0 < sq wd (List.replicate n 1) (B wd (List.replicate n 1) (LS wd (List.replicate n 1))) (LS wd (List.replicate n 1)) := by
        unfold sq
        rw [hln _ _ (by omega) (by omega)]
        refine Int.pow_pos ?_
        omega
      rcases c0 with c0 | ⟨c0, _⟩ <;> omega
  unfold bestLay
  rw [if_neg (by omega), e, way0, hl]
  rfl
end LM

namespace K10
open PySem PySem.Spec PyProof.Rows L2 QL
open LM
theorem sc9 : FnScope ["_law_script", "_law_spot", "_law_cell", "_law_own"] ["_law_script", "_law_spot"] (defScope (topS 9)) := ⟨rfl, rfl, rfl, by decide +kernel, rfl, by decide +kernel, by decide +kernel⟩
theorem sc10 : FnScope ["_law_pot_here", "_law_upto", "_law_digit", "_law_prime", "_law_mixed"] ["_law_pot_here", "_law_upto"] (defScope (topS 10)) := ⟨rfl, rfl, rfl, by decide +kernel, rfl, by decide +kernel, by decide +kernel⟩
theorem sc11 : FnScope ["_law_pot_here", "_law_some"] ["_law_pot_here", "_law_some"] (defScope (topS 11)) := ⟨rfl, rfl, rfl, by decide +kernel, rfl, by decide +kernel, by decide +kernel⟩
section
variable {P : Program} {w : World} {K : PySem.W.Frag} {mg : Str → Option Value} {base : Heap} {Tq : List (Addr × Str)}
/-- the pot's state -/
def PotOk (n : Int) (a b c : Int) : Prop := 0 ≤ a ∧ (0 ≤ b ∧ b < 2305843009213693951) ∧ 0 ≤ c ∧ c ≤ n
abbrev potD (a b c : Int) : List D := [.int a, .int b, .int c]
def spPot (K : PySem.W.Frag) : Spc := fun ts QT _ => ∃ (a : Addr) (ns : List Int) (i : Int), ts = [scT K a ns, .va (.int i)] ∧ (0 ≤ i ∧ i ≤ 100) ∧ ns.length ≤ 63 ∧ ∀ p x y, PotOk 0 x y 0 → QT (.lst p (potD x y 0)) [some (scT K a ns), none]
theorem bits60 : CPowQ (10 ^ 60) 5 := .inr ⟨by decide, by decide +kernel⟩
theorem g_pot {f : Addr} {fd : FuncData} {k : Nat} (Fn : Fun K "_law_pot" "_law_pot" (topS 9) f fd) (m_len : mg "len" = none) (m_abs : mg "abs" = none) (m_int : mg "int" = none) : FnG P w K mg base Tq (k + 1) f fd ["_law_script", "_law_spot"] (spPot K) := by
  refine fn_g Fn sc9 (fun ts Q E h => ?_) fun cdv A outer s H E Z ts QT ET hr hgd hp tk h => ?_
  · obtain ⟨a, ns, i, rfl, _⟩ := h
    rfl
  · obtain ⟨a, ns, i, rfl, hi, hl, q⟩ := h
    have rest : ∀ m : Int, WSs Z (BX P w K mg base ["_law_script", "_law_spot", "_law_cell", "_law_own"] "_law_pot" (topS 9) f cdv A outer s H E) ((defBody (topS 9)).drop 1) [some (scT K a ns), some (.va (.int i)), some (.va (.int m)), none] (finP QT [scT K a ns, .va (.int i)]) := fun m => by
      refine wss_cons (ws_set 3 (w_bin dop_mul (w_bin dop_mod (w_callB dc_abs m_abs rfl ⟨rfl, (w_var 2 (⟨rfl, (w_bin dop_pow (w_bin dop_pow (w_int ((w_int (⟨rfl, rfl, ?pow1, (w_int (⟨rfl, rfl, ?pow2, ⟨rfl, rfl, ?mod3, (w_callTy dc_int m_int rfl ⟨rfl, (w_cmp dop_ge (w_callB dc_abs m_abs rfl ⟨rfl, (w_var 2 (⟨rfl, (w_bin dop_pow (w_int ((w_int (⟨rfl, rfl, ?pow4, ⟨rfl, rfl, ⟨rfl, ⟨rfl, rfl, ?mul5, ⟨Nat.lt_of_sub_eq_succ rfl, ?nx6⟩⟩⟩⟩⟩)))))⟩))⟩))⟩)⟩⟩))⟩))))))⟩))⟩))) sc9.nd)
      case pow1 => exact .inl ⟨by decide, by decide, by decide⟩
      case pow2 => exact bits60
      case mod3 => exact of_decide_eq_true (p := (0 : Int) < (10 ^ (60 : Int).toNat) ^ (5 : Int).toNat) (by decide +kernel)
      case pow4 => exact .inl ⟨by decide, by decide, by decide⟩
      case mul5 => exact cmul_r (by split <;> decide) (by split <;> decide)
      case nx6 =>
        refine wss_one (ws_ret (w_lst ⟨rfl, (w_var 3 (⟨rfl, (w_bin dop_mod (w_bin dop_add (w_bin dop_add (w_bin dop_mul (w_bin dop_mod (w_var 2 ((w_int (⟨rfl, rfl, ?mod1, (w_int (⟨rfl, rfl, ?mul2, (w_bin dop_mul (w_bin dop_mul (w_int ((w_var 1 (⟨rfl, rfl, ?mul3, (w_var 1 (⟨rfl, rfl, ?mul4, ⟨rfl, rfl, (w_int (⟨rfl, rfl, (w_int (⟨rfl, rfl, ?mod5, ⟨rfl, (w_int (⟨?sz6, fun p => ?ret7⟩))⟩⟩))⟩))⟩⟩))⟩))))))⟩))⟩)))))))))⟩))⟩))
        case mod1 => exact (by decide : (0 : Int) < 2305843009213693951)
        case mul2 => exact cmul_r (by decide) (by decide)
        case mul3 => exact cmul_l (by decide) (by decide)
        case mul4 => exact cmul_r (by omega) (by omega)
        case mod5 => exact (by decide : (0 : Int) < 2305843009213693907)
        case sz6 => exact Nat.le_of_lt (small2000 (n := 3) (by decide))
        case ret7 =>
          refine ⟨rfl, q p _ _ ⟨?_, ⟨Int.emod_nonneg _ (by decide), ?_⟩, Int.le_refl 0, Int.le_refl 0⟩⟩
          · refine Int.mul_nonneg (Int.emod_nonneg _ (by decide +kernel)) (by split <;> decide)
          · exact Int.lt_trans (Int.emod_lt_of_pos _ (by decide)) (by decide)
    refine wss_cons (ws_set 2 (w_ifExp (wt_cmp dop_lt (w_var 1 (w_scLen 0 m_len rfl ⟨rfl, rfl, ⟨_, rfl, fun h => ?_, fun h => ?_⟩⟩)))) sc9.nd)
    · have h1 : i < ns.length := of_decide_eq_true h
      have e : ns[i.toNat]? = some ns[i.toNat] := List.getElem?_eq_getElem (by omega)
      have ei : i = ((i.toNat : Nat) : Int) := by omega
      exact w_scIx 0 1 (m := ns[i.toNat]) rfl rfl ((congrArg (atI ns) ei).trans (atI_nat e)) ⟨Nat.lt_of_sub_eq_succ rfl, rest _⟩
    · exact w_bin dop_add (w_int (w_bin dop_mul (w_int (w_var 1 ⟨rfl, rfl, cmul_l (by decide) (by decide), ⟨rfl, rfl, ⟨Nat.lt_of_sub_eq_succ rfl, rest _⟩⟩⟩))))
def spTake : Spc := fun ts QT _ => ∃ (p : Addr) (n a b c u : Int), ts = [.lst p (potD a b c), .va (.int u)] ∧ PotOk n a b c ∧ n ≤ 1000000 ∧ (0 < u ∧ u ≤ 1000000000000) ∧ ∀ a' b' c' d, PotOk (n + 1) a' b' c' → 0 ≤ d → d < u → QT (.va (.int d)) [some (.lst p (potD a' b' c')), none]
theorem ix5 (m : Int) : ∃ d, atI [PyData.int 2147483647, .int 2147483629, .int 2147483587, .int 2147483579, .int 2147483563] (m % 5) = some (.int d) ∧ 0 < d ∧ d ≤ 2147483647 := by
  have h0 := Int.emod_nonneg m (b := 5) (by decide)
  have h1 := Int.emod_lt_of_pos m (b := 5) (by decide)
  have : m % 5 = 0 ∨ m % 5 = 1 ∨ m % 5 = 2 ∨ m % 5 = 3 ∨ m % 5 = 4 := by omega
  rcases this with e | e | e | e | e <;> rw [e] <;> exact ⟨_, rfl, by decide, by decide⟩
theorem g_take {f : Addr} {fd : FuncData} {k : Nat} (Fn : Fun K "_law_take" "_law_take" (topS 10) f fd) : FnG P w K mg base Tq (k + 1) f fd ["_law_pot_here", "_law_upto"] spTake := by
  refine fn_g Fn sc10 (fun ts Q E h => ?_) fun cdv A outer s H E Z ts QT ET hr hgd hp tk h => ?_
  · obtain ⟨p, n, a, b, c, u, rfl, _⟩ := h
    rfl
  · obtain ⟨p, n, a, b, c, u, rfl, ⟨ha, ⟨hb0, hb⟩, hc0, hc⟩, hn, ⟨hu0, hu⟩, q⟩ := h
    refine wss_cons (ws_if (wt_cmp dop_gt (w_ix (w_var 0 ((w_int (⟨rfl, rfl, _, rfl, (w_int (⟨rfl, rfl, _, rfl, ⟨fun h => ?then2, fun h => ?else3⟩⟩))⟩)))))))
    case then2 =>
      refine wss_cons (ws_set 2 (w_bin dop_mod (w_ix (w_var 0 ((w_int (⟨rfl, rfl, _, rfl, (w_var 1 (⟨rfl, rfl, hu0, ⟨Nat.lt_of_sub_eq_succ rfl, ?nxa⟩⟩))⟩)))))) sc10.nd)
      refine wss_cons (ws_setix (w_bin dop_fdiv (w_ix (w_var 0 ((w_int (⟨rfl, rfl, _, rfl, (w_var 1 (⟨rfl, rfl, ⟨hu0, by omega⟩, (w_var 0 (⟨_, _, _, rfl, (w_int (⟨_, rfl, _, _, 0, rfl, rfl, rfl, ?nxb⟩))⟩))⟩))⟩)))))))
      refine wss_one (ws_ret (w_var 2 ?_))
      have ha' : 0 ≤ a / u := Int.ediv_nonneg ha (Int.le_of_lt hu0)
      exact ⟨rfl, q _ _ _ _ ⟨ha', ⟨hb0, hb⟩, hc0, by omega⟩ (Int.emod_nonneg _ (by omega)) (Int.emod_lt_of_pos _ hu0)⟩
    case else3 =>
      refine wss_nil ?_
      refine wss_cons (ws_setix (w_bin dop_add (w_ix (w_var 0 ((w_int (⟨rfl, rfl, _, rfl, (w_int (⟨rfl, rfl, (w_var 0 (⟨_, _, _, rfl, (w_int (⟨_, rfl, _, _, 2, rfl, rfl, rfl, ?nxc⟩))⟩))⟩))⟩)))))))
      obtain ⟨pr, hpr, hp0, hp1⟩ := ix5 (c + 1)
      refine wss_cons (ws_set 3 (w_ix (w_lst ⟨rfl, (w_int (⟨rfl, (w_int (⟨rfl, (w_int (⟨rfl, (w_int (⟨rfl, (w_int (⟨Nat.le_of_lt (small2000 (n := 5) (by decide)), fun p => (w_bin dop_mod (w_ix (w_var 0 ((w_int (⟨rfl, rfl, _, rfl, (w_int (⟨rfl, rfl, (by decide : (0 : Int) < 5), ⟨rfl, rfl, _, hpr, ⟨Nat.lt_of_sub_eq_succ rfl, ?nxd⟩⟩⟩))⟩))))))⟩))⟩))⟩))⟩))⟩))⟩)) sc10.nd)
      refine wss_cons (ws_set 4 (w_bin dop_mod (w_bin dop_pow (w_bin dop_add (w_bin dop_add (w_ix (w_var 0 ((w_int (⟨rfl, rfl, _, rfl, (w_bin dop_mul (w_bin dop_mul (w_int ((w_ix (w_var 0 ((w_int (⟨rfl, rfl, _, rfl, ⟨rfl, rfl, ?mulA, (w_ix (w_var 0 ((w_int (⟨rfl, rfl, _, rfl, ⟨rfl, rfl, ?mulB, ⟨rfl, rfl, (w_int (⟨rfl, rfl, (w_int (⟨rfl, rfl, ?pow6, (w_var 3 (⟨rfl, rfl, hp0, ⟨Nat.lt_of_sub_eq_succ rfl, ?nx8⟩⟩))⟩))⟩))⟩⟩⟩)))))⟩⟩)))))))))⟩))))))))) sc10.nd)
      case mulA => exact cmul_l (by decide) (by decide)
      case mulB => exact cmul_r (by omega) (by omega)
      case pow6 =>
        have h1 : 65537 * (c + 1) * (c + 1) ≤ 65537 * 1000001 * 1000001 := Int.mul_le_mul (by omega) (by omega) (by omega) (by decide)
        have h2 : 0 ≤ 65537 * (c + 1) * (c + 1) := Int.mul_nonneg (by omega) (by omega)
        refine .inl ⟨by decide, by decide, ?_⟩
        have h3 : 0 ≤ b + 65537 * (c + 1) * (c + 1) + 41 := by omega
        have h4 : b + 65537 * (c + 1) * (c + 1) + 41 < 2 ^ 64 := by omega
        omega
      case nx8 =>
        have m0 := Int.emod_nonneg ((b + 65537 * (c + 1) * (c + 1) + 41) ^ (3 : Int).toNat) (b := pr) (by omega)
        have m1 := Int.emod_lt_of_pos ((b + 65537 * (c + 1) * (c + 1) + 41) ^ (3 : Int).toNat) hp0
        refine wss_one (ws_ret (w_bin dop_mod (w_bin dop_fdiv (w_bin dop_mod (w_bin dop_mul (w_var 4 ((w_bin dop_add (w_bin dop_mod (w_var 4 ((w_int (⟨rfl, rfl, (by decide : (0 : Int) < 10007), (w_bin dop_mul (w_int ((w_ix (w_var 0 ((w_int (⟨rfl, rfl, _, rfl, ⟨rfl, rfl, ?mul3, ⟨rfl, rfl, ⟨rfl, rfl, ?mul4, (w_int (⟨rfl, rfl, (by decide : (0 : Int) < 2305843009213693921), (w_int (⟨rfl, rfl, ⟨by decide, by decide⟩, (w_var 1 (⟨rfl, rfl, hu0, ?ret8⟩))⟩))⟩))⟩⟩⟩⟩))))))))⟩)))))))))))))
        case mul3 => exact cmul_l (by decide) (by decide)
        case mul4 => exact cmul_l (Int.lt_of_lt_of_le (by decide) m0) (Int.lt_trans m1 (Int.lt_of_le_of_lt hp1 (by decide)))
        case ret8 => exact ⟨rfl, q _ _ _ _ ⟨ha, ⟨hb0, hb⟩, by omega, by omega⟩ (Int.emod_nonneg _ (by omega)) (Int.emod_lt_of_pos _ hu0)⟩
/-- what a draw from some things gives -/
def spOf : Spc := fun ts QT _ => ∃ (p : Addr) (n a b c : Int) (ds : List D) (t2 : T) (r2 : Option T), ts = [.lst p (potD a b c), t2] ∧ ((t2 = .va (.list ds) ∧ r2 = none) ∨ ∃ q, t2 = .lst q ds ∧ r2 = some (.lst q ds)) ∧ PotOk n a b c ∧ n ≤ 1000000 ∧ (0 < ds.length ∧ ds.length ≤ 100000) ∧
  ∀ a' b' c' d, PotOk (n + 1) a' b' c' → d ∈ ds → QT (.va d) [some (.lst p (potD a' b' c')), r2]
theorem at_pos {ds : List D} {d : Int} (h0 : 0 ≤ d) (h1 : d < ds.length) : ∃ y, atI ds d = some y ∧ y ∈ ds := by
  have hl : d.toNat < ds.length := by omega
  have e : ds[d.toNat]? = some ds[d.toNat] := List.getElem?_eq_getElem hl
  have ed : d = ((d.toNat : Nat) : Int) := by omega
  exact ⟨_, (congrArg (atI ds) ed).trans (atI_nat e), List.getElem_mem hl⟩
theorem g_of {f : Addr} {fd : FuncData} {k : Nat} (Fn : Fun K "_law_of" "_law_of" (topS 11) f fd) (G__law_take : Df P w K mg base Tq (k + 1) "_law_take" ["_law_pot_here", "_law_upto"] spTake) (m_len : mg "len" = none) : FnG P w K mg base Tq (k + 2) f fd ["_law_pot_here", "_law_some"] spOf := by
  refine fn_g Fn sc11 (fun ts Q E h => ?_) fun cdv A outer s H E Z ts QT ET hr hgd hp tk h => ?_
  · obtain ⟨p, n, a, b, c, ds, t2, r2, rfl, _⟩ := h
    rfl
  · obtain ⟨p, n, a, b, c, ds, t2, r2, rfl, h2, hpot, hn, ⟨hl0, hl⟩, q⟩ := h
    rcases h2 with ⟨rfl, rfl⟩ | ⟨z, rfl, rfl⟩
    · refine wss_one (ws_ret (w_ix (w_var 1 ((w_fn G__law_take hr hgd ⟨rfl, (w_var 0 (⟨rfl, (w_callB dc_len m_len rfl ⟨rfl, (w_var 1 (⟨rfl, ?call1⟩))⟩)⟩))⟩)))))
      refine ⟨rfl, p, n, a, b, c, (ds.length : Int), rfl, hpot, hn, ⟨by omega, by omega⟩, fun a' b' c' d hpot' h0 h1 => ?_⟩
      obtain ⟨y, hy, hm⟩ := at_pos h0 h1
      exact ⟨rfl, rfl, rfl, rfl, y, hy, rfl, q _ _ _ _ hpot' hm⟩
    · refine wss_one (ws_ret (w_ix (w_var 1 ((w_fn G__law_take hr hgd ⟨rfl, (w_var 0 (⟨rfl, (w_callB dc_len m_len rfl ⟨rfl, (w_var 1 (⟨rfl, ?call2⟩))⟩)⟩))⟩)))))
      refine ⟨rfl, p, n, a, b, c, (ds.length : Int), rfl, hpot, hn, ⟨by omega, by omega⟩, fun a' b' c' d hpot' h0 h1 => ?_⟩
      obtain ⟨y, hy, hm⟩ := at_pos h0 h1
      exact ⟨rfl, rfl, rfl, rfl, y, hy, rfl, rfl, q _ _ _ _ hpot' hm⟩
end


section
variable {P : Program} {w : World} {K : PySem.W.Frag} {mg : Str → Option Value} {base : Heap} {Tq : List (Addr × Str)}
def spOfI : Spc := fun ts QT _ => ∃ (p : Addr) (n a b c : Int) (xs : List Int) (lo hi : Int) (t2 : T) (r2 : Option T), ts = [.lst p (potD a b c), t2] ∧ ((t2 = .va (.list (iDs xs)) ∧ r2 = none) ∨ ∃ q, t2 = .lst q (iDs xs) ∧ r2 = some (.lst q (iDs xs))) ∧ PotOk n a b c ∧ n ≤ 1000000 ∧ (0 < xs.length ∧ xs.length ≤ 100000) ∧ (∀ x ∈ xs, lo ≤ x ∧ x ≤ hi) ∧
  ∀ a' b' c' x, PotOk (n + 1) a' b' c' → lo ≤ x → x ≤ hi → x ∈ xs → QT (.va (.int x)) [some (.lst p (potD a' b' c')), r2]
theorem g_ofI {f : Addr} {fd : FuncData} {k : Nat} (Fn : Fun K "_law_of" "_law_of" (topS 11) f fd) (G__law_take : Df P w K mg base Tq (k + 1) "_law_take" ["_law_pot_here", "_law_upto"] spTake) (m_len : mg "len" = none) : FnG P w K mg base Tq (k + 2) f fd ["_law_pot_here", "_law_some"] spOfI :=
  (g_of Fn G__law_take m_len).weaken fun ts QT ET ⟨p, n, a, b, c, xs, lo, hi, t2, r2, e, h0, h1, h2, h3, h4, q⟩ => ⟨p, n, a, b, c, iDs xs, t2, r2, e, h0, h1, h2, by rw [List.length_map]; exact h3, fun a' b' c' d hp hm => by
    obtain ⟨x, hx, rfl⟩ := List.mem_map.mp hm
    exact q a' b' c' x hp (h4 x hx).1 (h4 x hx).2 hx⟩
end
end K10

/-! QS: a, b, c = x, y, z. -/
namespace QL
open PySem PySem.Spec PyProof.Rows L2
section
variable {Tq : List (Addr × Str)} {Z : Zb Tq} {X : Cx} {env : Env} {PO : Out → Prop} {a b c : Expr} {pos : Pos}
theorem ws_par3 (i j l : Nat) {x y z : Str} {px py pz pt : Pos} {kt k2 pt2} (hc : X.calm = true) (hN : X.N.Nodup)
    (h : WAs Z X [a, b, c] env fun as e1 => absorb as e1 fun ds e2 => ∃ d1 d2 d3, ds = [d1, d2, d3] ∧ i < e2.length ∧ j < e2.length ∧ l < e2.length ∧ PO (.nx (((e2.set i (some (.va d1))).set j (some (.va d2))).set l (some (.va d3)))))
    (hi : X.N[i]? = some x := by rfl) (hj : X.N[j]? = some y := by rfl) (hl : X.N[l]? = some z := by rfl) (hij : i ≠ j := by decide) (hil : i ≠ l := by decide) (hjl : j ≠ l := by decide)
    (hx : X.env.scope.names.lookup x = some .local := by rfl) (hy : X.env.scope.names.lookup y = some .local := by rfl) (hz : X.env.scope.names.lookup z = some .local := by rfl)
    (hw : swappedStores [.Tuple [.Name x px, .Name y py, .Name z pz] kt pt] (.Tuple [a, b, c] k2 pt2) X.env = pure (some [x, y, z]) := by rfl)
    (hs : swapsWithSole [.Tuple [.Name x px, .Name y py, .Name z pz] kt pt] (.Tuple [a, b, c] k2 pt2) pos.line X.env = pure false := by rfl) :
    WS Z X (.Assign [.Tuple [.Name x px, .Name y py, .Name z pz] kt pt] (.Tuple [a, b, c] k2 pt2) pos) env PO :=
  ws_of (ps_par3 hc hN hi hj hl hij hil hjl hx hy hz (pa_As (Z := Z)) hw hs) fun σ H F O b0 o => by
    refine ⟨env, F, O, _, b0, o, h, fun vs H1 ⟨F1, O1, as, e1, b1, o1, st1, fr1, h1⟩ => ?_⟩
    obtain ⟨F2, O2, ds, e2, b2, o2, r2, fr2, d1, d2, d3, hd, li, lj, ll, p⟩ := absorb_ok st1 b1 o1 h1
    subst hd
    cases r2 with
    | @cons v1 _ _ _ q1 r2 =>
    cases r2 with
    | @cons v2 _ _ _ q2 r2 =>
    cases r2 with
    | @cons v3 _ _ _ q3 r2 =>
    cases r2
    obtain ⟨O5, P5, o5, p5⟩ := o2.set i (.va q1) li
    obtain ⟨O6, P6, o6, p6⟩ := o5.set j (.va q2) (by rw [List.length_set]; exact lj)
    obtain ⟨O7, P7, o7, p7⟩ := o6.set l (.va q3) (by rw [List.length_set, List.length_set]; exact ll)
    rw [List.nil_append] at p5 p6 p7
    obtain ⟨b5, f5⟩ := b2.dropP p5
    obtain ⟨b6, f6⟩ := b5.dropP p6
    obtain ⟨b7, f7⟩ := b6.dropP p7
    exact ⟨v1, v2, v3, rfl, F2, O7, _, b7, o7, (((fr1.trans fr2).trans f5).trans f6).trans f7, p⟩
theorem rgV_rp {F : Hp} (i j : Int) : RpA F (rgV i j) (rangeD i (j - i).toNat) := by
  unfold rgV rangeD
  generalize List.range (j - i).toNat = ks
  induction ks with
  | nil => exact .nil
  | cons k ks ih => exact .cons (.int _) ih
section
variable {P : R → Env → Prop} {p p2 pos2 : Pos}
theorem w_tupRg2 (hc : X.calm = true) (hm : X.mg "tuple" = none) (hm2 : X.mg "range" = none)
    (h : WE Z X a env fun r1 e1 => ∃ i, r1 = .t (.va (.int i)) ∧ WE Z X b e1 fun r2 e2 => ∃ j, r2 = .t (.va (.int j)) ∧ RgOk i j ∧ P (.t (.va (.tuple (rangeD i (j - i).toNat)))) e2)
    (hg : Gl X "tuple" := by rfl) (hg2 : Gl X "range" := by rfl)
    (na : starEach [a, b] X.env = (false, eval a X.env) :: starEach [b] X.env := by rfl) (nb : starEach [b] X.env = (false, eval b X.env) :: starEach [] X.env := by rfl) (hp : (backTo pos2 (starEach [b] X.env)).any (·.1) = false := by rfl)
    (hs : starEach [.Call (.Name "range" p2) [a, b] [] pos2] X.env = (false, eval (.Call (.Name "range" p2) [a, b] [] pos2) X.env) :: starEach [] X.env := by rfl) :
    WE Z X (.Call (.Name "tuple" p) [.Call (.Name "range" p2) [a, b] [] pos2] [] pos) env P :=
  we_of (pe_tupRg hc hg hm (prg_2 hg2 hm2 (pe_E (Z := Z)) (pe_E (Z := Z)) na nb hp) hs) fun σ H F O b0 o => ⟨env, F, O, _, b0, o, h, fun x H1 h1 => by
    obtain ⟨i, F1, O1, e1, rfl, b1, o1, fr1, p⟩ := post_int h1
    exact ⟨e1, F1, O1, _, b1, o1, p, fun y H2 h2 => by
      obtain ⟨j, F2, O2, e2, rfl, b2, o2, fr2, ok, p⟩ := post_int h2
      exact ⟨i, j, rfl, rfl, ok, fun q hq => ((NewV.tup b2.sub (rgV_rp i j) hq (k := fun t => t = .va (.tuple (rangeD i (j - i).toNat))) rfl).post b2 o2 (fun t e => by subst e; exact p)).from (fr1.trans fr2)⟩⟩⟩
theorem w_lstRg2 (hc : X.calm = true) (hm : X.mg "list" = none) (hm2 : X.mg "range" = none)
    (h : WE Z X a env fun r1 e1 => ∃ i, r1 = .t (.va (.int i)) ∧ WE Z X b e1 fun r2 e2 => ∃ j, r2 = .t (.va (.int j)) ∧ RgOk i j ∧ ∀ q, P (.t (.lst q (rangeD i (j - i).toNat))) e2)
    (hg : Gl X "list" := by rfl) (hg2 : Gl X "range" := by rfl)
    (na : starEach [a, b] X.env = (false, eval a X.env) :: starEach [b] X.env := by rfl) (nb : starEach [b] X.env = (false, eval b X.env) :: starEach [] X.env := by rfl) (hp : (backTo pos2 (starEach [b] X.env)).any (·.1) = false := by rfl)
    (hs : starEach [.Call (.Name "range" p2) [a, b] [] pos2] X.env = (false, eval (.Call (.Name "range" p2) [a, b] [] pos2) X.env) :: starEach [] X.env := by rfl) :
    WE Z X (.Call (.Name "list" p) [.Call (.Name "range" p2) [a, b] [] pos2] [] pos) env P :=
  we_of (pe_listRg hc hg hm (prg_2 hg2 hm2 (pe_E (Z := Z)) (pe_E (Z := Z)) na nb hp) hs) fun σ H F O b0 o => ⟨env, F, O, _, b0, o, h, fun x H1 h1 => by
    obtain ⟨i, F1, O1, e1, rfl, b1, o1, fr1, p⟩ := post_int h1
    exact ⟨e1, F1, O1, _, b1, o1, p, fun y H2 h2 => by
      obtain ⟨j, F2, O2, e2, rfl, b2, o2, fr2, ok, p⟩ := post_int h2
      exact ⟨i, j, rfl, rfl, ok, fun q hq => ((NewV.lst b2.sub (rgV_rp i j) hq (k := fun t => t = .lst q (rangeD i (j - i).toNat)) rfl).post b2 o2 (fun t e => by subst e; exact p q)).from (fr1.trans fr2)⟩⟩⟩
end
end
end QL

namespace K10
open PySem PySem.Spec PyProof.Rows L2 QL
open LM
def spTab : Spc := fun ts QT _ => ∃ (wd : Int) (ws : List Int), ts = [.va (.int wd), .va (.tuple (iDs ws))] ∧ Wd wd ws ∧ QT (.va (.tuple [.list (iDs (csL wd ws ws.length)), .list (nDs (bsL wd ws ws.length))])) [none, none]
def spChain : Spc := fun ts QT _ => ∃ (wd : Int) (ws : List Int) (e : Nat), ts = [.va (.list (nDs (bsL wd ws ws.length))), .va (.int e)] ∧ Wd wd ws ∧ e ≤ ws.length ∧ QT (.va (.tuple (nDs (way wd ws e)))) [none, none]
def spLast9 : Spc := fun ts QT _ => ∃ (wd : Int) (ws : List Int), ts = [.va (.int wd), .va (.tuple (iDs ws)), .va (.list (iDs (csL wd ws ws.length)))] ∧ Wd wd ws ∧ 0 < ws.length ∧ QT (.va (.int (LS wd ws))) [none, none, none]
theorem ws_at' {ws : List Int} {e : Nat} (h : e < ws.length) : atI (iDs ws) (e : Int) = some (.int ws[e]) := by
  refine atI_nat ?_
  rw [List.getElem?_map, List.getElem?_eq_getElem h]; rfl
theorem ln_pred (ws : List Int) {b : Nat} (e : Nat) (h : b < ws.length) : ln ws (b + 1) e + 1 + ws[b] = ln ws b e := by
  unfold ln; rw [sm_succ ws h]; omega
theorem bsL_at {wd : Int} {ws : List Int} {m j : Nat} (h : j ≤ m) : atI (nDs (bsL wd ws m)) (j : Int) = some (.int (B wd ws j)) := by
  refine atI_nat ?_
  unfold bsL
  simp [nDs, List.getElem?_range (show j < m + 1 by omega)]
theorem step_none {f : Nat → Int} {b e : Nat} {l : PyData} {a : Nat} (s : Sofar f (b + 1) e l a) : (l = .none ∧ a = 0 ∧ e = b + 1) ∨ l = .int (f a) := by
  rcases s with ⟨h1, h2, h3⟩ | ⟨h1, _⟩
  · exact .inl ⟨h1, h3, h2.symm⟩
  · exact .inr h1
/-- none, or a pair -/
def pairT (l : D) (a : Nat) : D := match l with
  | .none => .none
  | d => .tuple [d, .int (a : Int)]
def oneT (l : D) (a : Nat) : D := match l with
  | .none => .none
  | _ => .int (a : Int)
section
variable {P : Program} {w : World} {K : PySem.W.Frag} {mg : Str → Option Value} {base : Heap} {Tq : List (Addr × Str)}
abbrev N__law_costs : List Str := ["_law_wide", "_law_row_here", "_law_low_costs", "_law_begins", "_law_high", "_law_least", "_law_low", "_law_long", "_law_paid"]
theorem sc__law_costs : FnScope N__law_costs ["_law_wide", "_law_row_here"] (defScope (topS 13)) := ⟨rfl, rfl, rfl, by decide +kernel, rfl, by decide +kernel, by decide +kernel⟩
theorem g__law_costs {f : Addr} {fd : FuncData} {k : Nat} (Fn : Fun K "_law_costs" "_law_costs" (topS 13) f fd) (m_len : mg "len" = none) (m_range : mg "range" = none) : FnG P w K mg base Tq (k + 1) f fd ["_law_wide", "_law_row_here"] spTab := by
  refine fn_g Fn sc__law_costs (fun ts Q E h => ?_) fun cdv A outer s H E Z ts QT ET hr hgd hp tk h => ?_
  · obtain ⟨wd, ws, rfl, W, q⟩ := h; rfl
  · obtain ⟨wd, ws, rfl, W, q⟩ := h
    have hlen := W.len
    have hnl : (iDs ws).length = ws.length := List.length_map _
    have w1 := W.w1
    have w2 := W.w2
    -- line 97
    refine wss_cons (ws_par 2 3 rfl sc__law_costs.nd (w_lst ⟨rfl, (w_int ⟨(by first | decide | (simp only [List.length_append, List.length_map, List.length_cons, List.length_nil, List.length_singleton, List.length_replicate, List.length_range, List.length_take, List.length_drop, List.length_dropLast, List.length_reverse, Bool.false_eq_true, eq_self, reduceIte, sizeLine_eq]; omega)), fun p1 => ⟨_, rfl, (w_lst ⟨rfl, (w_int ⟨(by first | decide | (simp only [List.length_append, List.length_map, List.length_cons, List.length_nil, List.length_singleton, List.length_replicate, List.length_range, List.length_take, List.length_drop, List.length_dropLast, List.length_reverse, Bool.false_eq_true, eq_self, reduceIte, sizeLine_eq]; omega)), fun p2 => ⟨_, rfl, Nat.lt_of_sub_eq_succ rfl, Nat.lt_of_sub_eq_succ rfl, ?_⟩⟩)⟩)⟩⟩)⟩))
    -- line 98
    refine wss_cons (ws_for hp rfl (pg_name (i := 4) sc__law_costs.nd rfl (by first | exact Or.inl rfl | exact Or.inr rfl)) (gok_name 4) (wi_range2 m_range ⟨rfl, (w_int ⟨rfl, (w_bin dop_add (w_callB dc_len m_len rfl ⟨rfl, (w_var 1 ⟨rfl, (w_int ⟨rfl, rfl, ⟨rfl, rfl, ⟨by omega, by omega, by omega, by omega⟩, ?_⟩⟩)⟩)⟩))⟩)⟩))
    rw [show ((((iDs ws).length : Nat) : Int) + 1 - 1).toNat = ws.length by rw [hnl]; omega]
    refine ⟨fun j e => ∃ o4 o5 o6 o7 o8, e = [some (.va (.int wd)), some (.va (.tuple (iDs ws))), some (.lst p1 (iDs (csL wd ws j))), some (.lst p2 (nDs (bsL wd ws j))), o4, o5, o6, o7, o8], ⟨none, none, none, none, none, rfl⟩, ?_, ?_⟩
    · rintro j x e hd ⟨o4, o5, o6, o7, o8, rfl⟩
      obtain ⟨rfl, hj⟩ := rangeD_at hd
      rw [show ((1 : Int) + (j : Int)) = ((j + 1 : Nat) : Int) by omega]
      have l1 := csL_len (wd := wd) (ws := ws) (m := j)
      have l2 := bsL_len (wd := wd) (ws := ws) (m := j)
      have ej : (((j + 1 : Nat) : Int) - 1) = (j : Int) := by omega
      have ha : atI (iDs ws) (((j + 1 : Nat) : Int) - 1) = some (.int ws[j]) := by rw [ej]; exact ws_at' hj
      refine ⟨Nat.lt_of_sub_eq_succ rfl, ?_⟩
      -- line 99
      refine wss_cons (ws_par3 5 6 7 rfl sc__law_costs.nd ⟨rfl, (w_non ⟨rfl, (w_bin dop_sub (w_var 4 (w_int ⟨rfl, rfl, ⟨rfl, (w_ix (w_var 1 (w_bin dop_sub (w_var 4 (w_int ⟨rfl, rfl, ⟨rfl, rfl, _, ha, ⟨_, _, _, rfl, Nat.lt_of_sub_eq_succ rfl, Nat.lt_of_sub_eq_succ rfl, Nat.lt_of_sub_eq_succ rfl, ?_⟩⟩⟩)))))⟩⟩)))⟩)⟩)
      rw [show ws[j] = ln ws j (j + 1) from (ln_one W hj).symm]
      let Iv : Nat → QL.Env → Prop := fun m en => m ≤ j + 1 ∧ ∃ l a o9, Sofar (fun b => C wd ws b + sq wd ws b (j + 1)) m (j + 1) l a ∧ (∀ c, m ≤ c → c < j + 1 → ln ws c (j + 1) ≤ wd) ∧ en = [some (.va (.int wd)), some (.va (.tuple (iDs ws))), some (.lst p1 (iDs (csL wd ws j))), some (.lst p2 (nDs (bsL wd ws j))), some (.va (.int ((j + 1 : Nat) : Int))), some (.va (pairT l a)), some (.va (.int ((m : Int) - 1))), some (.va (.int (ln ws (m - 1) (j + 1)))), o9]
      -- line 100
      refine wss_cons (ws_while Iv (j + 1) ⟨Nat.le_refl _, .none, 0, _, .start, fun c h1 h2 => absurd h2 (by omega), rfl⟩ ?step hp)
      case step =>
        rintro m en ⟨hme, l, a, o9, hs, hm, rfl⟩
        rcases m with _ | b
        · refine WW.t (ww_and (wt_cmp dop_ge (w_var 6 (w_int ⟨rfl, rfl, _, rfl, ⟨fun h => ?_, fun h => ?_⟩⟩))))
          · exact absurd h (by decide)
          · refine ⟨(fun z => nomatch z), fun _ => ?_⟩
            show WSs _ _ _ _ _
            have hb : ∀ c, c < (j + 1) → ln ws c (j + 1) ≤ wd → 0 ≤ c := fun c _ _ => Nat.zero_le _
            obtain ⟨rfl, rfl⟩ := sofar_table W (by omega) (by omega) hs hb hm
            -- line 106
            refine wss_cons (ws_expr (w_append (w_var 2 ⟨_, _, _, _, rfl, rfl, (w_ix (w_var 5 (w_int ⟨rfl, rfl, _, rfl, ⟨_, _, rfl, rfl, (by simp only [List.length_append, List.length_map, List.length_cons, List.length_nil, List.length_singleton, List.length_replicate, List.length_range, List.length_take, List.length_drop, List.length_dropLast, List.length_reverse, Bool.false_eq_true, eq_self, reduceIte, sizeLine_eq]; omega), ?_⟩⟩)))⟩)))
            -- line 107
            refine wss_one (ws_expr (w_append (w_var 3 ⟨_, _, _, _, rfl, rfl, (w_ix (w_var 5 (w_int ⟨rfl, rfl, _, rfl, ⟨_, _, rfl, rfl, (by simp only [List.length_append, List.length_map, List.length_cons, List.length_nil, List.length_singleton, List.length_replicate, List.length_range, List.length_take, List.length_drop, List.length_dropLast, List.length_reverse, Bool.false_eq_true, eq_self, reduceIte, sizeLine_eq]; omega), ?_⟩⟩)))⟩)))
            exact ⟨_, _, _, _, _, by rw [csL_snoc, bsL_snoc]; rfl⟩
        · have eb : (((b + 1 : Nat) : Int) - 1) = (b : Int) := by omega
          rw [eb, show b + 1 - 1 = b from rfl]
          have hbl : b < ws.length := by omega
          refine (WW.t (ww_and (wt_cmp dop_ge (w_var 6 (w_int ⟨rfl, rfl, _, rfl, ⟨fun h => (ww_and1 (wt_cmp dop_le (w_var 7 (w_var 0 ⟨rfl, rfl, _, rfl, ⟨fun h => ?_, fun h => ?_⟩⟩)))), fun h => ?_⟩⟩)))))
          · have h5 : ln ws b (j + 1) ≤ wd := of_decide_eq_true h
            have hm2 : ∀ c, b ≤ c → c < (j + 1) → ln ws c (j + 1) ≤ wd := fun c h1 h2 => by
              by_cases z : c = b
              · rw [z]; exact h5
              · exact hm c (by omega) h2
            have lb := ln_bd W (i := b) (j := (j + 1)) (by omega) (by omega)
            -- line 101
            refine wss_cons (ws_set 8 (w_bin dop_add (w_ix (w_var 2 (w_var 6 ⟨rfl, rfl, _, (csL_at (by omega)), (w_bin dop_pow (w_bin dop_sub (w_var 0 (w_var 7 ⟨rfl, rfl, (w_int ⟨rfl, rfl, (.inl ⟨by decide, by decide, by omega⟩), ⟨rfl, rfl, ⟨Nat.lt_of_sub_eq_succ rfl, ?_⟩⟩⟩)⟩))))⟩)))) sc__law_costs.nd)
            refine wss_cons (WS.imp (P := fun o => ∃ l' a', ∃ o9, Sofar (fun b => C wd ws b + sq wd ws b (j + 1)) b (j + 1) l' a' ∧ o = .nx [some (.va (.int wd)), some (.va (.tuple (iDs ws))), some (.lst p1 (iDs (csL wd ws j))), some (.lst p2 (nDs (bsL wd ws j))), some (.va (.int ((j + 1 : Nat) : Int))), some (.va (pairT l' a')), some (.va (.int (b : Int))), some (.va (.int (ln ws b (j + 1)))), o9]) ?jn ?rest)
            case jn =>
              rcases step_none hs with ⟨rfl, rfl, he⟩ | hl
              · refine ws_if (WW.t (ww_or (wt_cmp dop_isN (w_var 5 (w_non ⟨rfl, rfl, _, rfl, ⟨fun h => ?_, fun h => ?_⟩⟩)))))
                · exact absurd h (by decide)
                · refine ⟨fun _ => ?_, fun z => nomatch z⟩
                  -- line 103
                  refine wss_one (ws_set 5 (w_tup ⟨rfl, (w_var 8 ⟨rfl, (w_var 6 ⟨(by first | decide | (simp only [List.length_append, List.length_map, List.length_cons, List.length_nil, List.length_singleton, List.length_replicate, List.length_range, List.length_take, List.length_drop, List.length_dropLast, List.length_reverse, Bool.false_eq_true, eq_self, reduceIte, sizeLine_eq]; omega)), ⟨Nat.lt_of_sub_eq_succ rfl, ?_⟩⟩)⟩)⟩) sc__law_costs.nd)
                  exact ⟨_, b, _, (by have := Sofar.first (f := (fun b => C wd ws b + sq wd ws b (j + 1))) (b := b); rwa [← he] at this), rfl⟩
              · subst hl
                refine ws_if (WW.t (ww_or (wt_cmp dop_isN (w_var 5 (w_non ⟨rfl, rfl, _, rfl, ⟨fun h => (ww_or1 (wt_cmp dop_lt (w_var 8 (w_ix (w_var 5 (w_int ⟨rfl, rfl, _, rfl, ⟨rfl, rfl, _, rfl, ⟨fun h => ?_, fun h => ?_⟩⟩⟩)))))), fun h => ?_⟩⟩)))))
                · have hlt : (fun b => C wd ws b + sq wd ws b (j + 1)) b < (fun b => C wd ws b + sq wd ws b (j + 1)) a := of_decide_eq_true h
                  -- line 103
                  refine wss_one (ws_set 5 (w_tup ⟨rfl, (w_var 8 ⟨rfl, (w_var 6 ⟨(by first | decide | (simp only [List.length_append, List.length_map, List.length_cons, List.length_nil, List.length_singleton, List.length_replicate, List.length_range, List.length_take, List.length_drop, List.length_dropLast, List.length_reverse, Bool.false_eq_true, eq_self, reduceIte, sizeLine_eq]; omega)), ⟨Nat.lt_of_sub_eq_succ rfl, ?_⟩⟩)⟩)⟩) sc__law_costs.nd)
                  exact ⟨_, b, _, hs.less rfl hlt (by omega), rfl⟩
                · have hlt : ¬ (fun b => C wd ws b + sq wd ws b (j + 1)) b < (fun b => C wd ws b + sq wd ws b (j + 1)) a := of_decide_eq_false h
                  exact wss_nil ⟨_, a, _, hs.more rfl hlt, rfl⟩
                · exact absurd (show false = true from h) (by decide)
            case rest =>
              rintro o ⟨l', a', o9', hs', rfl⟩
              show WSs _ _ _ _ _
              -- line 104
              refine wss_cons (ws_set 6 (w_bin dop_sub (w_var 6 (w_int ⟨rfl, rfl, ⟨Nat.lt_of_sub_eq_succ rfl, ?_⟩⟩))) sc__law_costs.nd)
              rcases b with _ | c
              · refine wss_one (ws_set 7 (w_ifExp (wt_cmp dop_ge (w_var 6 (w_int ⟨rfl, rfl, _, rfl, ⟨fun h => absurd h (by decide), fun h => (w_var 7 ⟨Nat.lt_of_sub_eq_succ rfl, ?_⟩)⟩⟩)))) sc__law_costs.nd)
                exact ⟨0, by omega, by omega, l', a', o9', hs', hm2, rfl⟩
              · have ec : (((c + 1 : Nat) : Int) - 1) = (c : Int) := by omega
                rw [ec]
                have lp := ln_pred ws (j + 1) (b := c) (by omega)
                refine wss_one (ws_set 7 (w_ifExp (wt_cmp dop_ge (w_var 6 (w_int ⟨rfl, rfl, _, rfl, ⟨fun h => (w_bin dop_add (w_bin dop_add (w_var 7 (w_int ⟨rfl, rfl, (w_ix (w_var 1 (w_var 6 ⟨rfl, rfl, _, (ws_at' (show c < ws.length by omega)), ⟨rfl, rfl, ⟨Nat.lt_of_sub_eq_succ rfl, ?_⟩⟩⟩)))⟩)))), fun h => absurd (of_decide_eq_false h) (by omega)⟩⟩)))) sc__law_costs.nd)
                rw [lp]
                exact ⟨c + 1, by omega, by omega, l', a', o9', hs', hm2, by rw [ec]; rfl⟩
          · have h5 : ¬ ln ws b (j + 1) ≤ wd := of_decide_eq_false h
            have hb := fits_down W (b := b) (e := (j + 1)) (by omega) (by omega) h5
            show WSs _ _ _ _ _
            obtain ⟨rfl, rfl⟩ := sofar_table W (by omega) (by omega) hs hb hm
            -- line 106
            refine wss_cons (ws_expr (w_append (w_var 2 ⟨_, _, _, _, rfl, rfl, (w_ix (w_var 5 (w_int ⟨rfl, rfl, _, rfl, ⟨_, _, rfl, rfl, (by simp only [List.length_append, List.length_map, List.length_cons, List.length_nil, List.length_singleton, List.length_replicate, List.length_range, List.length_take, List.length_drop, List.length_dropLast, List.length_reverse, Bool.false_eq_true, eq_self, reduceIte, sizeLine_eq]; omega), ?_⟩⟩)))⟩)))
            -- line 107
            refine wss_one (ws_expr (w_append (w_var 3 ⟨_, _, _, _, rfl, rfl, (w_ix (w_var 5 (w_int ⟨rfl, rfl, _, rfl, ⟨_, _, rfl, rfl, (by simp only [List.length_append, List.length_map, List.length_cons, List.length_nil, List.length_singleton, List.length_replicate, List.length_range, List.length_take, List.length_drop, List.length_dropLast, List.length_reverse, Bool.false_eq_true, eq_self, reduceIte, sizeLine_eq]; omega), ?_⟩⟩)))⟩)))
            exact ⟨_, _, _, _, _, by rw [csL_snoc, bsL_snoc]; rfl⟩
          · exact absurd (of_decide_eq_false h) (by omega)
    · rintro e ⟨o4, o5, o6, o7, o8, rfl⟩
      rw [rangeD_len]
      -- line 108
      refine wss_one (ws_ret (w_tup ⟨rfl, (w_var 2 ⟨rfl, (w_var 3 ⟨rfl, ⟨rfl, ⟨(by first | decide | (simp only [List.length_append, List.length_map, List.length_cons, List.length_nil, List.length_singleton, List.length_replicate, List.length_range, List.length_take, List.length_drop, List.length_dropLast, List.length_reverse, Bool.false_eq_true, eq_self, reduceIte, sizeLine_eq]; omega)), ?_⟩⟩⟩)⟩)⟩))
      exact q
abbrev N__law_last : List Str := ["_law_wide", "_law_row_here", "_law_low_costs", "_law_low", "_law_long", "_law_found"]
theorem sc__law_last : FnScope N__law_last ["_law_wide", "_law_row_here", "_law_low_costs"] (defScope (topS 14)) := ⟨rfl, rfl, rfl, by decide +kernel, rfl, by decide +kernel, by decide +kernel⟩
theorem g__law_last {f : Addr} {fd : FuncData} {k : Nat} (Fn : Fun K "_law_last" "_law_last" (topS 14) f fd) (m_len : mg "len" = none) : FnG P w K mg base Tq (k + 1) f fd ["_law_wide", "_law_row_here", "_law_low_costs"] spLast9 := by
  refine fn_g Fn sc__law_last (fun ts Q E h => ?_) fun cdv A outer s H E Z ts QT ET hr hgd hp tk h => ?_
  · obtain ⟨wd, ws, rfl, W, h0, q⟩ := h; rfl
  · obtain ⟨wd, ws, rfl, W, h0, q⟩ := h
    have hlen := W.len
    have hnl : (iDs ws).length = ws.length := List.length_map _
    have w1 := W.w1
    have w2 := W.w2
    have hlx : ws[ws.length - 1]? = some (ws[ws.length - 1]'(by omega)) := List.getElem?_eq_getElem (by omega)
    have ha : atI (iDs ws) (-1) = some (.int (ws[ws.length - 1]'(by omega))) := by
      refine atI_last' ?_
      rw [List.getLast?_map, List.getLast?_eq_getElem?, hlx]; rfl
    -- line 110
    refine wss_cons (ws_par3 3 4 5 rfl sc__law_last.nd ⟨rfl, (w_bin dop_sub (w_callB dc_len m_len rfl ⟨rfl, (w_var 1 ⟨rfl, (w_int ⟨rfl, rfl, ⟨rfl, (w_ix (w_var 1 (w_neg (w_int ⟨rfl, ⟨rfl, rfl, _, ha, ⟨rfl, (w_non ⟨_, _, _, rfl, Nat.lt_of_sub_eq_succ rfl, Nat.lt_of_sub_eq_succ rfl, Nat.lt_of_sub_eq_succ rfl, ?_⟩)⟩⟩⟩))))⟩⟩)⟩)⟩))⟩)
    rw [show ws[ws.length - 1]'(by omega) = ln ws (ws.length - 1) ws.length by have := ln_one W (j := ws.length - 1) (by omega); rw [show ws.length - 1 + 1 = ws.length by omega] at this; exact this.symm, hnl]
    let Iv : Nat → QL.Env → Prop := fun m en => m ≤ ws.length ∧ ∃ l a, ∃ o9 : Unit, Sofar (C wd ws) m ws.length l a ∧ (∀ c, m ≤ c → c < ws.length → ln ws c ws.length ≤ wd) ∧ en = [some (.va (.int wd)), some (.va (.tuple (iDs ws))), some (.va (.list (iDs (csL wd ws ws.length)))), some (.va (.int ((m : Int) - 1))), some (.va (.int (ln ws (m - 1) ws.length))), some (.va (oneT l a))]
    -- line 111
    refine wss_cons (ws_while Iv ws.length ⟨Nat.le_refl _, .none, 0, (), .start, fun c h1 h2 => absurd h2 (by omega), rfl⟩ ?step hp)
    case step =>
      rintro m en ⟨hme, l, a, o9, hs, hm, rfl⟩
      rcases m with _ | b
      · refine WW.t (ww_and (wt_cmp dop_ge (w_var 3 (w_int ⟨rfl, rfl, _, rfl, ⟨fun h => ?_, fun h => ?_⟩⟩))))
        · exact absurd h (by decide)
        · refine ⟨(fun z => nomatch z), fun _ => ?_⟩
          show WSs _ _ _ _ _
          have hb : ∀ c, c < ws.length → ln ws c ws.length ≤ wd → 0 ≤ c := fun c _ _ => Nat.zero_le _
          obtain ⟨rfl, rfl⟩ := sofar_last W (by omega) hs hb hm
          -- line 116
          refine wss_one (ws_ret (w_var 5 ?_))
          exact q
      · have eb : (((b + 1 : Nat) : Int) - 1) = (b : Int) := by omega
        rw [eb, show b + 1 - 1 = b from rfl]
        have hbl : b < ws.length := by omega
        refine (WW.t (ww_and (wt_cmp dop_ge (w_var 3 (w_int ⟨rfl, rfl, _, rfl, ⟨fun h => (ww_and1 (wt_cmp dop_le (w_var 4 (w_var 0 ⟨rfl, rfl, _, rfl, ⟨fun h => ?_, fun h => ?_⟩⟩)))), fun h => ?_⟩⟩)))))
        · have h5 : ln ws b ws.length ≤ wd := of_decide_eq_true h
          have hm2 : ∀ c, b ≤ c → c < ws.length → ln ws c ws.length ≤ wd := fun c h1 h2 => by
            by_cases z : c = b
            · rw [z]; exact h5
            · exact hm c (by omega) h2
          have lb := ln_bd W (i := b) (j := ws.length) (by omega) (by omega)
          refine wss_cons (WS.imp (P := fun o => ∃ l' a', ∃ o9 : Unit, Sofar (C wd ws) b ws.length l' a' ∧ o = .nx [some (.va (.int wd)), some (.va (.tuple (iDs ws))), some (.va (.list (iDs (csL wd ws ws.length)))), some (.va (.int (b : Int))), some (.va (.int (ln ws b ws.length))), some (.va (oneT l' a'))]) ?jn ?rest)
          case jn =>
            rcases step_none hs with ⟨rfl, rfl, he⟩ | hl
            · refine ws_if (WW.t (ww_or (wt_cmp dop_isN (w_var 5 (w_non ⟨rfl, rfl, _, rfl, ⟨fun h => ?_, fun h => ?_⟩⟩)))))
              · exact absurd h (by decide)
              · refine ⟨fun _ => ?_, fun z => nomatch z⟩
                -- line 113
                refine wss_one (ws_set 5 (w_var 3 ⟨Nat.lt_of_sub_eq_succ rfl, ?_⟩) sc__law_last.nd)
                exact ⟨_, b, (), (by have := Sofar.first (f := (C wd ws)) (b := b); rwa [← he] at this), rfl⟩
            · subst hl
              have hab : a ≤ ws.length := by rcases hs with ⟨z, _⟩ | ⟨_, _, z, _⟩ <;> first | (cases z) | omega
              refine ws_if (WW.t (ww_or (wt_cmp dop_isN (w_var 5 (w_non ⟨rfl, rfl, _, rfl, ⟨fun h => (ww_or1 (wt_cmp dop_lt (w_ix (w_var 2 (w_var 3 ⟨rfl, rfl, _, (csL_at (by omega)), (w_ix (w_var 2 (w_var 5 ⟨rfl, rfl, _, (csL_at (by omega)), ⟨rfl, rfl, _, rfl, ⟨fun h => ?_, fun h => ?_⟩⟩⟩)))⟩))))), fun h => ?_⟩⟩)))))
              · have hlt : (C wd ws) b < (C wd ws) a := of_decide_eq_true h
                -- line 113
                refine wss_one (ws_set 5 (w_var 3 ⟨Nat.lt_of_sub_eq_succ rfl, ?_⟩) sc__law_last.nd)
                exact ⟨_, b, (), hs.less rfl hlt (by omega), rfl⟩
              · have hlt : ¬ (C wd ws) b < (C wd ws) a := of_decide_eq_false h
                exact wss_nil ⟨_, a, (), hs.more rfl hlt, rfl⟩
              · exact absurd (show false = true from h) (by decide)
          case rest =>
            rintro o ⟨l', a', o9', hs', rfl⟩
            show WSs _ _ _ _ _
            -- line 114
            refine wss_cons (ws_set 3 (w_bin dop_sub (w_var 3 (w_int ⟨rfl, rfl, ⟨Nat.lt_of_sub_eq_succ rfl, ?_⟩⟩))) sc__law_last.nd)
            rcases b with _ | c
            · refine wss_one (ws_set 4 (w_ifExp (wt_cmp dop_ge (w_var 3 (w_int ⟨rfl, rfl, _, rfl, ⟨fun h => absurd h (by decide), fun h => (w_var 4 ⟨Nat.lt_of_sub_eq_succ rfl, ?_⟩)⟩⟩)))) sc__law_last.nd)
              exact ⟨0, by omega, by omega, l', a', o9', hs', hm2, rfl⟩
            · have ec : (((c + 1 : Nat) : Int) - 1) = (c : Int) := by omega
              rw [ec]
              have lp := ln_pred ws ws.length (b := c) (by omega)
              refine wss_one (ws_set 4 (w_ifExp (wt_cmp dop_ge (w_var 3 (w_int ⟨rfl, rfl, _, rfl, ⟨fun h => (w_bin dop_add (w_bin dop_add (w_var 4 (w_int ⟨rfl, rfl, (w_ix (w_var 1 (w_var 3 ⟨rfl, rfl, _, (ws_at' (show c < ws.length by omega)), ⟨rfl, rfl, ⟨Nat.lt_of_sub_eq_succ rfl, ?_⟩⟩⟩)))⟩)))), fun h => absurd (of_decide_eq_false h) (by omega)⟩⟩)))) sc__law_last.nd)
              rw [lp]
              exact ⟨c + 1, by omega, by omega, l', a', o9', hs', hm2, by rw [ec]; rfl⟩
        · have h5 : ¬ ln ws b ws.length ≤ wd := of_decide_eq_false h
          have hb := fits_down W (b := b) (e := ws.length) (by omega) (by omega) h5
          show WSs _ _ _ _ _
          obtain ⟨rfl, rfl⟩ := sofar_last W (by omega) hs hb hm
          -- line 116
          refine wss_one (ws_ret (w_var 5 ?_))
          exact q
        · exact absurd (of_decide_eq_false h) (by omega)
end
end K10

/-! LG: where the line that goes on begins. -/
namespace LM
open PySem
/-- the best one of a kind, the latest of several -/
def IsBest (f : Nat → Int) (S : Nat → Prop) (b : Nat) : Prop := S b ∧ ∀ c, S c → f b < f c ∨ (f b = f c ∧ c ≤ b)
theorem IsBest.uniq {f : Nat → Int} {S : Nat → Prop} {b c : Nat} (h : IsBest f S b) (g : IsBest f S c) : b = c := by
  have := h.2 c g.1
  have := g.2 b h.1
  omega
theorem best_is {f : Nat → Int} {bs : List Nat} (h : bs ≠ []) : ∃ b, best f bs = (f b, -(b : Int)) ∧ IsBest f (· ∈ bs) b := by
  obtain ⟨b, hb, e, hm⟩ := best_spec f h
  exact ⟨b, e, hb, hm⟩
/-- the length from a place to the end -/
def tl (ws : List Int) (p : Nat) : Int := ln ws p ws.length
theorem tl_end (ws : List Int) : tl ws ws.length = -1 := by unfold tl ln; omega
/-- the places whose lines fit with a word behind them -/
def fit (wd : Int) (ws : List Int) (u : Int) : List Nat := (List.range (ws.length + 1)).filter fun p => decide (tl ws p ≤ wd - 1 - u)
def Fits (wd : Int) (ws : List Int) (u : Int) (p : Nat) : Prop := p ≤ ws.length ∧ tl ws p ≤ wd - 1 - u
theorem fit_mem {wd : Int} {ws : List Int} {u : Int} {p : Nat} : p ∈ fit wd ws u ↔ Fits wd ws u p := by
  unfold fit Fits
  rw [List.mem_filter, List.mem_range, decide_eq_true_eq]
  omega
theorem fit_ne {wd : Int} {ws : List Int} {u : Int} (h : u ≤ wd) : fit wd ws u ≠ [] := List.ne_nil_of_mem (fit_mem.mpr ⟨Nat.le_refl _, by rw [tl_end]; omega⟩)
/-- the full cost if the line from p ends with a word -/
def cc (wd : Int) (ws : List Int) (u : Int) (p : Nat) : Int := C wd ws p + (wd - 1 - u - tl ws p) * (wd - 1 - u - tl ws p)
def opn (wd : Int) (ws : List Int) (u : Int) : Nat := (-(best (C wd ws) (fit wd ws u)).2).toNat
def cls (wd : Int) (ws : List Int) (u : Int) : Nat := (-(best (cc wd ws u) (fit wd ws u)).2).toNat
theorem opn_is {wd : Int} {ws : List Int} {u : Int} (h : u ≤ wd) : best (C wd ws) (fit wd ws u) = (C wd ws (opn wd ws u), -(opn wd ws u : Int)) ∧ IsBest (C wd ws) (Fits wd ws u) (opn wd ws u) := by
  obtain ⟨b, e, hb⟩ := best_is (f := C wd ws) (fit_ne (ws := ws) h)
  have eb : opn wd ws u = b := by unfold opn; rw [e]; simp
  rw [eb]
  exact ⟨e, fit_mem.mp hb.1, fun c hc => hb.2 c (fit_mem.mpr hc)⟩
theorem cls_is {wd : Int} {ws : List Int} {u : Int} (h : u ≤ wd) : best (cc wd ws u) (fit wd ws u) = (cc wd ws u (cls wd ws u), -(cls wd ws u : Int)) ∧ IsBest (cc wd ws u) (Fits wd ws u) (cls wd ws u) := by
  obtain ⟨b, e, hb⟩ := best_is (f := cc wd ws u) (fit_ne (ws := ws) h)
  have eb : cls wd ws u = b := by unfold cls; rw [e]; simp
  rw [eb]
  exact ⟨e, fit_mem.mp hb.1, fun c hc => hb.2 c (fit_mem.mpr hc)⟩
/-! ### the start of a future -/
section
variable {wd : Int} {ws vs : List Int} (W : Wd wd (ws ++ vs))
include W
theorem ln_on {b e : Nat} (hb : b ≤ ws.length) (he : ws.length < e) (hm : e ≤ (ws ++ vs).length) : ln (ws ++ vs) b e = tl ws b + 1 + ln (ws ++ vs) ws.length e := by
  have h := ln_appL (ws := ws) (vs := vs) (i := b) (j := ws.length) hb (Nat.le_refl _)
  unfold tl
  rw [← h]
  unfold ln
  omega
theorem C_on {b : Nat} (hb : b ≤ ws.length) : C wd (ws ++ vs) b = C wd ws b := (CB_congr (n := ws.length) (fun i j h1 h2 => ln_appL (by omega) h2) hb).1
theorem U_bd {p e : Nat} (hp : p ≤ ws.length) (he : ws.length < e) (hm : e ≤ (ws ++ vs).length) (hf : ln (ws ++ vs) p e ≤ wd) : 1 ≤ ln (ws ++ vs) ws.length e ∧ ln (ws ++ vs) ws.length e ≤ wd :=
  ⟨ln_pos W he hm, Int.le_trans (ln_anti W hp (by omega) hm) hf⟩
theorem last_opn (hv : vs ≠ []) (h : LS wd (ws ++ vs) ≤ ws.length) : 1 ≤ ln (ws ++ vs) ws.length (ws ++ vs).length ∧ ln (ws ++ vs) ws.length (ws ++ vs).length ≤ wd ∧ LS wd (ws ++ vs) = opn wd ws (ln (ws ++ vs) ws.length (ws ++ vs).length) := by
  have hvp : 0 < vs.length := List.length_pos_iff.mpr hv
  have hl : (ws ++ vs).length = ws.length + vs.length := List.length_append
  obtain ⟨l1, l2, _, l4⟩ := LS_at W (by omega)
  obtain ⟨u1, u2⟩ := U_bd W h (by omega) (Nat.le_refl _) l2
  refine ⟨u1, u2, IsBest.uniq (f := C wd ws) (S := Fits wd ws (ln (ws ++ vs) ws.length (ws ++ vs).length)) (show IsBest _ _ _ from ⟨⟨h, ?_⟩, fun c hc => ?_⟩) (opn_is u2).2⟩
  · have := ln_on W h (by omega) (Nat.le_refl _); omega
  · have := l4 c (by have := hc.1; omega) (by rw [ln_on W hc.1 (by omega) (Nat.le_refl _)]; have := hc.2; omega)
    rw [C_on W h, C_on W hc.1] at this
    exact this
theorem B_cls {e : Nat} (he : ws.length < e) (hm : e ≤ (ws ++ vs).length) (h : B wd (ws ++ vs) e ≤ ws.length) : 1 ≤ ln (ws ++ vs) ws.length e ∧ ln (ws ++ vs) ws.length e ≤ wd ∧ B wd (ws ++ vs) e = cls wd ws (ln (ws ++ vs) ws.length e) := by
  obtain ⟨l1, l2, l3, _, l4⟩ := CB_at W (by omega) hm
  obtain ⟨u1, u2⟩ := U_bd W h he hm l2
  have key : ∀ c, c ≤ ws.length → C wd (ws ++ vs) c + sq wd (ws ++ vs) c e = cc wd ws (ln (ws ++ vs) ws.length e) c := fun c hc => by
    unfold cc sq
    rw [C_on W hc, ln_on W hc he hm, show wd - (tl ws c + 1 + ln (ws ++ vs) ws.length e) = wd - 1 - ln (ws ++ vs) ws.length e - tl ws c by omega, Int.pow_succ, Int.pow_succ, Int.pow_zero, Int.one_mul]
  refine ⟨u1, u2, IsBest.uniq (f := cc wd ws (ln (ws ++ vs) ws.length e)) (S := Fits wd ws (ln (ws ++ vs) ws.length e)) (show IsBest _ _ _ from ⟨⟨h, ?_⟩, fun c hc => ?_⟩) (cls_is u2).2⟩
  · have := ln_on W h he hm; omega
  · have := l4 c (by have := hc.1; omega) (by rw [ln_on W hc.1 he hm]; have := hc.2; omega)
    rw [l3, key _ h, key _ hc.1] at this
    exact this
theorem way_cls {e : Nat} : ws.length < e → e ≤ (ws ++ vs).length → ∃ U, 1 ≤ U ∧ U ≤ wd ∧ lastLe ws.length (way wd (ws ++ vs) e) = cls wd ws U := by
  induction e using Nat.strongRecOn with
  | _ e ih =>
    intro he hm
    obtain ⟨l1, l2, l3, _, l4⟩ := CB_at W (e := e) (by omega) hm
    rw [way_step W (by omega) hm, lastLe_no _ (by omega)]
    by_cases h : B wd (ws ++ vs) e ≤ ws.length
    · obtain ⟨a, b, c⟩ := B_cls W he hm h
      exact ⟨_, a, b, by rw [lastLe_way W (by omega) h, c]⟩
    · exact ih _ l1 (by omega) (by omega)
/-- the start of any future is that of one or two words -/
theorem start_any (hv : vs ≠ []) : ∃ U, 1 ≤ U ∧ U ≤ wd ∧ (lastLe ws.length (bestLay wd (ws ++ vs)) = opn wd ws U ∨ lastLe ws.length (bestLay wd (ws ++ vs)) = cls wd ws U) := by
  have hvp : 0 < vs.length := List.length_pos_iff.mpr hv
  have hl : (ws ++ vs).length = ws.length + vs.length := List.length_append
  have hb : bestLay wd (ws ++ vs) = way wd (ws ++ vs) (LS wd (ws ++ vs)) ++ [(ws ++ vs).length] := by unfold bestLay; rw [if_neg (by omega)]
  have hls := LS_le W
  rw [hb, lastLe_no _ (by omega)]
  by_cases h : LS wd (ws ++ vs) ≤ ws.length
  · obtain ⟨a, b, c⟩ := last_opn W hv h
    exact ⟨_, a, b, .inl (by rw [lastLe_way W hls h, ← c])⟩
  · obtain ⟨U, a, b, c⟩ := way_cls W (e := LS wd (ws ++ vs)) (by omega) hls
    exact ⟨U, a, b, .inr c⟩
end
theorem ln_last (ws : List Int) (u : Int) : ln (ws ++ [u]) ws.length (ws ++ [u]).length = u := by
  have h := sm_succ (ws ++ [u]) (j := ws.length) (by simp)
  unfold ln
  rw [show (ws ++ [u]).length = ws.length + 1 by simp, h]
  simp
  omega
theorem start_one {wd : Int} {ws : List Int} {u : Int} (W : Wd wd (ws ++ [u])) : lastLe ws.length (bestLay wd (ws ++ [u])) = opn wd ws u := by
  have hl : (ws ++ [u]).length = ws.length + 1 := by simp
  obtain ⟨l1, _⟩ := LS_at W (by omega)
  have hb : bestLay wd (ws ++ [u]) = way wd (ws ++ [u]) (LS wd (ws ++ [u])) ++ [(ws ++ [u]).length] := by unfold bestLay; rw [if_neg (by omega)]
  rw [hb, lastLe_no _ (by omega)]
  obtain ⟨_, _, c⟩ := last_opn W (List.cons_ne_nil _ _) (by omega)
  rw [lastLe_way W (by omega) (by omega), c, ln_last]
theorem start_two {wd : Int} {ws : List Int} {u : Int} (W : Wd wd (ws ++ [u])) (h : ws.length + 2 ≤ 1000) : lastLe ws.length (bestLay wd (ws ++ [u, wd])) = cls wd ws u := by
  have hl : (ws ++ [u]).length = ws.length + 1 := by simp
  have e : ws ++ [u, wd] = ws ++ [u] ++ [wd] := by simp
  have W2 := W.snocW (x := wd) (by omega) W.w1 (Int.le_refl _)
  obtain ⟨c1, _⟩ := LS_wide W (by omega)
  have hl2 : (ws ++ [u] ++ [wd]).length = ws.length + 2 := by simp
  have hb : bestLay wd (ws ++ [u] ++ [wd]) = way wd (ws ++ [u] ++ [wd]) (LS wd (ws ++ [u] ++ [wd])) ++ [(ws ++ [u] ++ [wd]).length] := by unfold bestLay; rw [if_neg (by omega)]
  rw [e, hb, lastLe_no _ (by omega), c1, hl]
  obtain ⟨b1, _⟩ := CB_at W2 (e := ws.length + 1) (by omega) (by omega)
  rw [way_step W2 (by omega) (by omega), lastLe_no _ (by omega), lastLe_way W2 (by omega) (by omega)]
  have W3 : Wd wd (ws ++ [u, wd]) := by rw [e]; exact W2
  have q := (B_cls W3 (e := ws.length + 1) (by omega) (by simp) (by rw [e]; omega)).2.2
  rw [e] at q
  rw [q]
  congr 1
  have := ln_appL (ws := ws ++ [u]) (vs := [wd]) (i := ws.length) (j := ws.length + 1) (by omega) (by omega)
  rw [this]
  have := ln_last ws u
  rwa [hl] at this
end LM

/-! LH: ranges of words with one start. -/
namespace LM
open PySem
theorem sqd (r a : Int) : (r - a) * (r - a) = r * r - 2 * (r * a) + a * a := by
  rw [Int.sub_mul, Int.mul_sub, Int.mul_sub, Int.mul_comm a r]; omega
/-- what is won at a later place -/
def gain (wd : Int) (ws : List Int) (p q : Nat) : Int := C wd ws p - C wd ws q + tl ws p * tl ws p - tl ws q * tl ws q
theorem cc_diff (wd : Int) (ws : List Int) (u : Int) (p q : Nat) : cc wd ws u p - cc wd ws u q = gain wd ws p q - 2 * (tl ws p - tl ws q) * (wd - 1 - u) := by
  unfold cc gain
  generalize wd - 1 - u = r
  have h1 := sqd r (tl ws p)
  have h2 := sqd r (tl ws q)
  have h3 : 2 * (tl ws p - tl ws q) * r = 2 * (r * tl ws p) - 2 * (r * tl ws q) := by
    rw [Int.mul_assoc, Int.sub_mul, Int.mul_comm (tl ws p), Int.mul_comm (tl ws q)]; omega
  rw [h1, h2, h3]
  generalize r * tl ws p = x
  generalize r * tl ws q = y
  generalize r * r = z
  generalize tl ws p * tl ws p = s
  generalize tl ws q * tl ws q = t
  omega
theorem tl_lt {wd : Int} {ws : List Int} (W : Wd wd ws) {p q : Nat} (h : p < q) (hq : q ≤ ws.length) : tl ws q < tl ws p := by
  have := (sm_mono W (i := p) (j := q) (by omega) hq).1
  unfold tl ln
  omega
/-- p is cheaper than a later q as long as the word is short enough -/
theorem cheaper {wd : Int} {ws : List Int} (W : Wd wd ws) {p q : Nat} (h : p < q) (hq : q ≤ ws.length) (u : Int) : cc wd ws u p < cc wd ws u q ↔ u ≤ wd - 2 - gain wd ws p q / (2 * (tl ws p - tl ws q)) := by
  have d := cc_diff wd ws u p q
  have l := tl_lt W h hq
  have k : 0 < 2 * (tl ws p - tl ws q) := by omega
  have e : gain wd ws p q / (2 * (tl ws p - tl ws q)) < wd - 1 - u ↔ gain wd ws p q < (wd - 1 - u) * (2 * (tl ws p - tl ws q)) := Int.ediv_lt_iff_lt_mul k
  rw [Int.mul_comm (wd - 1 - u)] at e
  constructor
  · intro g
    have := e.mpr (by omega)
    omega
  · intro g
    have := e.mp (by omega)
    omega
/-- an earlier place that is no better gets no better with longer words -/
theorem no_better {wd : Int} {ws : List Int} (W : Wd wd ws) {p q : Nat} (h : q < p) (hp : p ≤ ws.length) {u v : Int} (huv : u ≤ v) (g : cc wd ws u p ≤ cc wd ws u q) : cc wd ws v p ≤ cc wd ws v q := by
  have d1 := cc_diff wd ws u q p
  have d2 := cc_diff wd ws v q p
  have l := tl_lt W h hp
  have m : 2 * (tl ws q - tl ws p) * (wd - 1 - v) ≤ 2 * (tl ws q - tl ws p) * (wd - 1 - u) := Int.mul_le_mul_of_nonneg_left (by omega) (by omega)
  omega
/-- the longest word with which the line from a place still fits -/
def lfit (wd : Int) (ws : List Int) (p : Nat) : Int := min wd (wd - 1 - tl ws p)
/-- the places kept -/
def rch (wd : Int) (ws : List Int) : List Nat := (List.range (ws.length + 1)).filter fun p => decide (p = ws.length ∨ tl ws p ≤ wd - 2)
theorem rch_mem {wd : Int} {ws : List Int} (W : Wd wd ws) {p : Nat} : p ∈ rch wd ws ↔ p ≤ ws.length ∧ tl ws p ≤ wd - 2 := by
  unfold rch
  rw [List.mem_filter, List.mem_range, decide_eq_true_eq]
  have := W.w1
  have := tl_end ws
  constructor
  · rintro ⟨a, b | b⟩
    · subst b; omega
    · omega
  · rintro ⟨a, b⟩
    exact ⟨by omega, .inr b⟩
def lcloF (wd : Int) (ws : List Int) (p : Nat) (f : Int) (q : Nat) : Int := if p < q then min f (wd - 2 - gain wd ws p q / (2 * (tl ws p - tl ws q))) else f
def lclo (wd : Int) (ws : List Int) (p : Nat) : Int := (rch wd ws).foldl (lcloF wd ws p) (lfit wd ws p)
theorem foldl_le {wd : Int} {ws : List Int} {p : Nat} {u : Int} : ∀ (qs : List Nat) (f : Int), u ≤ qs.foldl (lcloF wd ws p) f ↔ u ≤ f ∧ ∀ q ∈ qs, p < q → u ≤ wd - 2 - gain wd ws p q / (2 * (tl ws p - tl ws q))
  | [], f => by simp
  | q :: qs, f => by
    rw [List.foldl_cons, foldl_le qs]
    unfold lcloF
    by_cases h : p < q
    · rw [if_pos h]
      constructor
      · rintro ⟨a, b⟩
        refine ⟨by omega, fun x hx hl => ?_⟩
        rcases List.mem_cons.mp hx with rfl | z
        · omega
        · exact b x z hl
      · rintro ⟨a, b⟩
        have := b q List.mem_cons_self h
        exact ⟨by omega, fun x hx hl => b x (List.mem_cons_of_mem _ hx) hl⟩
    · rw [if_neg h]
      constructor
      · rintro ⟨a, b⟩
        refine ⟨a, fun x hx hl => ?_⟩
        rcases List.mem_cons.mp hx with rfl | z
        · exact absurd hl h
        · exact b x z hl
      · rintro ⟨a, b⟩
        exact ⟨a, fun x hx hl => b x (List.mem_cons_of_mem _ hx) hl⟩
theorem lclo_iff {wd : Int} {ws : List Int} (W : Wd wd ws) {p : Nat} {u : Int} (hp : p ∈ rch wd ws) : u ≤ lclo wd ws p ↔ u ≤ lfit wd ws p ∧ ∀ q, q ≤ ws.length → p < q → cc wd ws u p < cc wd ws u q := by
  unfold lclo
  rw [foldl_le]
  have hp := (rch_mem W).mp hp
  constructor
  · rintro ⟨a, b⟩
    exact ⟨a, fun q hq hl => (cheaper W hl hq u).mpr (b q ((rch_mem W).mpr ⟨hq, by have := tl_lt W hl hq; omega⟩) hl)⟩
  · rintro ⟨a, b⟩
    exact ⟨a, fun q hq hl => (cheaper W hl ((rch_mem W).mp hq).1 u).mp (b q ((rch_mem W).mp hq).1 hl)⟩
theorem fits_rch {wd : Int} {ws : List Int} (W : Wd wd ws) {u : Int} {p : Nat} (h1 : 1 ≤ u) (h : Fits wd ws u p) : p ∈ rch wd ws := (rch_mem W).mpr ⟨h.1, by have := h.2; omega⟩
/-- the range of a start: words that end their line -/
theorem cls_range {wd : Int} {ws : List Int} (W : Wd wd ws) {u : Int} (h1 : 1 ≤ u) (h2 : u ≤ wd) : u ≤ lclo wd ws (cls wd ws u) ∧ lclo wd ws (cls wd ws u) ≤ wd ∧ (∀ v, u ≤ v → v ≤ lclo wd ws (cls wd ws u) → cls wd ws v = cls wd ws u) ∧ (lclo wd ws (cls wd ws u) + 1 ≤ wd → cls wd ws u < cls wd ws (lclo wd ws (cls wd ws u) + 1)) := by
  obtain ⟨_, hs, hb⟩ := cls_is (ws := ws) h2
  generalize hp : cls wd ws u = p at hs hb
  have hr := fits_rch W h1 hs
  have lf : lclo wd ws p ≤ lfit wd ws p := ((lclo_iff W hr).mp (Int.le_refl _)).1
  have lw : lclo wd ws p ≤ wd := by unfold lfit at lf; omega
  -- u itself
  have uu : u ≤ lclo wd ws p := (lclo_iff W hr).mpr ⟨by unfold lfit; have := hs.2; omega, fun q hq hl => by
    have := hb q ⟨hq, by have := tl_lt W hl hq; have := hs.2; omega⟩; omega⟩
  have earlier : ∀ v, u ≤ v → ∀ q, q < p → Fits wd ws v q → cc wd ws v p ≤ cc wd ws v q := fun v hv q hq hf =>
    no_better W hq hs.1 hv (by have := hb q ⟨hf.1, by have := hf.2; omega⟩; omega)
  refine ⟨uu, lw, fun v v1 v2 => ?_, fun h => ?_⟩
  · obtain ⟨a, b⟩ := (lclo_iff W hr).mp v2
    refine (IsBest.uniq (f := cc wd ws v) (S := Fits wd ws v) (b := p) ⟨⟨hs.1, by unfold lfit at a; omega⟩, fun q hq => ?_⟩ (cls_is (by omega)).2).symm
    rcases Nat.lt_trichotomy q p with z | z | z
    · have := earlier v v1 q z hq; omega
    · subst z; exact .inr ⟨rfl, Nat.le_refl _⟩
    · have := b q hq.1 z; exact .inl this
  · obtain ⟨_, hs', hb'⟩ := cls_is (ws := ws) h
    generalize hq : cls wd ws (lclo wd ws p + 1) = q at hs' hb'
    rcases Nat.lt_trichotomy q p with z | z | z
    · -- an earlier one is no better
      have hpf : Fits wd ws (lclo wd ws p + 1) p := ⟨hs.1, by have := tl_lt W z hs.1; have := hs'.2; omega⟩
      have a := earlier _ (by omega) q z hs'
      have b := hb' p hpf
      omega
    · subst z
      have := (lclo_iff W hr (u := lclo wd ws q + 1)).mpr ⟨by unfold lfit; have := hs'.2; omega, fun x hx hl => by
        have := hb' x ⟨hx, by have := tl_lt W hl hx; have := hs'.2; omega⟩; omega⟩
      omega
    · exact z
/-- the range of a start: words in the last line -/
theorem opn_range {wd : Int} {ws : List Int} (W : Wd wd ws) {u : Int} (h1 : 1 ≤ u) (h2 : u ≤ wd) : u ≤ lfit wd ws (opn wd ws u) ∧ lfit wd ws (opn wd ws u) ≤ wd ∧ (∀ v, u ≤ v → v ≤ lfit wd ws (opn wd ws u) → opn wd ws v = opn wd ws u) ∧ (lfit wd ws (opn wd ws u) + 1 ≤ wd → opn wd ws u < opn wd ws (lfit wd ws (opn wd ws u) + 1)) := by
  obtain ⟨_, hs, hb⟩ := opn_is (ws := ws) h2
  generalize hp : opn wd ws u = p at hs hb
  have s2 := hs.2
  refine ⟨by unfold lfit; omega, by unfold lfit; omega, fun v v1 v2 => ?_, fun h => ?_⟩
  · unfold lfit at v2
    exact (IsBest.uniq (f := C wd ws) (S := Fits wd ws v) (b := p) ⟨⟨hs.1, by omega⟩, fun q hq => hb q ⟨hq.1, by have := hq.2; omega⟩⟩ (opn_is (by omega)).2).symm
  · obtain ⟨_, hs', hb'⟩ := opn_is (ws := ws) h
    generalize hq : opn wd ws (lfit wd ws p + 1) = q at hs' hb'
    have s3 := hs'.2
    have np : ¬ tl ws p ≤ wd - 1 - (lfit wd ws p + 1) := by unfold lfit at h ⊢; omega
    rcases Nat.lt_trichotomy q p with z | z | z
    · have := tl_lt W z hs.1; omega
    · subst z; exact absurd s3 np
    · exact z
end LM

/-! LI: what closing_starts, open_starts and starts return. -/
namespace LM
open PySem
theorem fit_rch {wd : Int} {ws : List Int} {u : Int} (h1 : 1 ≤ u) (h2 : u ≤ wd) : (rch wd ws).filter (fun p => decide (tl ws p ≤ wd - 1 - u)) = fit wd ws u := by
  unfold rch fit
  rw [List.filter_filter]
  congr 1
  funext p
  by_cases h : tl ws p ≤ wd - 1 - u
  · rw [decide_eq_true h, decide_eq_true (Or.inr (by omega))]; rfl
  · rw [decide_eq_false h]; rfl
/-- ranges so far, the next one begins at lo -/
inductive Rgs (wd : Int) (f : Int → Nat) : List (Int × Int × Nat) → Int → Prop
  | nil : Rgs wd f [] 1
  | snoc {rs : List (Int × Int × Nat)} {lo hi : Int} : Rgs wd f rs lo → lo ≤ hi → hi ≤ wd → (∀ u, lo ≤ u → u ≤ hi → f u = f lo) → (hi + 1 ≤ wd → f lo < f (hi + 1)) → Rgs wd f (rs ++ [(lo, hi, f lo)]) (hi + 1)
section
variable {wd : Int} {f : Int → Nat}
theorem Rgs.one {rs : List (Int × Int × Nat)} {lo : Int} (h : Rgs wd f rs lo) : 1 ≤ lo := by
  induction h with
  | nil => exact Int.le_refl _
  | snoc _ _ _ _ _ ih => omega
theorem Rgs.len {rs : List (Int × Int × Nat)} {lo : Int} (h : Rgs wd f rs lo) : lo ≤ wd → rs.length ≤ f lo := by
  induction h with
  | nil => intro _; exact Nat.zero_le _
  | snoc h1 h2 h3 h4 h5 ih =>
    intro h
    have a := ih (by omega)
    have b := h5 h
    rw [List.length_append, List.length_singleton]
    omega
theorem Rgs.mem {rs : List (Int × Int × Nat)} {lo : Int} (h : Rgs wd f rs lo) (p : Nat) : (∃ r ∈ rs, r.2.2 = p) ↔ ∃ u, 1 ≤ u ∧ u < lo ∧ f u = p := by
  induction h with
  | nil => exact ⟨fun ⟨r, h, _⟩ => (nomatch h), fun ⟨u, a, b, _⟩ => absurd b (by omega)⟩
  | @snoc rs lo hi h1 h2 h3 h4 h5 ih =>
    have o := h1.one
    constructor
    · rintro ⟨r, hr, e⟩
      rcases List.mem_append.mp hr with z | z
      · obtain ⟨u, a, b, c⟩ := ih.mp ⟨r, z, e⟩
        exact ⟨u, a, by omega, c⟩
      · rw [List.mem_singleton.mp z] at e
        exact ⟨lo, o, by omega, e⟩
    · rintro ⟨u, a, b, c⟩
      by_cases z : u < lo
      · obtain ⟨r, hr, e⟩ := ih.mpr ⟨u, a, z, c⟩
        exact ⟨r, List.mem_append_left _ hr, e⟩
      · exact ⟨(lo, hi, f lo), List.mem_append_right _ (List.mem_singleton.mpr rfl), by show f lo = p; rw [← c]; exact (h4 u (by omega) (by omega)).symm⟩
/-- each range: its ends, its start -/
theorem Rgs.each {rs : List (Int × Int × Nat)} {lo : Int} (h : Rgs wd f rs lo) : ∀ r ∈ rs, 1 ≤ r.1 ∧ r.1 ≤ r.2.1 ∧ r.2.1 ≤ wd ∧ r.2.1 < lo ∧ ∀ u, r.1 ≤ u → u ≤ r.2.1 → f u = r.2.2 := by
  induction h with
  | nil => intro r h; nomatch h
  | @snoc rs lo hi h1 h2 h3 h4 h5 ih =>
    intro r hr
    have o := h1.one
    rcases List.mem_append.mp hr with z | z
    · have := ih r z; exact ⟨this.1, this.2.1, this.2.2.1, by omega, this.2.2.2.2⟩
    · rw [List.mem_singleton.mp z]; exact ⟨o, h2, h3, by show hi < hi + 1; omega, h4⟩
/-- the runs of equal starts, word by word -/
def runs (f : Int → Nat) : Nat → List (Int × Int × Nat)
  | 0 => []
  | k + 1 => match (runs f k).getLast? with
    | some r => if r.2.2 = f ((k : Int) + 1) then (runs f k).dropLast ++ [(r.1, (k : Int) + 1, r.2.2)] else runs f k ++ [((k : Int) + 1, (k : Int) + 1, f ((k : Int) + 1))]
    | none => runs f k ++ [((k : Int) + 1, (k : Int) + 1, f ((k : Int) + 1))]
theorem runs_snoc (k : Nat) (rs : List (Int × Int × Nat)) (r : Int × Int × Nat) (h : runs f k = rs ++ [r]) : runs f (k + 1) = if r.2.2 = f ((k : Int) + 1) then rs ++ [(r.1, (k : Int) + 1, r.2.2)] else (rs ++ [r]) ++ [((k : Int) + 1, (k : Int) + 1, f ((k : Int) + 1))] := by
  show (match (runs f k).getLast? with
    | some r => if r.2.2 = f ((k : Int) + 1) then (runs f k).dropLast ++ [(r.1, (k : Int) + 1, r.2.2)] else runs f k ++ [((k : Int) + 1, (k : Int) + 1, f ((k : Int) + 1))]
    | none => runs f k ++ [((k : Int) + 1, (k : Int) + 1, f ((k : Int) + 1))]) = _
  rw [h, List.getLast?_concat]
  simp only [List.dropLast_concat]
theorem Rgs.last {rs : List (Int × Int × Nat)} {lo : Int} (h : Rgs wd f rs lo) : rs = [] ∨ ∃ rs0 r, rs = rs0 ++ [r] ∧ (lo ≤ wd → r.2.2 < f lo) := by
  cases h with
  | nil => exact .inl rfl
  | snoc h1 h2 h3 h4 h5 => exact .inr ⟨_, _, rfl, h5⟩
theorem Rgs.runs {rs : List (Int × Int × Nat)} {lo : Int} (h : Rgs wd f rs lo) : rs = LM.runs f (lo - 1).toNat := by
  induction h with
  | nil => rfl
  | @snoc rs lo hi h1 h2 h3 h4 h5 ih =>
    have o := h1.one
    have key : ∀ j : Nat, lo + j ≤ hi → LM.runs f (lo - 1 + j + 1).toNat = rs ++ [(lo, lo + j, f lo)] := fun j => by
      induction j with
      | zero =>
        intro _
        have e1 : (lo - 1 + ((0 : Nat) : Int) + 1).toNat = (lo - 1).toNat + 1 := by omega
        have e2 : (((lo - 1).toNat : Nat) : Int) + 1 = lo := by omega
        rw [e1]
        have e3 : lo + ((0 : Nat) : Int) = lo := by omega
        rw [e3]
        rcases h1.last with z | ⟨rs0, r, z, lt⟩
        · subst z
          show (match (LM.runs f (lo - 1).toNat).getLast? with
            | some r => if r.2.2 = f (((lo - 1).toNat : Int) + 1) then (LM.runs f (lo - 1).toNat).dropLast ++ [(r.1, ((lo - 1).toNat : Int) + 1, r.2.2)] else LM.runs f (lo - 1).toNat ++ [(((lo - 1).toNat : Int) + 1, ((lo - 1).toNat : Int) + 1, f (((lo - 1).toNat : Int) + 1))]
            | none => LM.runs f (lo - 1).toNat ++ [(((lo - 1).toNat : Int) + 1, ((lo - 1).toNat : Int) + 1, f (((lo - 1).toNat : Int) + 1))]) = _
          rw [← ih, e2]
          rfl
        · have lt := lt (by omega)
          rw [runs_snoc _ rs0 r (by rw [← ih, z]), e2, if_neg (by omega), ← z]
      | succ j ihj =>
        intro hj
        have e0 := ihj (by omega)
        have e1 : (lo - 1 + ((j + 1 : Nat) : Int) + 1).toNat = (lo - 1 + (j : Int) + 1).toNat + 1 := by omega
        have e2 : (((lo - 1 + (j : Int) + 1).toNat : Nat) : Int) + 1 = lo + ((j + 1 : Nat) : Int) := by omega
        rw [e1, runs_snoc _ rs _ e0, e2]
        rw [if_pos (h4 _ (by omega) (by omega)).symm]
    have q := key (hi - lo).toNat (by omega)
    have e1 : lo - 1 + ((hi - lo).toNat : Int) + 1 = hi + 1 - 1 := by omega
    have e2 : lo + ((hi - lo).toNat : Int) = hi := by omega
    rw [e1, e2] at q
    exact q.symm
end
/-! ### the starts of all futures -/
def IsStart (wd : Int) (ws : List Int) (p : Nat) : Prop := ∃ u, 1 ≤ u ∧ u ≤ wd ∧ (cls wd ws u = p ∨ opn wd ws u = p)
noncomputable instance (wd : Int) (ws : List Int) (p : Nat) : Decidable (IsStart wd ws p) := Classical.propDecidable _
noncomputable def stL (wd : Int) (ws : List Int) : List Nat := (List.range (ws.length + 1)).filter fun p => decide (IsStart wd ws p)
theorem cls_le {wd : Int} {ws : List Int} {u : Int} (h : u ≤ wd) : cls wd ws u ≤ ws.length := (cls_is h).2.1.1
theorem opn_le {wd : Int} {ws : List Int} {u : Int} (h : u ≤ wd) : opn wd ws u ≤ ws.length := (opn_is h).2.1.1
theorem IsStart.le {wd : Int} {ws : List Int} {p : Nat} (h : IsStart wd ws p) : p ≤ ws.length := by
  obtain ⟨u, _, h2, h3 | h3⟩ := h
  · rw [← h3]; exact cls_le h2
  · rw [← h3]; exact opn_le h2
theorem stL_mem {wd : Int} {ws : List Int} {p : Nat} : p ∈ stL wd ws ↔ IsStart wd ws p := by
  unfold stL
  rw [List.mem_filter, List.mem_range, decide_eq_true_eq]
  exact ⟨fun h => h.2, fun h => ⟨by have := h.le; omega, h⟩⟩
theorem stL_lt (wd : Int) (ws : List Int) : (stL wd ws).Pairwise (· < ·) := List.Pairwise.filter _ List.pairwise_lt_range
theorem sorted_uniq : ∀ {xs ys : List Int}, xs.Pairwise (· < ·) → ys.Pairwise (· < ·) → (∀ c, c ∈ xs ↔ c ∈ ys) → xs = ys
  | [], [], _, _, _ => rfl
  | [], y :: ys, _, _, h => nomatch (h y).mpr List.mem_cons_self
  | x :: xs, [], _, _, h => nomatch (h x).mp List.mem_cons_self
  | x :: xs, y :: ys, h1, h2, h => by
    obtain ⟨a1, a2⟩ := List.pairwise_cons.mp h1
    obtain ⟨b1, b2⟩ := List.pairwise_cons.mp h2
    have e : x = y := by
      rcases List.mem_cons.mp ((h x).mp List.mem_cons_self) with z | z
      · exact z
      · rcases List.mem_cons.mp ((h y).mpr List.mem_cons_self) with z2 | z2
        · exact z2.symm
        · have := a1 y z2; have := b1 x z; omega
    subst e
    congr 1
    refine sorted_uniq a2 b2 fun c => ⟨fun hc => ?_, fun hc => ?_⟩
    · rcases List.mem_cons.mp ((h c).mp (List.mem_cons_of_mem _ hc)) with z | z
      · have := a1 c hc; omega
      · exact z
    · rcases List.mem_cons.mp ((h c).mpr (List.mem_cons_of_mem _ hc)) with z | z
      · have := b1 c hc; omega
      · exact z
theorem stL_uniq {wd : Int} {ws : List Int} {ns : List Int} (pw : ns.Pairwise (· < ·)) (mem : ∀ c, c ∈ ns ↔ ∃ p : Nat, c = p ∧ IsStart wd ws p) : ns = (stL wd ws).map fun (n : Nat) => (n : Int) := by
  refine sorted_uniq pw ?_ fun c => ?_
  · rw [List.pairwise_map]
    exact (stL_lt wd ws).imp fun h => by omega
  · rw [mem, List.mem_map]
    exact ⟨fun ⟨p, e, h⟩ => ⟨p, stL_mem.mpr h, e.symm⟩, fun ⟨p, h, e⟩ => ⟨p, e.symm, stL_mem.mp h⟩⟩
theorem stL_len (wd : Int) (ws : List Int) : (stL wd ws).length ≤ ws.length + 1 := by
  unfold stL
  exact Nat.le_trans (List.length_filter_le _ _) (by rw [List.length_range]; omega)
/-- both rows of ranges together have just the starts -/
theorem Rgs.starts {wd : Int} {ws : List Int} {rs qs : List (Int × Int × Nat)} (h : Rgs wd (cls wd ws) rs (wd + 1)) (g : Rgs wd (opn wd ws) qs (wd + 1)) (p : Nat) : (∃ r ∈ rs ++ qs, r.2.2 = p) ↔ IsStart wd ws p := by
  constructor
  · rintro ⟨r, hr, e⟩
    rcases List.mem_append.mp hr with z | z
    · obtain ⟨u, a, b, c⟩ := (h.mem p).mp ⟨r, z, e⟩
      exact ⟨u, a, by omega, .inl c⟩
    · obtain ⟨u, a, b, c⟩ := (g.mem p).mp ⟨r, z, e⟩
      exact ⟨u, a, by omega, .inr c⟩
  · rintro ⟨u, a, b, c | c⟩
    · obtain ⟨r, hr, e⟩ := (h.mem p).mpr ⟨u, a, by omega, c⟩
      exact ⟨r, List.mem_append_left _ hr, e⟩
    · obtain ⟨r, hr, e⟩ := (g.mem p).mpr ⟨u, a, by omega, c⟩
      exact ⟨r, List.mem_append_right _ hr, e⟩
end LM

/-! LJ: starts behind words as long as the width, or single ones. -/
namespace LM
open PySem
theorem Rgs.uniq {wd : Int} {f : Int → Nat} {rs qs : List (Int × Int × Nat)} {lo : Int} (h : Rgs wd f rs lo) (g : Rgs wd f qs lo) : rs = qs := h.runs.trans g.runs.symm
/-- no line but that of the end itself goes on -/
def Shut (wd : Int) (ws : List Int) : Prop := ∀ p, p < ws.length → wd - 2 < tl ws p
section
variable {wd : Int} {ws : List Int}
theorem shut_nil : Shut wd [] := fun p h => nomatch h
theorem shut_snoc {vs : List Int} {x : Int} (W : Wd wd (vs ++ [x])) (h : wd - 1 ≤ x) : Shut wd (vs ++ [x]) := fun p hp => by
  have hl : (vs ++ [x]).length = vs.length + 1 := by simp
  have e : tl (vs ++ [x]) vs.length = x := ln_last vs x
  by_cases z : p = vs.length
  · rw [z, e]; omega
  · have := tl_lt W (p := p) (q := vs.length) (by omega) (by omega)
    omega
theorem shut_fits (h : Shut wd ws) {u : Int} (h1 : 1 ≤ u) {p : Nat} (f : Fits wd ws u p) : p = ws.length := by
  have a := f.1
  have b := f.2
  by_cases z : p < ws.length
  · have := h p z; omega
  · omega
theorem shut_cls (h : Shut wd ws) {u : Int} (h1 : 1 ≤ u) (h2 : u ≤ wd) : cls wd ws u = ws.length := shut_fits h h1 (cls_is h2).2.1
theorem shut_opn (h : Shut wd ws) {u : Int} (h1 : 1 ≤ u) (h2 : u ≤ wd) : opn wd ws u = ws.length := shut_fits h h1 (opn_is h2).2.1
theorem const_rgs {f : Int → Nat} {n : Nat} (w1 : 1 ≤ wd) (h : ∀ u, 1 ≤ u → u ≤ wd → f u = n) : Rgs wd f [(1, wd, n)] (wd + 1) := by
  have q := Rgs.snoc (wd := wd) (f := f) Rgs.nil w1 (Int.le_refl _) (fun u a b => (h u a b).trans (h 1 (by omega) w1).symm) (fun z => absurd z (by omega))
  rw [h 1 (by omega) w1] at q
  exact q
theorem two_rgs {f : Int → Nat} {n m : Nat} {x : Int} (x1 : 1 ≤ x) (x2 : x < wd) (hnm : n < m) (h : ∀ u, 1 ≤ u → u ≤ x → f u = n) (g : ∀ u, x < u → u ≤ wd → f u = m) : Rgs wd f [(1, x, n), (x + 1, wd, m)] (wd + 1) := by
  have q := Rgs.snoc (wd := wd) (f := f) Rgs.nil x1 (by omega) (fun u a b => (h u a b).trans (h 1 (by omega) x1).symm) (fun z => by rw [h 1 (by omega) x1, g (x + 1) (by omega) (by omega)]; exact hnm)
  have q2 := Rgs.snoc q (hi := wd) (by omega) (Int.le_refl _) (fun u a b => (g u (by omega) b).trans (g (x + 1) (by omega) (by omega)).symm) (fun z => absurd z (by omega))
  rw [h 1 (by omega) x1, g (x + 1) (by omega) (by omega)] at q2
  exact q2
theorem stL_eq {ns : List Nat} (pw : ns.Pairwise (· < ·)) (mem : ∀ p, p ∈ ns ↔ IsStart wd ws p) : stL wd ws = ns := by
  have e := stL_uniq (wd := wd) (ws := ws) (ns := ns.map fun (n : Nat) => (n : Int)) (by rw [List.pairwise_map]; exact pw.imp fun h => by omega) fun c => by
    rw [List.mem_map]
    exact ⟨fun ⟨p, h, e⟩ => ⟨p, e.symm, (mem p).mp h⟩, fun ⟨p, e, h⟩ => ⟨p, (mem p).mpr h, e.symm⟩⟩
  exact ((List.map_inj_right fun a b h => by omega).mp e).symm
theorem shut_stL (W : Wd wd ws) (h : Shut wd ws) : stL wd ws = [ws.length] := stL_eq (by simp) fun p => by
  have w1 := W.w1
  constructor
  · intro z
    rw [List.mem_singleton.mp z]
    exact ⟨1, by omega, w1, .inl (shut_cls h (by omega) w1)⟩
  · rintro ⟨u, a, b, c | c⟩
    · rw [shut_cls h a b] at c; simp [c]
    · rw [shut_opn h a b] at c; simp [c]
end
section
variable {wd w : Int} (W : Wd wd [w])
include W
theorem one_C : C wd [w] 1 = (wd - w) * (wd - w) := by
  obtain ⟨a, b, c, _⟩ := CB_at W (e := 1) (by decide) (Nat.le_refl _)
  have e : B wd [w] 1 = 0 := by omega
  rw [c, e, C0]
  unfold sq
  have l : ln [w] 0 1 = w := ln_one W (j := 0) (by simp)
  rw [l, Int.pow_succ, Int.pow_succ, Int.pow_zero, Int.one_mul, Int.zero_add]
theorem one_tl0 : tl [w] 0 = w := ln_one W (j := 0) (by simp)
omit W in
theorem one_tl1 : tl [w] 1 = -1 := tl_end [w]
theorem one_cls {u : Int} (h1 : 1 ≤ u) (h2 : u ≤ wd) : cls wd [w] u = if u ≤ wd - 1 - w then 0 else 1 := by
  obtain ⟨_, hf, hb⟩ := cls_is (ws := [w]) h2
  have hw := W.wrd w (List.mem_singleton.mpr rfl)
  have hl : cls wd [w] u ≤ 1 := hf.1
  by_cases h : u ≤ wd - 1 - w
  · rw [if_pos h]
    have q := hb 0 ⟨Nat.zero_le _, by rw [one_tl0 W]; omega⟩
    have lt : cc wd [w] u 0 < cc wd [w] u 1 := by
      unfold cc
      rw [C0, one_C W, one_tl0 W, one_tl1]
      have e0 : (0 : Int) ≤ (wd - w) * (wd - w) := Int.mul_nonneg (by omega) (by omega)
      have e1 : (wd - 1 - u - w) * (wd - 1 - u - w) < (wd - 1 - u - -1) * (wd - 1 - u - -1) := Int.lt_of_le_of_lt (Int.mul_le_mul_of_nonneg_left (by omega) (by omega)) (Int.mul_lt_mul_of_pos_right (by omega) (by omega))
      omega
    rcases Nat.eq_zero_or_pos (cls wd [w] u) with z | z
    · exact z
    · have e : cls wd [w] u = 1 := by omega
      rw [e] at q
      omega
  · rw [if_neg h]
    rcases Nat.eq_zero_or_pos (cls wd [w] u) with z | z
    · have := hf.2; rw [z, one_tl0 W] at this; omega
    · omega
theorem one_opn {u : Int} (h1 : 1 ≤ u) (h2 : u ≤ wd) : opn wd [w] u = if u ≤ wd - 1 - w then 0 else 1 := by
  obtain ⟨_, hf, hb⟩ := opn_is (ws := [w]) h2
  have hw := W.wrd w (List.mem_singleton.mpr rfl)
  have hl : opn wd [w] u ≤ 1 := hf.1
  by_cases h : u ≤ wd - 1 - w
  · rw [if_pos h]
    have q := hb 0 ⟨Nat.zero_le _, by rw [one_tl0 W]; omega⟩
    rcases Nat.eq_zero_or_pos (opn wd [w] u) with z | z
    · exact z
    · have e : opn wd [w] u = 1 := by omega
      rw [e, C0, one_C W] at q
      have e0 : (0 : Int) < (wd - w) * (wd - w) := Int.mul_pos (by omega) (by omega)
      omega
  · rw [if_neg h]
    rcases Nat.eq_zero_or_pos (opn wd [w] u) with z | z
    · have := hf.2; rw [z, one_tl0 W] at this; omega
    · omega
/-- the ranges behind a single word -/
def oneR (wd w : Int) : List (Int × Int × Nat) := if wd - 1 - w < 1 then [(1, wd, 1)] else [(1, wd - 1 - w, 0), (wd - 1 - w + 1, wd, 1)]
omit W in
theorem one_rgs {f : Int → Nat} (w1 : 1 ≤ wd) (hw : 1 ≤ w) (h : ∀ u, 1 ≤ u → u ≤ wd → f u = if u ≤ wd - 1 - w then 0 else 1) : Rgs wd f (oneR wd w) (wd + 1) := by
  unfold oneR
  by_cases z : wd - 1 - w < 1
  · rw [if_pos z]
    exact const_rgs w1 fun u a b => by rw [h u a b, if_neg (by omega)]
  · rw [if_neg z]
    exact two_rgs (by omega) (by omega) (by decide) (fun u a b => by rw [h u a (by omega), if_pos b]) fun u a b => by rw [h u (by omega) b, if_neg (by omega)]
theorem one_stL : stL wd [w] = if wd - 1 - w < 1 then [1] else [0, 1] := by
  have w1 := W.w1
  have hw := W.wrd w (List.mem_singleton.mpr rfl)
  have hone : IsStart wd [w] 1 := ⟨wd, w1, Int.le_refl _, .inl (by rw [one_cls W w1 (Int.le_refl _), if_neg (by omega)])⟩
  by_cases z : wd - 1 - w < 1
  · rw [if_pos z]
    refine stL_eq (by simp) fun p => ⟨fun h => by rw [List.mem_singleton.mp h]; exact hone, fun ⟨u, a, b, c⟩ => ?_⟩
    rw [one_cls W a b, one_opn W a b, if_neg (by omega)] at c
    rcases c with c | c <;> simp [c]
  · rw [if_neg z]
    refine stL_eq (by simp) fun p => ⟨fun h => ?_, fun h => ?_⟩
    · rcases List.mem_cons.mp h with e | e
      · rw [e]; exact ⟨1, by omega, w1, .inl (by rw [one_cls W (by omega) w1, if_pos (by omega)])⟩
      · rw [List.mem_singleton.mp e]; exact hone
    · have := h.le
      simp at this ⊢
      omega
end
end LM

/-! LK: rows of ranges, range by range. -/
namespace LM
open PySem
section
variable {wd : Int} {f : Int → Nat}
theorem Rgs.hi_eq {rs : List (Int × Int × Nat)} {hi : Int} (h : Rgs wd f rs hi) : hi = match rs.getLast? with
    | some r => r.2.1 + 1
    | none => 1 := by
  cases h with
  | nil => rfl
  | snoc => rw [List.getLast?_concat]
theorem Rgs.uniqhi {rs : List (Int × Int × Nat)} {a b : Int} (h : Rgs wd f rs a) (g : Rgs wd f rs b) : a = b := h.hi_eq.trans g.hi_eq.symm
theorem Rgs.lasthi {rs : List (Int × Int × Nat)} {lo hi l : Int} {st : Nat} (h : Rgs wd f (rs ++ [(lo, hi, st)]) l) : l = hi + 1 := by
  have := h.hi_eq
  rwa [List.getLast?_concat] at this
/-- the first j ranges, and where the next one begins -/
theorem Rgs.cut {rs : List (Int × Int × Nat)} {hi : Int} (h : Rgs wd f rs hi) : ∀ j, j ≤ rs.length → ∃ lo, Rgs wd f (rs.take j) lo ∧ (∀ r, rs[j]? = some r → r.1 = lo) ∧ (j = rs.length → lo = hi) := by
  induction h with
  | nil => intro j hj; exact ⟨1, by rw [List.take_nil]; exact .nil, fun r h => by simp at h, fun _ => rfl⟩
  | @snoc rs lo hi h1 h2 h3 h4 h5 ih =>
    intro j hj
    rw [List.length_append, List.length_singleton] at hj
    by_cases z : j ≤ rs.length
    · obtain ⟨l, a, b, c⟩ := ih j z
      refine ⟨l, by rw [List.take_append_of_le_length z]; exact a, fun r hr => ?_, fun e => by rw [List.length_append, List.length_singleton] at e; omega⟩
      by_cases y : j < rs.length
      · rw [List.getElem?_append_left y] at hr; exact b r hr
      · have e : j = rs.length := by omega
        rw [List.getElem?_append_right (by omega), e, Nat.sub_self] at hr
        simp at hr
        rw [← hr]
        exact (c e).symm
    · have e : j = (rs ++ [(lo, hi, f lo)]).length := by rw [List.length_append, List.length_singleton]; omega
      refine ⟨hi + 1, ?_, fun r hr => ?_, fun _ => rfl⟩
      · rw [e, List.take_length]
        exact .snoc h1 h2 h3 h4 h5
      · rw [List.getElem?_eq_none (by omega)] at hr
        cases hr
/-- neighbouring ranges: the next one begins behind, with a later start -/
theorem Rgs.next {rs : List (Int × Int × Nat)} {hi : Int} (h : Rgs wd f rs hi) (hh : hi ≤ wd + 1) : ∀ j r q, rs[j]? = some r → rs[j + 1]? = some q → r.2.1 + 1 = q.1 ∧ r.2.2 < q.2.2 := by
  induction h with
  | nil => intro j r q h; simp at h
  | @snoc rs lo hi h1 h2 h3 h4 h5 ih =>
    intro j r q hr hq
    have hj := (List.getElem?_eq_some_iff.mp hq).1
    rw [List.length_append, List.length_singleton] at hj
    rw [List.getElem?_append_left (by omega)] at hr
    by_cases z : j + 1 < rs.length
    · rw [List.getElem?_append_left z] at hq
      exact ih (by omega) j r q hr hq
    · have e : j + 1 = rs.length := by omega
      rw [List.getElem?_append_right (by omega), e, Nat.sub_self] at hq
      simp at hq
      subst hq
      -- the last of rs
      cases h1 with
      | nil => simp at hr
      | @snoc rs0 lo0 hi0 g1 g2 g3 g4 g5 =>
        rw [List.length_append, List.length_singleton] at e
        rw [List.getElem?_append_right (by omega), show j - rs0.length = 0 by omega] at hr
        simp at hr
        subst hr
        exact ⟨rfl, g5 (by omega)⟩
theorem Rgs.ne {rs : List (Int × Int × Nat)} (w1 : 1 ≤ wd) (h : Rgs wd f rs (wd + 1)) : rs ≠ [] := fun e => by
  have k : ∀ {rs : List (Int × Int × Nat)} {hi : Int}, Rgs wd f rs hi → rs = [] → hi = 1 := fun {rs hi} h e => by
    cases h with
    | nil => rfl
    | snoc => simp at e
  have := k h e
  omega
end
/-- the sorted starts of both rows of ranges -/
theorem stL_of {wd : Int} {ws : List Int} {rs qs : List (Int × Int × Nat)} (h : Rgs wd (cls wd ws) rs (wd + 1)) (g : Rgs wd (opn wd ws) qs (wd + 1)) {ms : List Int} (pw : ms.Pairwise (· < ·)) (mem : ∀ c, c ∈ ms ↔ c ∈ (rs ++ qs).map fun r => (r.2.2 : Int)) : ms = (stL wd ws).map fun (n : Nat) => (n : Int) := stL_uniq pw fun c => by
  rw [mem, List.mem_map]
  exact ⟨fun ⟨r, hr, e⟩ => ⟨r.2.2, e.symm, (Rgs.starts h g _).mp ⟨r, hr, rfl⟩⟩, fun ⟨p, e, z⟩ => by obtain ⟨r, hr, e2⟩ := (Rgs.starts h g p).mpr z; exact ⟨r, hr, by rw [e, e2]⟩⟩
end LM

/-! LO: which places the best layouts with all futures have. -/
namespace LM
open PySem
/-- the ends up to n are those of the way to the last of them -/
theorem way_upto {wd : Int} {us : List Int} (W : Wd wd us) {n q : Nat} (hq : q ≤ n) : ∀ e, e ≤ us.length → (q ∈ way wd us e ↔ q ∈ way wd us (lastLe n (way wd us e))) := by
  intro e
  induction e using Nat.strongRecOn with
  | _ e ih =>
    intro he
    by_cases h : e ≤ n
    · rw [lastLe_way W he h]
    · obtain ⟨c1, _⟩ := CB_at W (e := e) (by omega) he
      have hs : way wd us e = way wd us (B wd us e) ++ [e] := way_step W (by omega) he
      rw [hs, lastLe_no _ h, List.mem_append, List.mem_singleton]
      rw [← ih _ c1 (by omega)]
      exact ⟨fun z => z.elim id fun z => absurd z (by omega), .inl⟩
/-- a place of a text is an end with a future exactly if it is one on the way to the future's start -/
theorem mem_start {wd : Int} {ws vs : List Int} (W : Wd wd (ws ++ vs)) (V : Wd wd ws) (hv : vs ≠ []) {q : Nat} (hq : q ≤ ws.length) : q ∈ bestLay wd (ws ++ vs) ↔ q ∈ way wd ws (lastLe ws.length (bestLay wd (ws ++ vs))) := by
  have hvp : 0 < vs.length := List.length_pos_iff.mpr hv
  have hl : (ws ++ vs).length = ws.length + vs.length := List.length_append
  have hb : bestLay wd (ws ++ vs) = way wd (ws ++ vs) (LS wd (ws ++ vs)) ++ [(ws ++ vs).length] := by unfold bestLay; rw [if_neg (by omega)]
  have hls := LS_le W
  have hle := lastLe_le ws.length (bestLay wd (ws ++ vs))
  have e1 : way wd ws (lastLe ws.length (bestLay wd (ws ++ vs))) = way wd (ws ++ vs) (lastLe ws.length (bestLay wd (ws ++ vs))) :=
    way_congr V (n := ws.length) (Nat.le_refl _) (fun i j h1 h2 => (ln_appL (by omega) h2).symm) hle
  rw [e1, hb, lastLe_no _ (by omega), List.mem_append, List.mem_singleton, way_upto W hq _ hls]
  exact ⟨fun z => z.elim id fun z => absurd z (by omega), .inl⟩
/-- the rows of ends that all futures have, one for each start, and the text's own -/
noncomputable def allE (wd : Int) (ws : List Int) : List (List Nat) := (stL wd ws).map (way wd ws) ++ [bestLay wd ws]
noncomputable def cntE (wd : Int) (ws : List Int) (q : Nat) : Nat := (allE wd ws).countP fun ns => decide (q ∈ ns)
theorem allE_len {wd : Int} {ws : List Int} : (allE wd ws).length = (stL wd ws).length + 1 := by
  unfold allE
  rw [List.length_append, List.length_map, List.length_singleton]
theorem stL_ne {wd : Int} {ws : List Int} (w1 : 1 ≤ wd) : 0 < (stL wd ws).length := by
  have h : cls wd ws 1 ∈ stL wd ws := stL_mem.mpr ⟨1, by omega, w1, .inl rfl⟩
  exact List.length_pos_of_mem h
theorem cntE_zero {wd : Int} {ws : List Int} {q : Nat} : cntE wd ws q = 0 ↔ (∀ p ∈ stL wd ws, q ∉ way wd ws p) ∧ q ∉ bestLay wd ws := by
  unfold cntE allE
  rw [List.countP_eq_zero]
  constructor
  · intro h
    refine ⟨fun p hp => ?_, ?_⟩
    · simpa using h (way wd ws p) (List.mem_append_left _ (List.mem_map.mpr ⟨p, hp, rfl⟩))
    · simpa using h (bestLay wd ws) (List.mem_append_right _ (List.mem_singleton.mpr rfl))
  · rintro ⟨a, b⟩ ns hn
    rcases List.mem_append.mp hn with z | z
    · obtain ⟨p, hp, rfl⟩ := List.mem_map.mp z
      simpa using a p hp
    · rw [List.mem_singleton.mp z]; simpa using b
theorem cntE_all {wd : Int} {ws : List Int} {q : Nat} : cntE wd ws q = (allE wd ws).length ↔ (∀ p ∈ stL wd ws, q ∈ way wd ws p) ∧ q ∈ bestLay wd ws := by
  unfold cntE
  rw [List.countP_eq_length]
  unfold allE
  constructor
  · intro h
    refine ⟨fun p hp => ?_, ?_⟩
    · simpa using h (way wd ws p) (List.mem_append_left _ (List.mem_map.mpr ⟨p, hp, rfl⟩))
    · simpa using h (bestLay wd ws) (List.mem_append_right _ (List.mem_singleton.mpr rfl))
  · rintro ⟨a, b⟩ ns hn
    rcases List.mem_append.mp hn with z | z
    · obtain ⟨p, hp, rfl⟩ := List.mem_map.mp z
      simpa using a p hp
    · rw [List.mem_singleton.mp z]; simpa using b
/-- what a number of rows out of all tells -/
def tells (c m : Nat) : Nat := if c = 0 then 0 else if c = m then 2 else 1
/-- by any row of futures that has the empty one and each start -/
theorem futures_tell {wd : Int} {ws : List Int} (V : Wd wd ws) (F : List (List Int)) (h0 : [] ∈ F) (hF : ∀ vs ∈ F, vs ≠ [] → Wd wd (ws ++ vs)) (hs : ∀ p ∈ stL wd ws, ∃ vs ∈ F, vs ≠ [] ∧ lastLe ws.length (bestLay wd (ws ++ vs)) = p) {q : Nat} (hq : q ≤ ws.length) :
    tells (F.countP fun vs => decide (q ∈ bestLay wd (ws ++ vs))) F.length = tells (cntE wd ws q) (allE wd ws).length := by
  have key : ∀ vs ∈ F, (vs = [] ∧ bestLay wd (ws ++ vs) = bestLay wd ws) ∨ (vs ≠ [] ∧ lastLe ws.length (bestLay wd (ws ++ vs)) ∈ stL wd ws ∧ (q ∈ bestLay wd (ws ++ vs) ↔ q ∈ way wd ws (lastLe ws.length (bestLay wd (ws ++ vs))))) := fun vs hv => by
    by_cases e : vs = []
    · exact .inl ⟨e, by rw [e, List.append_nil]⟩
    · have W := hF vs hv e
      refine .inr ⟨e, stL_mem.mpr ?_, mem_start W V e hq⟩
      obtain ⟨u, u1, u2, z | z⟩ := start_any W e
      · exact ⟨u, u1, u2, .inr z.symm⟩
      · exact ⟨u, u1, u2, .inl z.symm⟩
  have a0 : F.countP (fun vs => decide (q ∈ bestLay wd (ws ++ vs))) = 0 ↔ cntE wd ws q = 0 := by
    rw [cntE_zero, List.countP_eq_zero]
    constructor
    · intro h
      refine ⟨fun p hp => ?_, ?_⟩
      · obtain ⟨vs, hv, hn, e⟩ := hs p hp
        have := h vs hv
        rcases key vs hv with ⟨z, _⟩ | ⟨_, _, z⟩
        · exact absurd z hn
        · rw [e] at z
          intro y
          exact this (by simpa using z.mpr y)
      · have := h [] h0
        rw [List.append_nil] at this
        simpa using this
    · rintro ⟨a, b⟩ vs hv
      rcases key vs hv with ⟨z, e⟩ | ⟨_, z1, z2⟩
      · rw [e]; simpa using b
      · have := a _ z1
        intro y
        exact this (z2.mp (by simpa using y))
  have a1 : F.countP (fun vs => decide (q ∈ bestLay wd (ws ++ vs))) = F.length ↔ cntE wd ws q = (allE wd ws).length := by
    rw [cntE_all, List.countP_eq_length]
    constructor
    · intro h
      refine ⟨fun p hp => ?_, ?_⟩
      · obtain ⟨vs, hv, hn, e⟩ := hs p hp
        have := h vs hv
        rcases key vs hv with ⟨z, _⟩ | ⟨_, _, z⟩
        · exact absurd z hn
        · rw [e] at z
          exact z.mp (by simpa using this)
      · have := h [] h0
        rw [List.append_nil] at this
        simpa using this
    · rintro ⟨a, b⟩ vs hv
      rcases key vs hv with ⟨z, e⟩ | ⟨_, z1, z2⟩
      · rw [e]; simpa using b
      · simpa using z2.mpr (a _ z1)
  unfold tells
  simp only [a0, a1]
theorem Lay.nodup {wd : Int} {ws : List Int} {ns : List Nat} {e : Nat} (c : Lay wd ws ns e) : ns.Nodup := by
  induction c with
  | nil => exact List.nodup_nil
  | snoc c h1 h2 ih =>
    refine List.nodup_append.mpr ⟨ih, List.nodup_cons.mpr ⟨fun z => (nomatch z), List.nodup_nil⟩, fun a ha b hb z => ?_⟩
    rw [List.mem_singleton.mp hb] at z
    have := (c.mem a ha).2
    omega
theorem allE_lay {wd : Int} {ws : List Int} (W : Wd wd ws) : ∀ ns ∈ allE wd ws, ∃ e, Lay wd ws ns e ∧ e ≤ ws.length := fun ns hn => by
  rcases List.mem_append.mp hn with z | z
  · obtain ⟨p, hp, rfl⟩ := List.mem_map.mp z
    have := (stL_mem.mp hp).le
    exact ⟨p, (way_lay W p this).1, this⟩
  · rw [List.mem_singleton.mp z]
    exact ⟨_, (best_lay W).1, Nat.le_refl _⟩
end LM

/-! LY: the settled lines: what all futures have in common. -/
namespace LM
open PySem
/-- the places that are always ends -/
noncomputable def sureL (wd : Int) (ws : List Int) : List Nat := ((List.range ws.length).filter fun k => decide (cntE wd ws (k + 1) = (allE wd ws).length)).map (· + 1)
/-- those that are ends of settled lines -/
noncomputable def sureR (wd : Int) (ws : List Int) : List Nat := if ws.length ∈ sureL wd ws ∧ B wd ws ws.length ≠ LS wd ws then (sureL wd ws).dropLast else sureL wd ws
/-- the number of the settled words -/
noncomputable def stM (wd : Int) (ws : List Int) : Nat := (sureR wd ws).getLastD 0
noncomputable def stE (wd : Int) (ws : List Int) : List Nat := way wd ws (stM wd ws)
theorem sureL_mem {wd : Int} {ws : List Int} {q : Nat} : q ∈ sureL wd ws ↔ 1 ≤ q ∧ q ≤ ws.length ∧ (∀ p ∈ stL wd ws, q ∈ way wd ws p) ∧ q ∈ bestLay wd ws := by
  unfold sureL
  rw [List.mem_map, ← cntE_all]
  constructor
  · rintro ⟨k, hk, rfl⟩
    obtain ⟨h1, h2⟩ := List.mem_filter.mp hk
    have := List.mem_range.mp h1
    exact ⟨by omega, by omega, of_decide_eq_true h2⟩
  · rintro ⟨h1, h2, h3⟩
    refine ⟨q - 1, List.mem_filter.mpr ⟨List.mem_range.mpr (by omega), ?_⟩, by omega⟩
    rw [show q - 1 + 1 = q by omega]
    exact decide_eq_true h3
theorem sureL_lt (wd : Int) (ws : List Int) : (sureL wd ws).Pairwise (· < ·) := by
  unfold sureL
  rw [List.pairwise_map]
  exact (List.Pairwise.filter _ List.pairwise_lt_range).imp fun h => by omega
theorem last_of {xs : List Nat} {n : Nat} (pw : xs.Pairwise (· < ·)) (hn : n ∈ xs) (hle : ∀ x ∈ xs, x ≤ n) : ∃ r, xs = r ++ [n] ∧ ∀ x ∈ r, x < n := by
  rcases List.eq_nil_or_concat xs with e | ⟨r, z, e⟩
  · rw [e] at hn; cases hn
  · rw [List.concat_eq_append] at e
    subst e
    have hz := hle z (by simp)
    have hp := List.pairwise_append.mp pw
    rcases List.mem_append.mp hn with h | h
    · have := hp.2.2 n h z (by simp)
      omega
    · rw [List.mem_singleton.mp h]
      exact ⟨r, rfl, fun x hx => hp.2.2 x hx z (by simp)⟩
theorem sureL_last {wd : Int} {ws : List Int} (h : ws.length ∈ sureL wd ws) : ∃ r, sureL wd ws = r ++ [ws.length] ∧ ∀ x ∈ r, x < ws.length :=
  last_of (sureL_lt wd ws) h fun x hx => (sureL_mem.mp hx).2.1
theorem sureR_mem {wd : Int} {ws : List Int} {q : Nat} : q ∈ sureR wd ws ↔ q ∈ sureL wd ws ∧ (q = ws.length → B wd ws ws.length = LS wd ws) := by
  unfold sureR
  split
  · rename_i h
    obtain ⟨r, e, hr⟩ := sureL_last h.1
    rw [e, List.dropLast_concat, List.mem_append, List.mem_singleton]
    constructor
    · intro hq
      have := hr q hq
      exact ⟨.inl hq, fun z => by omega⟩
    · rintro ⟨z | z, g⟩
      · exact z
      · exact absurd (g z) h.2
  · rename_i h
    constructor
    · intro hq
      refine ⟨hq, fun z => ?_⟩
      subst z
      exact Classical.byContradiction fun g => h ⟨hq, g⟩
    · exact fun z => z.1
theorem sureR_lt (wd : Int) (ws : List Int) : (sureR wd ws).Pairwise (· < ·) := by
  unfold sureR
  split
  · exact List.Pairwise.sublist (List.dropLast_sublist _) (sureL_lt wd ws)
  · exact sureL_lt wd ws
theorem stM_is (wd : Int) (ws : List Int) : (stM wd ws = 0 ∧ sureR wd ws = [] ∨ stM wd ws ∈ sureR wd ws) ∧ stM wd ws ≤ ws.length ∧ ∀ q ∈ sureR wd ws, q ≤ stM wd ws := by
  unfold stM
  have pw := sureR_lt wd ws
  have hle : ∀ q ∈ sureR wd ws, q ≤ ws.length := fun q hq => (sureL_mem.mp (sureR_mem.mp hq).1).2.1
  rcases List.eq_nil_or_concat (sureR wd ws) with e | ⟨r, z, e⟩
  · rw [e]
    exact ⟨.inl ⟨rfl, rfl⟩, Nat.zero_le _, fun q hq => nomatch hq⟩
  · rw [List.concat_eq_append] at e
    rw [e] at pw hle ⊢
    rw [List.getLastD_concat]
    have hp := List.pairwise_append.mp pw
    refine ⟨.inr (by simp), hle z (by simp), fun q hq => ?_⟩
    rcases List.mem_append.mp hq with h | h
    · have := hp.2.2 q h z (by simp); omega
    · rw [List.mem_singleton.mp h]; exact Nat.le_refl _
theorem stM_max (wd : Int) (ws : List Int) (h : sureR wd ws ≠ []) : stM wd ws ∈ sureR wd ws := by
  rcases (stM_is wd ws).1 with ⟨_, z⟩ | z
  · exact absurd z h
  · exact z
/-! ### what lies ahead of a place -/
theorem way_ahead {wd : Int} {ws : List Int} (W : Wd wd ws) {e q : Nat} (he : e ≤ ws.length) (hq : q ∈ way wd ws e) : ∃ r, way wd ws e = way wd ws q ++ r := by
  obtain ⟨k, hk⟩ := List.getElem?_of_mem hq
  exact ⟨(way wd ws e).drop (k + 1), by rw [← way_pre W e he k q hk, List.take_append_drop]⟩
/-- the ends ahead of n are a way of their own -/
theorem way_split {wd : Int} {us : List Int} (W : Wd wd us) (n : Nat) : ∀ e, e ≤ us.length → ∃ r, way wd us e = way wd us (lastLe n (way wd us e)) ++ r ∧ ∀ x ∈ r, n < x := by
  intro e
  induction e using Nat.strongRecOn with
  | _ e ih =>
    intro he
    by_cases h : e ≤ n
    · rw [lastLe_way W he h]
      exact ⟨[], (List.append_nil _).symm, fun x hx => nomatch hx⟩
    · obtain ⟨c1, _⟩ := CB_at W (e := e) (by omega) he
      have hs : way wd us e = way wd us (B wd us e) ++ [e] := way_step W (by omega) he
      obtain ⟨r, hr, hx⟩ := ih _ c1 (by omega)
      rw [hs, lastLe_no _ h]
      refine ⟨r ++ [e], by rw [← List.append_assoc, ← hr], fun x hx2 => ?_⟩
      rcases List.mem_append.mp hx2 with z | z
      · exact hx x z
      · rw [List.mem_singleton.mp z]; omega
theorem fut_split {wd : Int} {ws vs : List Int} (W : Wd wd (ws ++ vs)) (V : Wd wd ws) (hv : vs ≠ []) : ∃ r, bestLay wd (ws ++ vs) = way wd ws (lastLe ws.length (bestLay wd (ws ++ vs))) ++ r ∧ (∀ x ∈ r, ws.length < x) ∧ lastLe ws.length (bestLay wd (ws ++ vs)) ∈ stL wd ws := by
  have hvp : 0 < vs.length := List.length_pos_iff.mpr hv
  have hl : (ws ++ vs).length = ws.length + vs.length := List.length_append
  have hb : bestLay wd (ws ++ vs) = way wd (ws ++ vs) (LS wd (ws ++ vs)) ++ [(ws ++ vs).length] := by unfold bestLay; rw [if_neg (by omega)]
  have e1 : way wd ws (lastLe ws.length (bestLay wd (ws ++ vs))) = way wd (ws ++ vs) (lastLe ws.length (bestLay wd (ws ++ vs))) :=
    way_congr V (n := ws.length) (Nat.le_refl _) (fun i j h1 h2 => (ln_appL (by omega) h2).symm) (lastLe_le _ _)
  obtain ⟨r, hr, hx⟩ := way_split W ws.length _ (LS_le W)
  refine ⟨r ++ [(ws ++ vs).length], ?_, fun x hx2 => ?_, stL_mem.mpr ?_⟩
  · rw [e1, hb, lastLe_no _ (by omega), ← List.append_assoc, ← hr]
  · rcases List.mem_append.mp hx2 with z | z
    · exact hx x z
    · rw [List.mem_singleton.mp z]; omega
  · obtain ⟨u, u1, u2, z | z⟩ := start_any W hv
    · exact ⟨u, u1, u2, .inr z.symm⟩
    · exact ⟨u, u1, u2, .inl z.symm⟩
theorem best_snoc {wd : Int} {ws : List Int} (h : 0 < ws.length) : bestLay wd ws = way wd ws (LS wd ws) ++ [ws.length] := by unfold bestLay; rw [if_neg (by omega)]
/-- a settled place has its way in the best layout of the text -/
theorem sure_best {wd : Int} {ws : List Int} (W : Wd wd ws) {q : Nat} (hq : q ∈ sureR wd ws) : ∃ r, bestLay wd ws = way wd ws q ++ r := by
  obtain ⟨h1, h2⟩ := sureR_mem.mp hq
  obtain ⟨q1, q2, _, q4⟩ := sureL_mem.mp h1
  have hb := best_snoc (wd := wd) (ws := ws) (by omega)
  by_cases e : q = ws.length
  · rw [e, way_step W (by omega) (Nat.le_refl _), h2 e, ← hb]
    exact ⟨[], (List.append_nil _).symm⟩
  · rw [hb, List.mem_append, List.mem_singleton] at q4
    obtain ⟨r, hr⟩ := way_ahead W (LS_le W) (q4.resolve_right e)
    exact ⟨r ++ [ws.length], by rw [hb, ← List.append_assoc, ← hr]⟩
theorem sure_start {wd : Int} {ws : List Int} (W : Wd wd ws) {q : Nat} (hq : q ∈ sureR wd ws) {p : Nat} (hp : p ∈ stL wd ws) : ∃ r, way wd ws p = way wd ws q ++ r :=
  way_ahead W (stL_mem.mp hp).le ((sureL_mem.mp (sureR_mem.mp hq).1).2.2.1 p hp)
theorem sure_fut {wd : Int} {ws vs : List Int} (W : Wd wd (ws ++ vs)) (V : Wd wd ws) {q : Nat} (hq : q ∈ sureR wd ws) : ∃ r, bestLay wd (ws ++ vs) = way wd ws q ++ r := by
  by_cases hv : vs = []
  · rw [hv, List.append_nil]; exact sure_best V hq
  · obtain ⟨r, hr, _, hp⟩ := fut_split W V hv
    obtain ⟨r2, hr2⟩ := sure_start V hq hp
    exact ⟨r2 ++ r, by rw [hr, hr2, List.append_assoc]⟩
/-- the settled ends are the first ones of every layout -/
theorem stE_best {wd : Int} {ws : List Int} (W : Wd wd ws) : ∃ r, bestLay wd ws = stE wd ws ++ r := by
  unfold stE
  rcases (stM_is wd ws).1 with ⟨z, _⟩ | z
  · rw [z, way0]; exact ⟨_, rfl⟩
  · exact sure_best W z
theorem stE_start {wd : Int} {ws : List Int} (W : Wd wd ws) {p : Nat} (hp : p ∈ stL wd ws) : ∃ r, way wd ws p = stE wd ws ++ r := by
  unfold stE
  rcases (stM_is wd ws).1 with ⟨z, _⟩ | z
  · rw [z, way0]; exact ⟨_, rfl⟩
  · exact sure_start W z hp
theorem stE_fut {wd : Int} {ws vs : List Int} (W : Wd wd (ws ++ vs)) (V : Wd wd ws) : ∃ r, bestLay wd (ws ++ vs) = stE wd ws ++ r := by
  unfold stE
  rcases (stM_is wd ws).1 with ⟨z, _⟩ | z
  · rw [z, way0]; exact ⟨_, rfl⟩
  · exact sure_fut W V z
/-! ### lines -/
theorem prsN_app (a b : List Nat) : ∃ c, prsN (a ++ b) = prsN a ++ c ∧ c.length = b.length ∧ ∀ l ∈ c, l.2 ∈ b := by
  induction b generalizing a with
  | nil => exact ⟨[], by simp, rfl, fun l h => nomatch h⟩
  | cons h b ih =>
    obtain ⟨c, e, hl, hc⟩ := ih (a ++ [h])
    rw [List.append_assoc, prsN_snoc, List.append_assoc] at e
    refine ⟨_, e, by rw [List.length_append, hl]; simp [Nat.add_comm], fun l hl => ?_⟩
    rcases List.mem_append.mp hl with z | z
    · rw [List.mem_singleton.mp z]; exact List.mem_cons_self
    · exact List.mem_cons_of_mem _ (hc l z)
theorem prsN_len (ns : List Nat) : (prsN ns).length = ns.length := by
  obtain ⟨c, e, hl, _⟩ := prsN_app [] ns
  rw [List.nil_append] at e
  rw [e, List.length_append, hl]
  exact Nat.zero_add _
theorem prsN_snd {ns : List Nat} {l : Nat × Nat} (h : l ∈ prsN ns) : l.2 ∈ ns := by
  obtain ⟨c, e, _, hc⟩ := prsN_app [] ns
  rw [List.nil_append] at e
  rw [e] at h
  exact hc l ((List.mem_append.mp h).elim (fun z => nomatch z) id)
/-- the line that ends at the last place -/
theorem line_last {wd : Int} {ws : List Int} {ns : List Nat} {m h : Nat} (c : Lay wd ws ns m) (hm : m < h) {b : Nat} (hl : (b, h) ∈ prsN (ns ++ [h])) : b = m := by
  rw [prsN_snoc] at hl
  rcases List.mem_append.mp hl with z | z
  · have := (c.prs _ z).2.1
    exact absurd this (by show ¬ h ≤ m; omega)
  · have := List.mem_singleton.mp z
    rw [c.last] at this
    exact congrArg Prod.fst this
/-- the lines that all have are the settled ones -/
theorem lines_all {wd : Int} {ws : List Int} (W : Wd wd ws) : ((prsN (bestLay wd ws)).filter fun l => decide (∀ p ∈ stL wd ws, l ∈ prsN (way wd ws p))) = prsN (stE wd ws) := by
  obtain ⟨r, hr⟩ := stE_best W
  obtain ⟨c, hc, _, hc2⟩ := prsN_app (stE wd ws) r
  obtain ⟨m1, m2, m3⟩ := stM_is wd ws
  obtain ⟨bl, _⟩ := best_lay W
  have hsl : Lay wd ws (stE wd ws) (stM wd ws) := (way_lay W _ m2).1
  rw [hr, hc, List.filter_append]
  have f1 : (prsN (stE wd ws)).filter (fun l => decide (∀ p ∈ stL wd ws, l ∈ prsN (way wd ws p))) = prsN (stE wd ws) := List.filter_eq_self.mpr fun l hl => by
    refine decide_eq_true fun p hp => ?_
    obtain ⟨r2, e2⟩ := stE_start W hp
    obtain ⟨c2, hc3, _⟩ := prsN_app (stE wd ws) r2
    rw [e2, hc3]
    exact List.mem_append_left _ hl
  have f2 : c.filter (fun l => decide (∀ p ∈ stL wd ws, l ∈ prsN (way wd ws p))) = [] := List.filter_eq_nil_iff.mpr fun l hl hd => by
    have hd := of_decide_eq_true hd
    obtain ⟨b, e⟩ := l
    have her : e ∈ r := hc2 _ hl
    have heb : e ∈ bestLay wd ws := by rw [hr]; exact List.mem_append_right _ her
    obtain ⟨e1, e2⟩ := bl.mem e heb
    have hs : e ∈ sureL wd ws := sureL_mem.mpr ⟨e1, e2, fun p hp => prsN_snd (hd p hp), heb⟩
    have hgt : stM wd ws < e := by
      have hnd := Lay.nodup bl
      rw [hr] at hnd bl
      have hdis := (List.nodup_append.mp hnd).2.2
      obtain ⟨r1, r2, er⟩ := List.append_of_mem her
      rw [er, ← List.append_assoc] at bl
      obtain ⟨l0, c0, c1, _, _⟩ := Lay.pre bl
      obtain ⟨s1, _⟩ := c0.seg
      have := (s1.inv).2.le.1
      have h5 := c0.seg.1.inv.1
      have h6 : (stE wd ws).getLastD 0 = stM wd ws := hsl.last
      rw [h6] at this
      omega
    by_cases hR : e ∈ sureR wd ws
    · have := m3 e hR
      omega
    · have hn : e = ws.length ∧ B wd ws ws.length ≠ LS wd ws := by
        rw [sureR_mem] at hR
        have h7 : ¬ (e = ws.length → B wd ws ws.length = LS wd ws) := fun z => hR ⟨hs, z⟩
        rw [Classical.not_imp] at h7
        exact h7
      have h0 : 0 < ws.length := by omega
      have hlb : (b, e) ∈ prsN (bestLay wd ws) := by rw [hr, hc]; exact List.mem_append_right _ hl
      rw [best_snoc h0, hn.1] at hlb
      have b1 := line_last (way_lay W _ (LS_le W)).1 (LS_at W h0).1 hlb
      obtain ⟨p, hp⟩ := List.exists_mem_of_length_pos (stL_ne (ws := ws) W.w1)
      have hpl := (stL_mem.mp hp).le
      have h8 := hd p hp
      have h9 := ((way_lay W p hpl).1.mem e (prsN_snd h8)).2
      have hpe : p = ws.length := by omega
      rw [hpe, way_step W h0 (Nat.le_refl _), hn.1] at h8
      have cb := CB_at W h0 (Nat.le_refl _)
      have b2 := line_last (way_lay W _ (by omega)).1 cb.1 h8
      exact hn.2 (by rw [← b2, ← b1])
  rw [f1, f2, List.append_nil]
/-- a line of the text is one with a future exactly if it is one on the way to the future's start -/
theorem line_fut {wd : Int} {ws vs : List Int} (W : Wd wd (ws ++ vs)) (V : Wd wd ws) (hv : vs ≠ []) {l : Nat × Nat} (hl : l.2 ≤ ws.length) : l ∈ prsN (bestLay wd (ws ++ vs)) ↔ l ∈ prsN (way wd ws (lastLe ws.length (bestLay wd (ws ++ vs)))) := by
  obtain ⟨r, hr, hx, _⟩ := fut_split W V hv
  obtain ⟨c, hc, _, hc2⟩ := prsN_app (way wd ws (lastLe ws.length (bestLay wd (ws ++ vs)))) r
  have e : prsN (bestLay wd (ws ++ vs)) = prsN (way wd ws (lastLe ws.length (bestLay wd (ws ++ vs)))) ++ c := by rw [← hc, ← hr]
  rw [e, List.mem_append]
  exact ⟨fun z => z.elim id fun z => absurd (hx _ (hc2 _ z)) (by omega), .inl⟩
/-- by any row of futures that has each start -/
theorem lines_futures {wd : Int} {ws : List Int} (V : Wd wd ws) (F : List (List Int)) (hF : ∀ vs ∈ F, vs ≠ [] → Wd wd (ws ++ vs)) (hs : ∀ p ∈ stL wd ws, ∃ vs ∈ F, vs ≠ [] ∧ lastLe ws.length (bestLay wd (ws ++ vs)) = p) :
    ((prsN (bestLay wd ws)).filter fun l => decide (∀ vs ∈ F, l ∈ prsN (bestLay wd (ws ++ vs)))) = prsN (stE wd ws) := by
  rw [← lines_all V]
  refine List.filter_congr fun l hl => ?_
  have hl2 : l.2 ≤ ws.length := ((best_lay V).1.mem _ (prsN_snd hl)).2
  rw [decide_eq_decide]
  constructor
  · intro h p hp
    obtain ⟨vs, hv, hn, e⟩ := hs p hp
    have := h vs hv
    rwa [line_fut (hF vs hv hn) V hn hl2, e] at this
  · intro h vs hv
    by_cases hn : vs = []
    · rw [hn, List.append_nil]; exact hl
    · rw [line_fut (hF vs hv hn) V hn hl2]
      exact h _ (fut_split (hF vs hv hn) V hn).choose_spec.2.2
theorem stE_last {wd : Int} {ws : List Int} (W : Wd wd ws) : (stE wd ws).getLastD 0 = stM wd ws := (way_lay W _ (stM_is wd ws).2.1).1.last
end LM

/-! LZ: settled words with more words behind; a text behind a place that all pass. -/
namespace LM
open PySem
theorem lastLe_app {n p : Nat} {ns r : List Nat} (h : ns.getLastD 0 = p) (hn : ∀ x ∈ ns, x ≤ n) (hr : ∀ x ∈ r, n < x) : lastLe n (ns ++ r) = p := by
  unfold lastLe
  rw [List.filter_append, List.filter_eq_self.mpr fun x hx => decide_eq_true (hn x hx), List.filter_eq_nil_iff.mpr fun x hx => by simpa using hr x hx, List.append_nil, h]
/-- a start is that of some future of one or two words -/
theorem start_fut {wd : Int} {ws : List Int} (V : Wd wd ws) (hl : ws.length + 2 ≤ 1000) {p : Nat} (hp : p ∈ stL wd ws) : ∃ vs, vs ≠ [] ∧ vs.length ≤ 2 ∧ (∀ x ∈ vs, 1 ≤ x ∧ x ≤ wd) ∧ Wd wd (ws ++ vs) ∧ lastLe ws.length (bestLay wd (ws ++ vs)) = p := by
  have w1 := V.w1
  obtain ⟨u, u1, u2, z | z⟩ := stL_mem.mp hp
  · have W1 : Wd wd (ws ++ [u]) := V.app (by simp; omega) fun y hy => by rw [List.mem_singleton.mp hy]; omega
    have h2 : ∀ x ∈ [u, wd], 1 ≤ x ∧ x ≤ wd := fun x hx => by simp at hx; omega
    exact ⟨[u, wd], List.cons_ne_nil _ _, by simp, h2, V.app (by simp; omega) h2, by rw [start_two W1 (by omega), z]⟩
  · have h2 : ∀ x ∈ [u], 1 ≤ x ∧ x ≤ wd := fun x hx => by simp at hx; omega
    have W1 : Wd wd (ws ++ [u]) := V.app (by simp; omega) h2
    exact ⟨[u], List.cons_ne_nil _ _, by simp, h2, W1, by rw [start_one W1, z]⟩
theorem way_has {wd : Int} {ws : List Int} (W : Wd wd ws) {q : Nat} (h0 : 0 < q) (hq : q ≤ ws.length) : q ∈ way wd ws q := by
  rw [way_step W h0 hq]; exact List.mem_append_right _ (List.mem_singleton.mpr rfl)
/-- what is settled stays so with more words -/
theorem sureR_app {wd : Int} {ws vs : List Int} (W : Wd wd (ws ++ vs)) (V : Wd wd ws) (hl : ws.length + vs.length + 2 ≤ 1000) (hv : vs ≠ []) {q : Nat} (hq : q ∈ sureR wd ws) : q ∈ sureR wd (ws ++ vs) := by
  have hvp : 0 < vs.length := List.length_pos_iff.mpr hv
  have hla : (ws ++ vs).length = ws.length + vs.length := List.length_append
  obtain ⟨q1, q2, _⟩ := sureL_mem.mp (sureR_mem.mp hq).1
  have hin : ∀ us, Wd wd (ws ++ us) → q ∈ bestLay wd (ws ++ us) := fun us U => by
    obtain ⟨r, hr⟩ := sure_fut U V hq
    rw [hr]
    exact List.mem_append_left _ (way_has V (by omega) q2)
  refine sureR_mem.mpr ⟨sureL_mem.mpr ⟨q1, by omega, fun p hp => ?_, hin vs W⟩, fun z => by omega⟩
  obtain ⟨us, hu, hu2, hu3, U, e⟩ := start_fut W (by omega) hp
  have h := hin (vs ++ us) (by rw [← List.append_assoc]; exact U)
  rw [← List.append_assoc, mem_start U W hu (by omega), e] at h
  exact h
theorem stM_app {wd : Int} {ws vs : List Int} (W : Wd wd (ws ++ vs)) (V : Wd wd ws) (hl : ws.length + vs.length + 2 ≤ 1000) : stM wd ws ≤ stM wd (ws ++ vs) ∧ ∃ r, stE wd (ws ++ vs) = stE wd ws ++ r := by
  by_cases hv : vs = []
  · rw [hv, List.append_nil]; exact ⟨Nat.le_refl _, [], (List.append_nil _).symm⟩
  · rcases (stM_is wd ws).1 with ⟨z, _⟩ | z
    · unfold stE
      rw [z, way0]
      exact ⟨Nat.zero_le _, _, rfl⟩
    · have h := sureR_app W V hl hv z
      have hle := (stM_is wd (ws ++ vs)).2.2 _ h
      have hM := stM_max wd (ws ++ vs) (List.ne_nil_of_mem h)
      refine ⟨hle, ?_⟩
      obtain ⟨r1, e1⟩ := sure_best W h
      obtain ⟨r2, e2⟩ := sure_best W hM
      obtain ⟨q1, q2, _⟩ := sureL_mem.mp (sureR_mem.mp h).1
      obtain ⟨m1, m2, _⟩ := sureL_mem.mp (sureR_mem.mp hM).1
      have hc : way wd ws (stM wd ws) = way wd (ws ++ vs) (stM wd ws) := way_congr V (n := ws.length) (Nat.le_refl _) (fun i j h1 h2 => (ln_appL (by omega) h2).symm) (stM_is wd ws).2.1
      have hin : stM wd ws ∈ way wd (ws ++ vs) (stM wd (ws ++ vs)) := by
        have h3 : stM wd ws ∈ bestLay wd (ws ++ vs) := by rw [e1]; exact List.mem_append_left _ (way_has W (by omega) q2)
        have bl := (best_lay W).1
        rw [e2] at h3 bl
        rcases List.mem_append.mp h3 with y | y
        · exact y
        · obtain ⟨a, b, er⟩ := List.append_of_mem y
          rw [er, ← List.append_assoc] at bl
          obtain ⟨l0, c0, c1, _⟩ := Lay.pre bl
          have h5 := (c0.seg.1.inv).2.le.1
          have h6 : (way wd (ws ++ vs) (stM wd (ws ++ vs))).getLastD 0 = stM wd (ws ++ vs) := (way_lay W _ m2).1.last
          rw [h6] at h5
          omega
      obtain ⟨r, hr⟩ := way_ahead W m2 hin
      refine ⟨r, ?_⟩
      unfold stE
      rw [hr, hc]
end LM

/-! LZs: a text behind a place that all layouts pass. -/
namespace LM
open PySem
/-- all layouts with futures pass m -/
def Pass (wd : Int) (ws : List Int) (m : Nat) : Prop := ∀ vs : List Int, vs ≠ [] → vs.length ≤ 2 → (∀ x ∈ vs, 1 ≤ x ∧ x ≤ wd) → ∃ r, bestLay wd (ws ++ vs) = way wd ws m ++ r
def shf (m : Nat) (ns : List Nat) : List Nat := ns.map (· + m)
theorem shf_app (m : Nat) (a b : List Nat) : shf m (a ++ b) = shf m a ++ shf m b := List.map_append
theorem mem_shf {m q : Nat} {ns : List Nat} : q + m ∈ shf m ns ↔ q ∈ ns := by
  unfold shf
  rw [List.mem_map]
  exact ⟨fun ⟨a, h, e⟩ => by have : a = q := by omega
                             rwa [← this], fun h => ⟨q, h, rfl⟩⟩
theorem shf_inj {m : Nat} {a b : List Nat} (h : shf m a = shf m b) : a = b := by
  have e : ∀ c : List Nat, (shf m c).map (· - m) = c := fun c => by
    unfold shf
    rw [List.map_map]
    conv => rhs; rw [← List.map_id c]
    exact List.map_congr_left fun x _ => by simp only [Function.comp, id]; omega
  rw [← e a, h, e b]
theorem shf_last (m : Nat) (ns : List Nat) (a : List Nat) (h : a.getLastD 0 = m) : (a ++ shf m ns).getLastD 0 = ns.getLastD 0 + m := by
  rcases List.eq_nil_or_concat ns with e | ⟨r, z, e⟩
  · rw [e]; show (a ++ []).getLastD 0 = 0 + m; rw [List.append_nil, h]; omega
  · rw [List.concat_eq_append] at e
    rw [e, shf_app, ← List.append_assoc]
    show ((a ++ shf m r) ++ [z + m]).getLastD 0 = _
    rw [List.getLastD_concat, List.getLastD_concat]
section
variable {wd : Int} {ws : List Int} {m : Nat} (V : Wd wd ws) (hm : m ≤ ws.length)
include V hm
theorem way_m : (way wd ws m).getLastD 0 = m ∧ ∀ x ∈ way wd ws m, 1 ≤ x ∧ x ≤ m := ⟨(way_lay V m hm).1.last, (way_lay V m hm).1.mem⟩
/-- behind the place the rest is laid out by itself -/
theorem pass_rest {vs : List Int} (W : Wd wd (ws ++ vs)) {r : List Nat} (h : bestLay wd (ws ++ vs) = way wd ws m ++ r) : r = shf m (bestLay wd (ws.drop m ++ vs)) := by
  have hd : (ws ++ vs).drop m = ws.drop m ++ vs := List.drop_append_of_le_length hm
  obtain ⟨l1, l2⟩ := way_m V hm
  by_cases hr : r = []
  · subst hr
    rw [List.append_nil] at h
    have bl := (best_lay W).1.last
    rw [h, l1] at bl
    have hl : (ws.drop m ++ vs).length = 0 := by rw [← hd, List.length_drop, ← bl]; omega
    rw [List.length_eq_zero_iff.mp hl]
    rfl
  · obtain ⟨_, h2, h3, _⟩ := best_drop W h hr
    rw [l1, hd] at h3
    rw [l1] at h2
    rw [← h3]
    unfold shf
    rw [map_down_up fun x hx => by have := h2 x hx; omega]
theorem pass_lastLe (ns : List Nat) : lastLe ws.length (way wd ws m ++ shf m ns) = lastLe (ws.length - m) ns + m := by
  obtain ⟨l1, l2⟩ := way_m V hm
  unfold lastLe
  rw [List.filter_append, List.filter_eq_self.mpr fun x hx => decide_eq_true (by have := l2 x hx; omega)]
  have : (shf m ns).filter (fun x => decide (x ≤ ws.length)) = shf m (ns.filter fun x => decide (x ≤ ws.length - m)) := by
    unfold shf
    rw [List.filter_map]
    congr 1
    refine List.filter_congr fun x _ => ?_
    show decide (x + m ≤ ws.length) = _
    rw [decide_eq_decide]; omega
  rw [this, shf_last m _ _ l1]
variable (H : Pass wd ws m) (hl : ws.length + 2 ≤ 1000)
include H hl
theorem pass_start {vs : List Int} (h0 : vs ≠ []) (h2 : vs.length ≤ 2) (hv : ∀ x ∈ vs, 1 ≤ x ∧ x ≤ wd) : lastLe ws.length (bestLay wd (ws ++ vs)) = lastLe (ws.drop m).length (bestLay wd (ws.drop m ++ vs)) + m := by
  have W : Wd wd (ws ++ vs) := V.app (by omega) hv
  obtain ⟨r, hr⟩ := H vs h0 h2 hv
  rw [hr, pass_rest V hm W hr, pass_lastLe V hm, List.length_drop]
theorem pass_cls {u : Int} (u1 : 1 ≤ u) (u2 : u ≤ wd) : cls wd ws u = cls wd (ws.drop m) u + m := by
  have w1 := V.w1
  have h2 : ∀ x ∈ [u, wd], 1 ≤ x ∧ x ≤ wd := fun x hx => by simp at hx; omega
  have h1 : ∀ x ∈ [u], 1 ≤ x ∧ x ≤ wd := fun x hx => by simp at hx; omega
  have e := pass_start V hm H hl (vs := [u, wd]) (List.cons_ne_nil _ _) (by simp) h2
  have hd : (ws.drop m).length ≤ ws.length := by rw [List.length_drop]; omega
  rwa [start_two (V.app (by simp; omega) h1) (by omega), start_two ((V.drop m).app (by simp at hd ⊢; omega) h1) (by omega)] at e
theorem pass_opn {u : Int} (u1 : 1 ≤ u) (u2 : u ≤ wd) : opn wd ws u = opn wd (ws.drop m) u + m := by
  have h1 : ∀ x ∈ [u], 1 ≤ x ∧ x ≤ wd := fun x hx => by simp at hx; omega
  have e := pass_start V hm H hl (vs := [u]) (List.cons_ne_nil _ _) (by simp) h1
  have hd : (ws.drop m).length ≤ ws.length := by rw [List.length_drop]; omega
  rwa [start_one (V.app (by simp; omega) h1), start_one ((V.drop m).app (by simp at hd ⊢; omega) h1)] at e
theorem pass_IsStart {p : Nat} : IsStart wd ws p ↔ ∃ p', p = p' + m ∧ IsStart wd (ws.drop m) p' := by
  constructor
  · rintro ⟨u, u1, u2, z | z⟩
    · exact ⟨_, by rw [← z, pass_cls V hm H hl u1 u2], u, u1, u2, .inl rfl⟩
    · exact ⟨_, by rw [← z, pass_opn V hm H hl u1 u2], u, u1, u2, .inr rfl⟩
  · rintro ⟨p', rfl, u, u1, u2, z | z⟩
    · exact ⟨u, u1, u2, .inl (by rw [pass_cls V hm H hl u1 u2, z])⟩
    · exact ⟨u, u1, u2, .inr (by rw [pass_opn V hm H hl u1 u2, z])⟩
theorem pass_stL : stL wd ws = shf m (stL wd (ws.drop m)) := by
  have pw : (shf m (stL wd (ws.drop m))).Pairwise (· < ·) := by
    unfold shf
    rw [List.pairwise_map]
    exact (stL_lt wd (ws.drop m)).imp fun h => by omega
  have mem : ∀ p, p ∈ shf m (stL wd (ws.drop m)) ↔ IsStart wd ws p := fun p => by
    rw [pass_IsStart V hm H hl]
    unfold shf
    rw [List.mem_map]
    exact ⟨fun ⟨a, h, e⟩ => ⟨a, e.symm, stL_mem.mp h⟩, fun ⟨a, e, h⟩ => ⟨a, stL_mem.mpr h, e.symm⟩⟩
  have e : ∀ ns : List Nat, (ns.map fun (n : Nat) => (n : Int)).map Int.toNat = ns := fun ns => by
    rw [List.map_map]
    conv => rhs; rw [← List.map_id ns]
    exact List.map_congr_left fun x _ => by simp
  have h := stL_uniq (wd := wd) (ws := ws) (ns := (shf m (stL wd (ws.drop m))).map fun (n : Nat) => (n : Int)) (by rw [List.pairwise_map]; exact pw.imp fun h => by omega) (fun c => by
    rw [List.mem_map]
    exact ⟨fun ⟨a, h, z⟩ => ⟨a, z.symm, (mem a).mp h⟩, fun ⟨a, z, h⟩ => ⟨a, (mem a).mpr h, z.symm⟩⟩)
  rw [← e (stL wd ws), ← h, e]
theorem filt_le {a r : List Nat} {n : Nat} (ha : ∀ x ∈ a, x ≤ n) (hr : ∀ x ∈ r, n < x) : (a ++ r).filter (fun x => decide (x ≤ n)) = a := by
  rw [List.filter_append, List.filter_eq_self.mpr fun x hx => decide_eq_true (ha x hx), List.filter_eq_nil_iff.mpr fun x hx => by simpa using hr x hx, List.append_nil]
theorem pass_way {p : Nat} (hp : p ∈ stL wd (ws.drop m)) : way wd ws (p + m) = way wd ws m ++ shf m (way wd (ws.drop m) p) := by
  have hp2 : p + m ∈ stL wd ws := by rw [pass_stL V hm H hl]; exact mem_shf.mpr hp
  have hle := (stL_mem.mp hp2).le
  have hlp := (stL_mem.mp hp).le
  have hd : (ws.drop m).length = ws.length - m := List.length_drop
  obtain ⟨vs, v0, v2, v3, W, e⟩ := start_fut V hl hp2
  obtain ⟨r, hr⟩ := H vs v0 v2 v3
  have V' := V.drop m
  have W' : Wd wd (ws.drop m ++ vs) := V'.app (by omega) v3
  have er := pass_rest V hm W hr
  have e2 := pass_start V hm H hl v0 v2 v3
  have e3 : lastLe (ws.drop m).length (bestLay wd (ws.drop m ++ vs)) = p := by omega
  obtain ⟨r1, h1, x1, _⟩ := fut_split W V v0
  obtain ⟨r2, h2, x2, _⟩ := fut_split W' V' v0
  rw [e] at h1
  rw [e3] at h2
  have f1 : (bestLay wd (ws ++ vs)).filter (fun x => decide (x ≤ ws.length)) = way wd ws (p + m) := by
    rw [h1]; exact filt_le V hm H hl (fun x hx => by have := ((way_lay V _ hle).1.mem x hx).2; omega) x1
  have f2 : (bestLay wd (ws ++ vs)).filter (fun x => decide (x ≤ ws.length)) = way wd ws m ++ shf m (way wd (ws.drop m) p) := by
    rw [hr, er, h2, shf_app, ← List.append_assoc]
    refine filt_le V hm H hl (fun x hx => ?_) fun x hx => ?_
    · rcases List.mem_append.mp hx with z | z
      · have := (way_m V hm).2 x z; omega
      · obtain ⟨y, hy, rfl⟩ := List.mem_map.mp z
        have := ((way_lay V' _ hlp).1.mem y hy).2
        omega
    · obtain ⟨y, hy, rfl⟩ := List.mem_map.mp hx
      have := x2 y hy
      omega
  rw [← f1, f2]
variable (H0 : ∃ r, bestLay wd ws = way wd ws m ++ r)
include H0
theorem pass_best : bestLay wd ws = way wd ws m ++ shf m (bestLay wd (ws.drop m)) := by
  obtain ⟨r, hr⟩ := H0
  have W : Wd wd (ws ++ []) := by rw [List.append_nil]; exact V
  have := pass_rest V hm (vs := []) W (by rw [List.append_nil]; exact hr)
  rw [List.append_nil] at this
  rw [hr, this]
theorem pass_allE : allE wd ws = (allE wd (ws.drop m)).map fun ns => way wd ws m ++ shf m ns := by
  unfold allE
  rw [List.map_append, List.map_map, pass_stL V hm H hl]
  unfold shf
  rw [List.map_map, List.map_singleton]
  congr 1
  · exact List.map_congr_left fun p hp => pass_way V hm H hl hp
  · rw [pass_best V hm H hl H0]; rfl
theorem pass_cnt {q : Nat} (hq : 1 ≤ q) : cntE wd ws (q + m) = cntE wd (ws.drop m) q := by
  unfold cntE
  rw [pass_allE V hm H hl H0, List.countP_map]
  refine List.countP_congr fun ns _ => ?_
  show decide (q + m ∈ way wd ws m ++ shf m ns) = true ↔ decide (q ∈ ns) = true
  rw [decide_eq_true_eq, decide_eq_true_eq, List.mem_append, mem_shf]
  exact ⟨fun z => z.elim (fun z => by have := ((way_m V hm).2 _ z).2; omega) id, .inr⟩
theorem pass_len : (allE wd ws).length = (allE wd (ws.drop m)).length := by rw [pass_allE V hm H hl H0, List.length_map]
theorem pass_pre {q : Nat} (hq : q ≤ m) : cntE wd ws q = if q ∈ way wd ws m then (allE wd ws).length else 0 := by
  have key : ∀ ns ∈ allE wd (ws.drop m), (q ∈ way wd ws m ++ shf m ns ↔ q ∈ way wd ws m) := fun ns hn => by
    obtain ⟨e, c, _⟩ := allE_lay (V.drop m) ns hn
    rw [List.mem_append]
    refine ⟨fun z => z.elim id fun z => ?_, .inl⟩
    obtain ⟨y, hy, ey⟩ := List.mem_map.mp z
    have := (c.mem y hy).1
    omega
  unfold cntE
  rw [pass_len V hm H hl H0, pass_allE V hm H hl H0, List.countP_map]
  split
  · rename_i h
    rw [List.countP_eq_length]
    exact fun ns hn => decide_eq_true ((key ns hn).mpr h)
  · rename_i h
    rw [List.countP_eq_zero]
    exact fun ns hn z => h ((key ns hn).mp (of_decide_eq_true z))
theorem pass_sureL {q : Nat} (hq : 1 ≤ q) : q + m ∈ sureL wd ws ↔ q ∈ sureL wd (ws.drop m) := by
  rw [sureL_mem, sureL_mem, ← cntE_all, ← cntE_all, pass_cnt V hm H hl H0 hq, pass_len V hm H hl H0, List.length_drop]
  constructor
  · rintro ⟨a, b, c⟩; exact ⟨hq, by omega, c⟩
  · rintro ⟨a, b, c⟩; exact ⟨by omega, by omega, c⟩
theorem pass_LS (h : m < ws.length) : LS wd ws = LS wd (ws.drop m) + m := by
  have hd : (ws.drop m).length = ws.length - m := List.length_drop
  have e := pass_best V hm H hl H0
  rw [best_snoc (by omega), best_snoc (wd := wd) (ws := ws.drop m) (by omega), shf_app, ← List.append_assoc] at e
  have e2 : shf m [(ws.drop m).length] = [ws.length] := by unfold shf; rw [List.map_singleton, hd]; congr 1; omega
  rw [e2] at e
  have e3 := List.append_cancel_right e
  have e4 := congrArg (fun z => z.getLastD 0) e3
  rw [shf_last m _ _ (way_m V hm).1, (way_lay V _ (LS_le V)).1.last, (way_lay (V.drop m) _ (LS_le (V.drop m))).1.last] at e4
  exact e4
theorem pass_B (h : m < ws.length) : B wd ws ws.length = B wd (ws.drop m) (ws.drop m).length + m := by
  have w1 := V.w1
  have hd : (ws.drop m).length = ws.length - m := List.length_drop
  have hv : ∀ x ∈ [wd], 1 ≤ x ∧ x ≤ wd := fun x hx => by simp at hx; omega
  have V' := V.drop m
  have W : Wd wd (ws ++ [wd]) := V.app (by simp; omega) hv
  have W' : Wd wd (ws.drop m ++ [wd]) := V'.app (by simp; omega) hv
  have c0 := CB_at V (e := ws.length) (by omega) (Nat.le_refl _)
  have c0' := CB_at V' (e := (ws.drop m).length) (by omega) (Nat.le_refl _)
  have s1 := LS_wide V (by omega)
  have s2 := LS_wide V' (by omega)
  obtain ⟨r, hr⟩ := H [wd] (List.cons_ne_nil _ _) (by simp) hv
  have er := pass_rest V hm W hr
  have wc : ∀ (us : List Int) (U : Wd wd us), way wd (us ++ [wd]) us.length = way wd us us.length := fun us U =>
    (way_congr U (n := us.length) (Nat.le_refl _) (fun i j h1 h2 => (ln_appL (by omega) h2).symm) (Nat.le_refl _)).symm
  rw [er, best_snoc (by simp), best_snoc (wd := wd) (ws := ws.drop m ++ [wd]) (by simp), s1.1, s2.1, wc ws V, wc _ V', shf_app, ← List.append_assoc] at hr
  have e2 : shf m [(ws.drop m ++ [wd]).length] = [(ws ++ [wd]).length] := by unfold shf; rw [List.map_singleton, List.length_append, List.length_append, hd]; congr 1; simp only [List.length_singleton]; omega
  rw [e2] at hr
  have e3 := List.append_cancel_right hr
  rw [way_step V (e := ws.length) (by omega) (Nat.le_refl _), way_step V' (e := (ws.drop m).length) (by omega) (Nat.le_refl _), shf_app, ← List.append_assoc] at e3
  have e4 : shf m [(ws.drop m).length] = [ws.length] := by unfold shf; rw [List.map_singleton, hd]; congr 1; omega
  rw [e4] at e3
  have e5 := congrArg (fun z => z.getLastD 0) (List.append_cancel_right e3)
  rw [shf_last m _ _ (way_m V hm).1, (way_lay V _ (by omega)).1.last, (way_lay V' _ (by omega)).1.last] at e5
  exact e5
theorem pass_sureR {q : Nat} (hq : 1 ≤ q) : q + m ∈ sureR wd ws ↔ q ∈ sureR wd (ws.drop m) := by
  have hd : (ws.drop m).length = ws.length - m := List.length_drop
  rw [sureR_mem, sureR_mem, pass_sureL V hm H hl H0 hq]
  constructor
  · rintro ⟨a, b⟩
    refine ⟨a, fun z => ?_⟩
    have hlt : m < ws.length := by omega
    have := b (by omega)
    rw [pass_LS V hm H hl H0 hlt, pass_B V hm H hl H0 hlt] at this
    omega
  · rintro ⟨a, b⟩
    refine ⟨a, fun z => ?_⟩
    have hlt : m < ws.length := by omega
    have := b (by omega)
    rw [pass_LS V hm H hl H0 hlt, pass_B V hm H hl H0 hlt, this]
/-- the settled words of the rest -/
theorem pass_stM (h1 : 1 ≤ m) (hb : m = ws.length → B wd ws ws.length = LS wd ws) : stM wd ws = stM wd (ws.drop m) + m := by
  have hmR : m ∈ sureR wd ws := by
    refine sureR_mem.mpr ⟨sureL_mem.mpr ⟨h1, hm, ?_⟩, hb⟩
    rw [← cntE_all, pass_pre V hm H hl H0 (Nat.le_refl m), if_pos (way_has V (by omega) hm)]
  have hM := (stM_is wd ws).2.2
  have hM0 := stM_max wd ws (List.ne_nil_of_mem hmR)
  have h2 := hM m hmR
  obtain ⟨k1, k2, k3⟩ := stM_is wd (ws.drop m)
  rcases Nat.eq_or_lt_of_le h2 with z | z
  · rcases k1 with ⟨k, _⟩ | k
    · omega
    · have q1 := (sureL_mem.mp (sureR_mem.mp k).1).1
      have := hM _ ((pass_sureR V hm H hl H0 q1).mpr k)
      omega
  · have e : stM wd ws - m + m = stM wd ws := by omega
    have hR : stM wd ws - m ∈ sureR wd (ws.drop m) := (pass_sureR V hm H hl H0 (by omega)).mp (by rw [e]; exact hM0)
    have h3 := k3 _ hR
    have hq := stM_max wd (ws.drop m) (List.ne_nil_of_mem hR)
    have q1 := (sureL_mem.mp (sureR_mem.mp hq).1).1
    have := hM _ ((pass_sureR V hm H hl H0 q1).mpr hq)
    omega
theorem pass_stE (h1 : 1 ≤ m) (hb : m = ws.length → B wd ws ws.length = LS wd ws) : stE wd ws = way wd ws m ++ shf m (stE wd (ws.drop m)) := by
  have V' := V.drop m
  have hd : (ws.drop m).length = ws.length - m := List.length_drop
  have e := pass_stM V hm H hl H0 h1 hb
  obtain ⟨k1, k2, k3⟩ := stM_is wd (ws.drop m)
  rcases k1 with ⟨k, _⟩ | k
  · unfold stE
    rw [e, k, Nat.zero_add]
    exact (List.append_nil _).symm
  · have q1 := (sureL_mem.mp (sureR_mem.mp k).1).1
    have hR := (pass_sureR V hm H hl H0 q1).mpr k
    obtain ⟨r1, e1⟩ := sure_best V hR
    obtain ⟨r2, e2⟩ := sure_best V' k
    have eb := pass_best V hm H hl H0
    have b1 := (best_lay V).1
    have b2 := (best_lay V').1
    have gt : ∀ {us : List Int} {a r : List Nat} {n : Nat}, Wd wd us → Lay wd us (a ++ r) n → ∀ x ∈ r, a.getLastD 0 < x := fun U c x hx => by
      obtain ⟨y, z, ey⟩ := List.append_of_mem hx
      rw [ey, ← List.append_assoc] at c
      obtain ⟨l0, c0, c1, _⟩ := Lay.pre c
      have := (c0.seg.1.inv).2.le.1
      omega
    rw [e1] at b1
    rw [e2] at b2
    have g1 := gt V b1
    have g2 := gt V' b2
    have wl1 := (way_lay V (stM wd (ws.drop m) + m) (by omega)).1
    have wl2 := (way_lay V' (stM wd (ws.drop m)) k2).1
    rw [wl1.last] at g1
    rw [wl2.last] at g2
    have f1 : (bestLay wd ws).filter (fun x => decide (x ≤ stM wd (ws.drop m) + m)) = way wd ws (stM wd (ws.drop m) + m) := by
      rw [e1]; exact filt_le V hm H hl (fun x hx => (wl1.mem x hx).2) g1
    have f2 : (bestLay wd ws).filter (fun x => decide (x ≤ stM wd (ws.drop m) + m)) = way wd ws m ++ shf m (way wd (ws.drop m) (stM wd (ws.drop m))) := by
      rw [eb, e2, shf_app, ← List.append_assoc]
      refine filt_le V hm H hl (fun x hx => ?_) fun x hx => ?_
      · rcases List.mem_append.mp hx with z | z
        · have := (way_m V hm).2 x z; omega
        · obtain ⟨y, hy, rfl⟩ := List.mem_map.mp z
          have := (wl2.mem y hy).2
          omega
      · obtain ⟨y, hy, rfl⟩ := List.mem_map.mp hx
        have := g2 y hy
        omega
    unfold stE
    rw [e, ← f1, f2]
end
end LM

/-! LZw: a text that ends with a word of the width, and what stands behind it. -/
namespace LM
open PySem
theorem prsN_shf {m : Nat} {a : List Nat} (ha : a.getLastD 0 = m) (s : List Nat) : prsN (a ++ shf m s) = prsN a ++ (prsN s).map fun (l : Nat × Nat) => (l.1 + m, l.2 + m) := by
  have key : ∀ (n : Nat) (s : List Nat), s.length = n → prsN (a ++ shf m s) = prsN a ++ (prsN s).map fun (l : Nat × Nat) => (l.1 + m, l.2 + m) := fun n => by
    induction n with
    | zero => intro s h; rw [List.length_eq_zero_iff.mp h]; show prsN (a ++ []) = prsN a ++ []; rw [List.append_nil, List.append_nil]
    | succ n ih =>
      intro s h
      rcases List.eq_nil_or_concat s with e | ⟨r, x, e⟩
      · rw [e] at h; cases h
      · rw [List.concat_eq_append] at e
        subst e
        have hr : r.length = n := by simpa using h
        rw [shf_app, ← List.append_assoc]
        show prsN ((a ++ shf m r) ++ [x + m]) = _
        rw [prsN_snoc, prsN_snoc, ih r hr, shf_last m r a ha, List.map_append, List.append_assoc]
        rfl
  exact key _ s rfl
section
variable {wd : Int} {ws : List Int} {m : Nat} (V : Wd wd ws) (hm : m ≤ ws.length) (H : Pass wd ws m) (hl : ws.length + 2 ≤ 1000) (H0 : ∃ r, bestLay wd ws = way wd ws m ++ r)
include V hm H hl H0
theorem pass_tells {q : Nat} (hq : 1 ≤ q) : tells (cntE wd ws (q + m)) (allE wd ws).length = tells (cntE wd (ws.drop m) q) (allE wd (ws.drop m)).length := by
  rw [pass_cnt V hm H hl H0 hq, pass_len V hm H hl H0]
theorem pass_tellsL {q : Nat} (hq : q ≤ m) : tells (cntE wd ws q) (allE wd ws).length = if q ∈ way wd ws m then 2 else 0 := by
  rw [pass_pre V hm H hl H0 hq]
  have h0 : 0 < (allE wd ws).length := by rw [allE_len]; omega
  unfold tells
  split
  · rw [if_neg (by omega), if_pos rfl]
  · rw [if_pos rfl]
end
section
variable {wd : Int} {ws : List Int} (V : Wd wd ws) (hl : ws.length + 4 ≤ 1000)
include V hl
theorem wide_W : Wd wd (ws ++ [wd]) := V.snocW (by omega) V.w1 (Int.le_refl _)
theorem wide_shut : Shut wd (ws ++ [wd]) := shut_snoc (wide_W V hl) (by omega)
theorem wide_stL : stL wd (ws ++ [wd]) = [ws.length + 1] := by
  have := shut_stL (wide_W V hl) (wide_shut V hl)
  rwa [List.length_append, List.length_singleton] at this
theorem wide_B : B wd (ws ++ [wd]) (ws.length + 1) = ws.length := by
  have W' := wide_W V hl
  have hl2 : (ws ++ [wd]).length = ws.length + 1 := by simp
  obtain ⟨b1, b2, _⟩ := CB_at W' (e := ws.length + 1) (by omega) (by omega)
  by_cases c : B wd (ws ++ [wd]) (ws.length + 1) = ws.length
  · exact c
  · exact absurd b2 (Int.not_le.mpr (wide_line W' (by omega) (by omega) (by simp)))
theorem wide_pre : way wd (ws ++ [wd]) ws.length = way wd ws ws.length :=
  (way_congr V (n := ws.length) (Nat.le_refl _) (fun i j h1 h2 => (ln_appL (by omega) h2).symm) (Nat.le_refl _)).symm
theorem wide_way : way wd (ws ++ [wd]) (ws.length + 1) = way wd ws ws.length ++ [ws.length + 1] := by
  rw [way_step (wide_W V hl) (by omega) (by simp), wide_B V hl, wide_pre V hl]
theorem wide_best : bestLay wd (ws ++ [wd]) = way wd ws ws.length ++ [ws.length + 1] := by
  rw [best_snoc (by simp), (LS_wide V (by omega)).1, wide_pre V hl, List.length_append, List.length_singleton]
theorem wide_allE : allE wd (ws ++ [wd]) = [way wd ws ws.length ++ [ws.length + 1], way wd ws ws.length ++ [ws.length + 1]] := by
  unfold allE
  rw [wide_stL V hl, wide_best V hl, List.map_singleton, wide_way V hl]
  rfl
theorem wide_fut {vs : List Int} (W : Wd wd (ws ++ [wd] ++ vs)) : ∃ r, bestLay wd (ws ++ [wd] ++ vs) = way wd (ws ++ [wd]) (ws.length + 1) ++ r := by
  by_cases hv : vs = []
  · rw [hv, List.append_nil, wide_best V hl, wide_way V hl]; exact ⟨[], (List.append_nil _).symm⟩
  · obtain ⟨r, hr, _, hp⟩ := fut_split W (wide_W V hl) hv
    rw [wide_stL V hl, List.mem_singleton] at hp
    rw [hp] at hr
    exact ⟨r, hr⟩
theorem wide_wayA {vs : List Int} : way wd (ws ++ [wd] ++ vs) (ws.length + 1) = way wd ws ws.length ++ [ws.length + 1] := by
  rw [← wide_way V hl]
  exact (way_congr (wide_W V hl) (n := ws.length + 1) (by simp) (fun i j h1 h2 => (ln_appL (by omega) (by simp; omega)).symm) (Nat.le_refl _)).symm
variable {vs : List Int} (W : Wd wd (ws ++ [wd] ++ vs)) (hl2 : ws.length + 1 + vs.length + 2 ≤ 1000)
include W hl2
theorem wide_pass : Pass wd (ws ++ [wd] ++ vs) (ws.length + 1) := fun us h0 h1 h2 => by
  have hla : (ws ++ [wd] ++ vs).length = ws.length + 1 + vs.length := by simp only [List.length_append, List.length_singleton]
  have U : Wd wd (ws ++ [wd] ++ vs ++ us) := W.app (by omega) h2
  rw [List.append_assoc] at U
  obtain ⟨r, hr⟩ := wide_fut V hl U
  rw [← List.append_assoc, wide_way V hl, ← wide_wayA V hl (vs := vs)] at hr
  exact ⟨r, hr⟩
theorem wide_H0 : ∃ r, bestLay wd (ws ++ [wd] ++ vs) = way wd (ws ++ [wd] ++ vs) (ws.length + 1) ++ r := by
  obtain ⟨r, hr⟩ := wide_fut V hl W
  rw [wide_way V hl, ← wide_wayA V hl (vs := vs)] at hr
  exact ⟨r, hr⟩
theorem wide_hb (h : ws.length + 1 = (ws ++ [wd] ++ vs).length) : B wd (ws ++ [wd] ++ vs) (ws ++ [wd] ++ vs).length = LS wd (ws ++ [wd] ++ vs) := by
  have hla : (ws ++ [wd] ++ vs).length = ws.length + 1 + vs.length := by simp only [List.length_append, List.length_singleton]
  have hv : vs = [] := List.length_eq_zero_iff.mp (by omega)
  subst hv
  rw [List.append_nil, (LS_wide V (by omega)).1, List.length_append, List.length_singleton, wide_B V hl]
theorem wide_drop : (ws ++ [wd] ++ vs).drop (ws.length + 1) = vs := by
  have : ws.length + 1 = (ws ++ [wd]).length := by simp
  rw [this, List.drop_left]
/-- all together -/
theorem wide_facts : bestLay wd (ws ++ [wd] ++ vs) = way wd ws ws.length ++ [ws.length + 1] ++ shf (ws.length + 1) (bestLay wd vs)
    ∧ stL wd (ws ++ [wd] ++ vs) = shf (ws.length + 1) (stL wd vs)
    ∧ (∀ q, 1 ≤ q → tells (cntE wd (ws ++ [wd] ++ vs) (q + (ws.length + 1))) (allE wd (ws ++ [wd] ++ vs)).length = tells (cntE wd vs q) (allE wd vs).length)
    ∧ (∀ q, q ≤ ws.length + 1 → tells (cntE wd (ws ++ [wd] ++ vs) q) (allE wd (ws ++ [wd] ++ vs)).length = if q ∈ way wd ws ws.length ++ [ws.length + 1] then 2 else 0)
    ∧ stE wd (ws ++ [wd] ++ vs) = way wd ws ws.length ++ [ws.length + 1] ++ shf (ws.length + 1) (stE wd vs)
    ∧ stM wd (ws ++ [wd] ++ vs) = stM wd vs + (ws.length + 1) := by
  have hla : (ws ++ [wd] ++ vs).length = ws.length + 1 + vs.length := by simp only [List.length_append, List.length_singleton]
  have hm : ws.length + 1 ≤ (ws ++ [wd] ++ vs).length := by omega
  have H := wide_pass V hl W hl2
  have H0 := wide_H0 V hl W hl2
  have hL : (ws ++ [wd] ++ vs).length + 2 ≤ 1000 := by omega
  have hd := wide_drop V hl W hl2
  have hb := wide_hb V hl W hl2
  have e0 := wide_wayA V hl (vs := vs)
  refine ⟨?_, ?_, fun q hq => ?_, fun q hq => ?_, ?_, ?_⟩
  · have := pass_best W hm H hL H0; rwa [hd, e0] at this
  · have := pass_stL W hm H hL; rwa [hd] at this
  · have := pass_tells W hm H hL H0 hq; rwa [hd] at this
  · have := pass_tellsL W hm H hL H0 hq; rwa [e0] at this
  · have := pass_stE W hm H hL H0 (by omega) hb; rwa [hd, e0] at this
  · have := pass_stM W hm H hL H0 (by omega) hb; rwa [hd] at this
end
theorem stL_nil {wd : Int} (w1 : 1 ≤ wd) (w2 : wd ≤ 1000000000) : stL wd [] = [0] := by
  have := shut_stL (wd := wd) (ws := []) ⟨w1, w2, Nat.zero_le _, fun _ h => nomatch h⟩ shut_nil
  exact this
end LM

/-! LZv: the text behind the settled words. -/
namespace LM
open PySem
theorem prs_take (a b : List Nat) : (prsN (a ++ b)).take (prsN a).length = prsN a := by
  obtain ⟨c, e, _⟩ := prsN_app a b
  rw [e, List.take_left]
theorem prs_last (ns : List Nat) : ((prsN ns).getLastD (0, 0)).2 = ns.getLastD 0 := by
  rcases List.eq_nil_or_concat ns with e | ⟨r, x, e⟩
  · rw [e]; rfl
  · rw [e, List.concat_eq_append, prsN_snoc, List.getLastD_concat, List.getLastD_concat]
theorem shf_zero (ns : List Nat) : shf 0 ns = ns := by unfold shf; simp
section
variable {wd : Int} {ws : List Int} (V : Wd wd ws) (hl : ws.length + 2 ≤ 1000)
include V hl
theorem set_pass : Pass wd ws (stM wd ws) := fun vs h0 h2 hv => stE_fut (V.app (by omega) hv) V
theorem set_rest0 : stM wd (ws.drop (stM wd ws)) = 0 := by
  have hm := (stM_is wd ws).2.1
  rcases Nat.eq_zero_or_pos (stM wd ws) with z | z
  · rw [z, List.drop_zero, z]
  · have hR : stM wd ws ∈ sureR wd ws := (stM_is wd ws).1.resolve_left fun y => by omega
    have := pass_stM V hm (set_pass V hl) hl (stE_best V) z (fun e => (sureR_mem.mp hR).2 e)
    omega
theorem set_restE : stE wd (ws.drop (stM wd ws)) = [] := by
  unfold stE
  rw [set_rest0 V hl]; rfl
theorem set_stL : stL wd ws = shf (stM wd ws) (stL wd (ws.drop (stM wd ws))) := pass_stL V (stM_is wd ws).2.1 (set_pass V hl) hl
theorem set_tells {q : Nat} (hq : 1 ≤ q) : tells (cntE wd ws (q + stM wd ws)) (allE wd ws).length = tells (cntE wd (ws.drop (stM wd ws)) q) (allE wd (ws.drop (stM wd ws))).length :=
  pass_tells V (stM_is wd ws).2.1 (set_pass V hl) hl (stE_best V) hq
theorem set_fut {vs : List Int} (W : Wd wd (ws ++ vs)) : bestLay wd (ws ++ vs) = stE wd ws ++ shf (stM wd ws) (bestLay wd (ws.drop (stM wd ws) ++ vs)) := by
  obtain ⟨r, hr⟩ := stE_fut W V
  have := pass_rest V (stM_is wd ws).2.1 W hr
  rw [hr, this]
theorem set_filter {vs : List Int} (W : Wd wd (ws ++ vs)) : (bestLay wd (ws ++ vs)).filter (fun x => decide (x ≤ stM wd ws)) = stE wd ws := by
  have hm := (stM_is wd ws).2.1
  have wm : ∀ x ∈ stE wd ws, 1 ≤ x ∧ x ≤ stM wd ws := (way_lay V _ hm).1.mem
  rw [set_fut V hl W, List.filter_append, List.filter_eq_self.mpr fun x h => decide_eq_true (wm x h).2, List.filter_eq_nil_iff.mpr fun x h => ?_, List.append_nil]
  obtain ⟨y, hy, rfl⟩ := List.mem_map.mp h
  have W2 : Wd wd (ws.drop (stM wd ws) ++ vs) := by
    have := W.drop (stM wd ws)
    rwa [List.drop_append_of_le_length hm] at this
  have := ((best_lay W2).1.mem y hy).1
  simp
  omega
theorem set_in : stM wd ws = 0 ∨ stM wd ws ∈ stE wd ws := by
  rcases Nat.eq_zero_or_pos (stM wd ws) with z | z
  · exact .inl z
  · exact .inr (way_has V z (stM_is wd ws).2.1)
end
end LM

/-! LZx: scaled texts. -/
namespace LM
open PySem
theorem sureR_pre {wd : Int} {ws : List Int} (W : Wd wd ws) {q : Nat} (h : q ∈ sureR wd ws) : ∃ r, stE wd ws = way wd ws q ++ r := by
  have hle := (stM_is wd ws).2.2 _ h
  have hM := stM_max wd ws (List.ne_nil_of_mem h)
  obtain ⟨r1, e1⟩ := sure_best W h
  obtain ⟨r2, e2⟩ := sure_best W hM
  obtain ⟨q1, q2, _⟩ := sureL_mem.mp (sureR_mem.mp h).1
  obtain ⟨m1, m2, _⟩ := sureL_mem.mp (sureR_mem.mp hM).1
  have hin : q ∈ way wd ws (stM wd ws) := by
    have h3 : q ∈ bestLay wd ws := by rw [e1]; exact List.mem_append_left _ (way_has W (by omega) q2)
    have bl := (best_lay W).1
    rw [e2] at h3 bl
    rcases List.mem_append.mp h3 with y | y
    · exact y
    · obtain ⟨a, b, er⟩ := List.append_of_mem y
      rw [er, ← List.append_assoc] at bl
      obtain ⟨l0, c0, c1, _⟩ := Lay.pre bl
      have h5 := (c0.seg.1.inv).2.le.1
      have h6 : (way wd ws (stM wd ws)).getLastD 0 = stM wd ws := (way_lay W _ m2).1.last
      rw [h6] at h5
      omega
  exact way_ahead W m2 hin
def scl (f : Int) (x : Int) : Int := f * (x + 1) - 1
def scW (f : Int) (ws : List Int) : List Int := ws.map (scl f)
theorem scW_len (f : Int) (ws : List Int) : (scW f ws).length = ws.length := List.length_map _
theorem scW_app (f : Int) (a b : List Int) : scW f (a ++ b) = scW f a ++ scW f b := List.map_append
section
variable {wd : Int} {ws : List Int} {f : Int} (W : Wd wd ws) (f1 : 1 ≤ f) (hg : scl f wd ≤ 1000000000)
include f1
theorem sc_le {x y : Int} : scl f x ≤ scl f y ↔ x ≤ y := by
  unfold scl
  constructor
  · intro h
    have : f * (x + 1) ≤ f * (y + 1) := by omega
    have := Int.le_of_mul_le_mul_left this (by omega)
    omega
  · intro h
    have := Int.mul_le_mul_of_nonneg_left (show x + 1 ≤ y + 1 by omega) (show 0 ≤ f by omega)
    omega
theorem sc_one {x : Int} (h : 1 ≤ x) : 1 ≤ scl f x := by
  have := (sc_le f1 (x := 1) (y := x)).mpr h
  unfold scl at this ⊢
  omega
include W hg
theorem sc_W : Wd (scl f wd) (scW f ws) := ⟨sc_one f1 W.w1, hg, by rw [scW_len]; exact W.len, fun x hx => by
  obtain ⟨y, hy, rfl⟩ := List.mem_map.mp hx
  have := W.wrd y hy
  exact ⟨sc_one f1 this.1, (sc_le f1).mpr this.2⟩⟩
theorem sc_sm {j : Nat} (h : j ≤ ws.length) : sm (scW f ws) j = f * sm ws j := by
  induction j with
  | zero => rw [sm_eq _ (Nat.zero_le _), sm_eq _ (Nat.zero_le _)]; simp
  | succ j ih =>
    have h2 : j < (scW f ws).length := by rw [scW_len]; omega
    rw [sm_succ _ h2, sm_succ _ (show j < ws.length by omega), ih (by omega)]
    have e : (scW f ws)[j] = scl f ws[j] := List.getElem_map (scl f)
    rw [e]
    unfold scl
    rw [Int.mul_add, Int.mul_add, Int.mul_add]
    omega
theorem sc_ln {i j : Nat} (hi : i ≤ ws.length) (hj : j ≤ ws.length) : ln (scW f ws) i j = scl f (ln ws i j) := by
  unfold ln scl
  rw [sc_sm W f1 hg hi, sc_sm W f1 hg hj, Int.sub_add_cancel, Int.mul_sub]
theorem sc_fit {i j : Nat} (hi : i ≤ ws.length) (hj : j ≤ ws.length) : ln (scW f ws) i j ≤ scl f wd ↔ ln ws i j ≤ wd := by
  rw [sc_ln W f1 hg hi hj, sc_le f1]
theorem sc_sq {i j : Nat} (hi : i ≤ ws.length) (hj : j ≤ ws.length) : sq (scl f wd) (scW f ws) i j = f * f * sq wd ws i j := by
  unfold sq
  rw [sc_ln W f1 hg hi hj]
  have e : scl f wd - scl f (ln ws i j) = f * (wd - ln ws i j) := by
    unfold scl
    rw [Int.mul_sub, Int.mul_add, Int.mul_add]
    omega
  rw [e, Int.mul_pow, Int.pow_succ, Int.pow_succ, Int.pow_zero, Int.one_mul]
theorem sc_C : ∀ e, e ≤ ws.length → C (scl f wd) (scW f ws) e = f * f * C wd ws e ∧ B (scl f wd) (scW f ws) e = B wd ws e := by
  have W' := sc_W W f1 hg
  have hff : 0 < f * f := Int.mul_pos (by omega) (by omega)
  intro e
  induction e using Nat.strongRecOn with
  | _ e ih =>
    intro he
    by_cases h0 : e = 0
    · subst h0
      refine ⟨by rw [C0, C0, Int.mul_zero], rfl⟩
    · obtain ⟨b1, b2, b3, _, b4⟩ := CB_at W (e := e) (by omega) he
      obtain ⟨c1, c2, c3, _, c4⟩ := CB_at W' (e := e) (by omega) (by rw [scW_len]; exact he)
      have hv : ∀ b, b < e → C (scl f wd) (scW f ws) b + sq (scl f wd) (scW f ws) b e = f * f * (C wd ws b + sq wd ws b e) := fun b hb => by
        rw [(ih b hb (by omega)).1, sc_sq W f1 hg (by omega) he, Int.mul_add]
      have eB : B (scl f wd) (scW f ws) e = B wd ws e := by
        refine IsBest.uniq (f := fun b => C wd ws b + sq wd ws b e) (S := fun b => b < e ∧ ln ws b e ≤ wd) (show IsBest _ _ _ from ⟨⟨c1, (sc_fit W f1 hg (by omega) he).mp c2⟩, fun c hc => ?_⟩) (show IsBest _ _ _ from ⟨⟨b1, b2⟩, fun c hc => ?_⟩)
        · have h := c4 c hc.1 ((sc_fit W f1 hg (by omega) he).mpr hc.2)
          rw [c3, hv _ c1, hv _ hc.1] at h
          rcases h with h | ⟨h, h2⟩
          · exact .inl (Int.lt_of_mul_lt_mul_left h (by omega))
          · exact .inr ⟨Int.eq_of_mul_eq_mul_left (by omega) h, h2⟩
        · have h := b4 c hc.1 hc.2
          rw [b3] at h
          exact h
      refine ⟨?_, eB⟩
      rw [c3, hv _ c1, eB, ← b3]
theorem sc_way : ∀ e, e ≤ ws.length → way (scl f wd) (scW f ws) e = way wd ws e := by
  have W' := sc_W W f1 hg
  intro e
  induction e using Nat.strongRecOn with
  | _ e ih =>
    intro he
    by_cases h0 : e = 0
    · subst h0; rfl
    · have b1 := (CB_at W (e := e) (by omega) he).1
      rw [way_step W (by omega) he, way_step W' (by omega) (by rw [scW_len]; exact he), (sc_C W f1 hg e he).2, ih _ b1 (by omega)]
theorem sc_LS : LS (scl f wd) (scW f ws) = LS wd ws := by
  have W' := sc_W W f1 hg
  have hff : 0 < f * f := Int.mul_pos (by omega) (by omega)
  by_cases h0 : ws.length = 0
  · unfold LS; rw [if_pos h0, if_pos (by rw [scW_len]; exact h0)]
  · obtain ⟨b1, b2, _, b4⟩ := LS_at W (by omega)
    obtain ⟨c1, c2, _, c4⟩ := LS_at W' (by rw [scW_len]; omega)
    rw [scW_len] at c1 c2 c4
    refine IsBest.uniq (f := C wd ws) (S := fun b => b < ws.length ∧ ln ws b ws.length ≤ wd) (show IsBest _ _ _ from ⟨⟨c1, (sc_fit W f1 hg (by omega) (Nat.le_refl _)).mp c2⟩, fun c hc => ?_⟩) (show IsBest _ _ _ from ⟨⟨b1, b2⟩, fun c hc => b4 c hc.1 hc.2⟩)
    have h := c4 c hc.1 ((sc_fit W f1 hg (by omega) (Nat.le_refl _)).mpr hc.2)
    rw [(sc_C W f1 hg _ (by omega)).1, (sc_C W f1 hg c (by omega)).1] at h
    rcases h with h | ⟨h, h2⟩
    · exact .inl (Int.lt_of_mul_lt_mul_left h (by omega))
    · exact .inr ⟨Int.eq_of_mul_eq_mul_left (by omega) h, h2⟩
theorem sc_best : bestLay (scl f wd) (scW f ws) = bestLay wd ws := by
  have hL := LS_le W
  unfold bestLay
  rw [scW_len, sc_LS W f1 hg]
  split
  · rfl
  · rw [sc_way W f1 hg _ hL]
theorem sc_start (hl : ws.length + 2 ≤ 1000) {p : Nat} (hp : p ∈ stL wd ws) : p ∈ stL (scl f wd) (scW f ws) := by
  have W' := sc_W W f1 hg
  obtain ⟨u, u1, u2, z⟩ := stL_mem.mp hp
  have hu : ∀ y ∈ [u], 1 ≤ y ∧ y ≤ wd := fun y hy => by rw [List.mem_singleton.mp hy]; omega
  have W1 : Wd wd (ws ++ [u]) := W.app (by simp; omega) hu
  have W1' := sc_W W1 f1 hg
  have e1 : scW f (ws ++ [u]) = scW f ws ++ [scl f u] := scW_app f ws [u]
  have e2 : scW f (ws ++ [u, wd]) = scW f ws ++ [scl f u, scl f wd] := scW_app f ws [u, wd]
  rw [e1] at W1'
  refine stL_mem.mpr ⟨scl f u, sc_one f1 u1, (sc_le f1).mpr u2, ?_⟩
  rcases z with z | z
  · left
    have W2 : Wd wd (ws ++ [u, wd]) := W.app (by simp; omega) fun y hy => by simp at hy; omega
    have h := start_two W1 (by omega)
    have h' := start_two W1' (by rw [scW_len]; omega)
    rw [← e2, sc_best W2 f1 hg, scW_len, h] at h'
    rw [← h', z]
  · right
    have h := start_one W1
    have h' := start_one W1'
    rw [← e1, sc_best W1 f1 hg, scW_len, h] at h'
    rw [← h', z]
theorem sc_sure (hl : ws.length + 2 ≤ 1000) {q : Nat} (hq : (∀ p ∈ stL (scl f wd) (scW f ws), q ∈ way (scl f wd) (scW f ws) p) ∧ q ∈ bestLay (scl f wd) (scW f ws)) : (∀ p ∈ stL wd ws, q ∈ way wd ws p) ∧ q ∈ bestLay wd ws := by
  refine ⟨fun p hp => ?_, by rw [← sc_best W f1 hg]; exact hq.2⟩
  have h := hq.1 p (sc_start W f1 hg hl hp)
  rwa [sc_way W f1 hg p (stL_mem.mp hp).le] at h
theorem sc_never (hl : ws.length + 2 ≤ 1000) {q : Nat} (hq : (∀ p ∈ stL (scl f wd) (scW f ws), q ∉ way (scl f wd) (scW f ws) p) ∧ q ∉ bestLay (scl f wd) (scW f ws)) : (∀ p ∈ stL wd ws, q ∉ way wd ws p) ∧ q ∉ bestLay wd ws := by
  refine ⟨fun p hp => ?_, by rw [← sc_best W f1 hg]; exact hq.2⟩
  have h := hq.1 p (sc_start W f1 hg hl hp)
  rwa [sc_way W f1 hg p (stL_mem.mp hp).le] at h
theorem sc_tells (hl : ws.length + 2 ≤ 1000) {q : Nat} (h : tells (cntE (scl f wd) (scW f ws) q) (allE (scl f wd) (scW f ws)).length ≠ 1) : tells (cntE wd ws q) (allE wd ws).length = tells (cntE (scl f wd) (scW f ws) q) (allE (scl f wd) (scW f ws)).length := by
  have hm : (allE wd ws).length ≠ 0 := by rw [allE_len]; omega
  have hm' : (allE (scl f wd) (scW f ws)).length ≠ 0 := by rw [allE_len]; omega
  unfold tells at h ⊢
  by_cases h0 : cntE (scl f wd) (scW f ws) q = 0
  · have := cntE_zero.mpr (sc_never W f1 hg hl (cntE_zero.mp h0))
    rw [if_pos h0, if_pos this]
  · rw [if_neg h0] at h ⊢
    by_cases h1 : cntE (scl f wd) (scW f ws) q = (allE (scl f wd) (scW f ws)).length
    · have := cntE_all.mpr (sc_sure W f1 hg hl (cntE_all.mp h1))
      rw [if_pos h1, this, if_neg hm, if_pos rfl]
    · rw [if_neg h1] at h
      exact absurd rfl h
theorem sc_stE (hl : ws.length + 2 ≤ 1000) : ∃ r, stE wd ws = stE (scl f wd) (scW f ws) ++ r := by
  have W' := sc_W W f1 hg
  rcases (stM_is (scl f wd) (scW f ws)).1 with ⟨z, _⟩ | z
  · unfold stE
    rw [z, way0]
    exact ⟨_, rfl⟩
  · obtain ⟨h1, h2⟩ := sureR_mem.mp z
    obtain ⟨q1, q2, q3⟩ := sureL_mem.mp h1
    rw [scW_len] at q2 h2
    have hR : stM (scl f wd) (scW f ws) ∈ sureR wd ws := sureR_mem.mpr ⟨sureL_mem.mpr ⟨q1, q2, sc_sure W f1 hg hl q3⟩, fun e => by
      have := h2 e
      rwa [(sc_C W f1 hg _ (Nat.le_refl _)).2, sc_LS W f1 hg] at this⟩
    obtain ⟨r, hr⟩ := sureR_pre W hR
    refine ⟨r, ?_⟩
    show _ = way (scl f wd) (scW f ws) (stM (scl f wd) (scW f ws)) ++ r
    rw [sc_way W f1 hg _ q2]
    exact hr
end
end LM

/-! LZc: in how many ways the lines of a best layout can be chosen. -/
namespace LM
open PySem
/-- what the lines up to e may cost; the last line is free -/
def glC (wd : Int) (ws : List Int) (e : Nat) : Int := if e = ws.length then C wd ws (LS wd ws) else C wd ws e
def szC (wd : Int) (ws : List Int) (e b : Nat) : Int := if e = ws.length then 0 else sq wd ws b e
/-- the begins of last lines of the least cost -/
def chB (wd : Int) (ws : List Int) (e : Nat) : List Nat := (bg wd ws e).filter fun b => decide (C wd ws b + szC wd ws e b = glC wd ws e)
/-- the numbers of ways -/
def wyL (wd : Int) (ws : List Int) : Nat → List Int
  | 0 => [1]
  | m + 1 => wyL wd ws m ++ [((chB wd ws (m + 1)).map fun b => (wyL wd ws m).getD b 0).sum]
def cntB (wd : Int) (ws : List Int) : Int := (wyL wd ws ws.length).getD ws.length 0
theorem wyL_len (wd : Int) (ws : List Int) : ∀ m, (wyL wd ws m).length = m + 1
  | 0 => rfl
  | m + 1 => by rw [wyL, List.length_append, wyL_len wd ws m]; rfl
theorem chB_lt {wd : Int} {ws : List Int} (W : Wd wd ws) {e b : Nat} (he : e ≤ ws.length) (h : b ∈ chB wd ws e) : b < e ∧ ln ws b e ≤ wd := by
  have := (bg_mem W he).mp (List.mem_filter.mp h).1
  exact this
theorem wyL_pre (wd : Int) (ws : List Int) {m n : Nat} (h : m ≤ n) : ∀ j, j ≤ m → (wyL wd ws n).getD j 0 = (wyL wd ws m).getD j 0 := by
  intro j hj
  induction n with
  | zero =>
    have : m = 0 := by omega
    subst this; rfl
  | succ n ih =>
    by_cases e : m = n + 1
    · rw [e]
    · rw [← ih (by omega)]
      have hl := wyL_len wd ws n
      rw [wyL, List.getD_eq_getElem?_getD, List.getElem?_append_left (by omega), ← List.getD_eq_getElem?_getD]
/-- the number of ways up to e -/
def wyN (wd : Int) (ws : List Int) (e : Nat) : Int := (wyL wd ws e).getD e 0
theorem wyN_zero (wd : Int) (ws : List Int) : wyN wd ws 0 = 1 := rfl
theorem wyN_at {wd : Int} {ws : List Int} {m j : Nat} (h : j ≤ m) : (wyL wd ws m).getD j 0 = wyN wd ws j := wyL_pre wd ws h j (Nat.le_refl _)
theorem wyN_succ {wd : Int} {ws : List Int} (W : Wd wd ws) {e : Nat} (he : e + 1 ≤ ws.length) : wyN wd ws (e + 1) = ((chB wd ws (e + 1)).map (wyN wd ws)).sum := by
  have hl := wyL_len wd ws e
  unfold wyN
  rw [wyL, List.getD_eq_getElem?_getD, List.getElem?_append_right (by omega), hl, Nat.sub_self]
  refine congrArg List.sum (List.map_congr_left fun b hb => ?_)
  have := (chB_lt W he hb).1
  exact wyN_at (by omega)
theorem cntB_eq (wd : Int) (ws : List Int) : cntB wd ws = wyN wd ws ws.length := rfl
section
variable {wd : Int} {ws : List Int} {f : Int} (W : Wd wd ws) (f1 : 1 ≤ f) (hg : scl f wd ≤ 1000000000)
include W f1 hg
theorem sc_bg {e : Nat} (he : e ≤ ws.length) : bg (scl f wd) (scW f ws) e = bg wd ws e := by
  have key : ∀ m, m ≤ e → bgF (scl f wd) (scW f ws) e m = bgF wd ws e m := fun m => by
    induction m with
    | zero => intro _; rfl
    | succ m ih =>
      intro h
      have hh := sc_fit W f1 hg (i := m) (j := e) (by omega) he
      unfold bgF
      by_cases hl : ln ws m e ≤ wd
      · rw [if_pos hl, if_pos (hh.mpr hl), ih (by omega)]
      · rw [if_neg hl, if_neg fun z => hl (hh.mp z)]
  exact key e (Nat.le_refl _)
theorem sc_chB {e : Nat} (he : e ≤ ws.length) : chB (scl f wd) (scW f ws) e = chB wd ws e := by
  have hf : 0 < f * f := Int.mul_pos (by omega) (by omega)
  unfold chB
  rw [sc_bg W f1 hg he]
  refine List.filter_congr fun b hb => ?_
  have hbe := (bg_mem W he).mp hb
  have hLS := LS_le W
  rw [decide_eq_decide]
  unfold szC glC
  rw [scW_len, sc_LS W f1 hg, (sc_C W f1 hg b (by omega)).1, (sc_C W f1 hg _ hLS).1, (sc_C W f1 hg e he).1, sc_sq W f1 hg (by omega) he]
  split
  · constructor
    · intro h
      rw [Int.add_zero] at h ⊢
      exact Int.eq_of_mul_eq_mul_left (by omega) h
    · intro h
      rw [Int.add_zero] at h ⊢
      rw [h]
  · rw [← Int.mul_add]
    constructor
    · intro h; exact Int.eq_of_mul_eq_mul_left (by omega) h
    · intro h; rw [h]
theorem sc_cnt : cntB (scl f wd) (scW f ws) = cntB wd ws := by
  have key : ∀ m, m ≤ ws.length → wyL (scl f wd) (scW f ws) m = wyL wd ws m := fun m => by
    induction m with
    | zero => intro _; rfl
    | succ m ih =>
      intro h
      rw [wyL, wyL, ih (by omega), sc_chB W f1 hg h]
  unfold cntB
  rw [scW_len, key _ (Nat.le_refl _)]
end
end LM

/-! QT: dicts: d[k]; dicts locked for good. -/
namespace QL
open PySem PySem.Spec PyProof.Rows L2
def valT (kvs : List (Key × D)) (k : Key) : Option D := (kvs.find? fun kv => decide (kv.1 = k)).map (·.2)
theorem kD_inj : ∀ {a b : Key}, kD a = kD b → a = b
  | .inl _, .inl _, h => by cases h; rfl
  | .inr _, .inr _, h => by cases h; rfl
  | .inl _, .inr _, h => nomatch h
  | .inr _, .inl _, h => nomatch h
theorem RpK.val {F : Hp} : ∀ {kvs : List (Key × V)} {ds : List (Key × D)} {k : Key} {d : D}, RpK F kvs (ds.map fun p => (kD p.1, p.2)) → valT ds k = some d → ∃ v, valV kvs k = some v ∧ Rp F v d
  | [], [], k, d, _, h => nomatch h
  | [], q :: ds, k, d, r, h => nomatch r
  | p :: kvs, [], k, d, r, h => nomatch r
  | p :: kvs, q :: ds, k, d, r, h => by
    obtain ⟨k1, v1⟩ := p
    obtain ⟨k2, d2⟩ := q
    have r' : RpK F ((k1, v1) :: kvs) ((kD k2, d2) :: ds.map fun p => (kD p.1, p.2)) := r
    generalize hz : kD k2 = z at r'
    cases r' with
    | cons r1 r2 =>
      have ek : k2 = k1 := kD_inj hz
      subst ek
      unfold valT valV at *
      rw [List.find?_cons] at h ⊢
      by_cases e : k2 = k
      · simp only [e, decide_true] at h ⊢
        cases h
        exact ⟨v1, rfl, r1⟩
      · simp only [e, decide_false] at h ⊢
        exact RpK.val r2 h
def dixG (d1 d2 : D) (k : T → Prop) : Prop := ∃ (kvs : List (Key × D)) (y : Key) (v : D), d1 = .dict (kvs.map fun p => (kD p.1, p.2)) ∧ d2 = kD y ∧ valT kvs y = some v ∧ k (.va v)
section
variable {Tq : List (Addr × Str)} {Z : Zb Tq} {X : Cx} {env : Env} {P : R → Env → Prop} {a b : Expr} {pos : Pos}
theorem Rp.key {F : Hp} {v : V} {y : Key} (r : Rp F v (kD y)) : v = kV y := by
  cases y with
  | inl i => cases r; rfl
  | inr x => cases r; rfl
theorem w_dix (hu : X.A.units + 1 < cLine) (h : WA Z X a env fun a1 e1 => WA Z X b e1 fun a2 e2 => View a1 e2 fun d1 => View a2 e2 fun d2 => dixG d1 d2 fun t => P (.t t) e2) (hs : NoSl b := by intro _ _; rfl) : WE Z X (.Subscript a b pos) env P :=
  we_of (pe_dget hu (pe_A (Z := Z)) (pe_A (Z := Z)) hs) fun σ H F O b0 o => ⟨env, F, O, _, b0, o, h, fun x H1 ⟨F1, O1, a1, e1, b1, o1, st1, fr1, h1⟩ => ⟨e1, F1, O1, _, b1, o1, h1, fun y H2 ⟨F2, O2, a2, e2, b2, o2, st2, fr2, h2⟩ => by
    obtain ⟨d1, w1, h3⟩ := View.vw h2 o2 (st1.mono fr2.fz)
    obtain ⟨d2, w2, kvs, k, v, rfl, rfl, hv, q⟩ := View.vw h3 o2 st2
    have ey : y = kV k := by
      cases k with
      | inl i => cases w2; rename_i r; exact r.key (y := .inl i)
      | inr x => cases w2; rename_i r; exact r.key (y := .inr x)
    cases w1 with
    | pure r =>
      cases r with
      | dic hd rk =>
        obtain ⟨z, hz, rz⟩ := RpK.val rk hv
        refine ⟨_, z, rfl, .inl ⟨_, k, rd_mono b2.sub hd, ey, hz.symm⟩, ?_⟩
        exact ⟨F2, O2, .t (.va v), e2, b2, ⟨O2, [], (List.append_nil O2).symm, o2, .va rz⟩, fr1.trans fr2, q⟩
    | dic hd rk =>
      obtain ⟨z, hz, rz⟩ := RpK.val rk hv
      refine ⟨_, z, rfl, .inl ⟨_, k, .inl hd, ey, hz.symm⟩, ?_⟩
      exact ⟨F2, O2, .t (.va v), e2, b2, ⟨O2, [], (List.append_nil O2).symm, o2, .va rz⟩, fr1.trans fr2, q⟩⟩⟩
theorem RpT.at_ {F : Hp} : ∀ {vs : List (Key × V)} {ds : List (Key × D)} {i : Nat} {k : Key} {d : D}, RpT F vs ds → ds[i]? = some (k, d) → ∃ v, vs[i]? = some (k, v) ∧ Rp F v d
  | _, _, i, k, d, .nil, h => by simp at h
  | _, _, 0, k, d, .cons r _, h => by simp at h; obtain ⟨rfl, rfl⟩ := h; exact ⟨_, rfl, r⟩
  | _, _, i + 1, k, d, .cons _ r, h => by
    rw [List.getElem?_cons_succ] at h ⊢
    exact RpT.at_ r h
theorem RpT.len {F : Hp} : ∀ {vs : List (Key × V)} {ds : List (Key × D)}, RpT F vs ds → vs.length = ds.length
  | _, _, .nil => rfl
  | _, _, .cons _ r => congrArg (· + 1) r.len
theorem rp_key {F : Hp} : ∀ (k : Key), Rp F (kV k) (kD k)
  | .inl i => .int i
  | .inr x => .str x
theorem gives_items {a : Addr} {o : Obj} {vs : List (Key × V)} {ds : List (Key × D)} {F : Hp} (h : F a = some (.frz o (.dK vs))) (r : RpT F vs ds) : Gives (Iti a o vs) (ds.map fun p => PyData.tuple [kD p.1, p.2]) F := fun F' H' s1 s2 i => by
  have q := s2 _ _ (s1 _ _ h)
  have hl := r.len
  refine ⟨fun d hd => ?_, fun hn => ?_⟩
  · rw [List.getElem?_map, Option.map_eq_some_iff] at hd
    obtain ⟨⟨k, d1⟩, hz, e⟩ := hd
    subst e
    obtain ⟨v1, g1, w1⟩ := r.at_ hz
    refine ⟨⟨q, (List.getElem?_eq_some_iff.mp g1).1⟩, fun v H'' ⟨T, k2, v2, g2, ev, hT, eH⟩ => ?_⟩
    subst ev eH
    have e1 := g2.symm.trans g1
    cases e1
    have nf : F' T = none := s2.free hT
    refine ⟨upd F' T (.tup [kV k, v1]), .tup upd_same (.cons (rp_key k) (.cons (w1.mono (s1.trans (same_new nf))) .nil)), same_new nf, same_new hT, same_upd2 s2, fun c hc => ?_⟩
    by_cases z : c = T
    · subst z; exact .inr hT
    · rw [upd_ne z] at hc; exact .inl hc
  · rw [List.getElem?_eq_none_iff, List.length_map] at hn
    exact ⟨q, by omega⟩
def itemsR (r : R) (e1 : Env) (k : List D → Prop) : Prop := match r with
  | .bor a i p => match getP i p e1 with
    | some (.fdc a' kvs) => a' = a ∧ k (kvs.map fun p => PyData.tuple [kD p.1, p.2])
    | _ => False
  | _ => False
theorem wi_items {P : List D → Env → Prop} {e : Expr} {apos cpos tpos : Pos} {elts : List Expr} {kk : Nat} (h : WE Z X e env fun r e1 => itemsR r e1 fun xs => P xs e1)
    (hbase : attributeBase e "items" X.env (eval e X.env) = eval e X.env := by rfl) (hline : (apos.endLine == cpos.line) = true := by rfl) :
    WI Z X (.Tuple elts kk tpos) (.Call (.Attribute e "items" apos) [] [] cpos) env P :=
  wi_of (pi_items (pe_E (Z := Z)) hbase hline) fun σ H F O b0 o0 => ⟨env, F, O, _, b0, o0, h, fun x H1 ⟨F1, O1, r, e1, b1, st, fr, q⟩ => by
    unfold itemsR at q
    cases r with
    | t t => exact q.elim
    | bor a i p =>
      simp only at q
      obtain ⟨o1, ex⟩ := st
      subst ex
      cases hg : getP i p e1 with
      | none => rw [hg] at q; exact q.elim
      | some u =>
        rw [hg] at q
        obtain ⟨w, ⟨Oj, O', h1, _, _⟩, _⟩ := o1.focus hg
        cases h1 with
        | fdc hf rt =>
          obtain ⟨rfl, q⟩ := q
          exact ⟨_, _, _, rfl, b1.sub _ _ hf, F1, O1, _, e1, b1, o1, fr, gives_items hf rt, q⟩
        | _ => exact q.elim⟩
end
end QL

/-! QTd: a dict comprehension whose dict is locked for good. -/
namespace QL
open PySem PySem.Spec PyProof.Rows L2
/-- as a value that is locked from now on -/
def tDcL (wi : TI) (g : TG) (tt : TT) (tk tv : TE) (vs : List Nat) : TE := fun σ H Q => tDc wi g tt tk tv vs σ H fun v H1 => ∃ D kvs, v = .ref D ∧ H1 D = some (.dK kvs) ∧ ∀ od, Q v (upd H1 D (.frz od (.dK kvs)))
theorem RpT.app {F : Hp} {k : Key} {v : V} {d : D} : ∀ {vs : List (Key × V)} {ds : List (Key × D)}, RpT F vs ds → Rp F v d → RpT F (vs ++ [(k, v)]) (ds ++ [(k, d)])
  | _, _, .nil, r => .cons r .nil
  | _, _, .cons r1 r2, r => .cons r1 (r2.app r)
theorem RpT.put {F : Hp} {k : Key} {v : V} {d : D} {vs : List (Key × V)} {ds : List (Key × D)} (r : RpT F vs ds) (q : Rp F v d) (h : ∀ p ∈ ds, p.1 ≠ k) : RpT F (putK vs k v) (ds ++ [(k, d)]) := by
  have e : (vs.any fun kv => decide (kv.1 = k)) = false := by
    induction r with
    | nil => rfl
    | cons r1 r2 ih =>
      rw [List.any_cons, ih fun p hp => h p (List.mem_cons_of_mem _ hp), decide_eq_false (h _ List.mem_cons_self)]
      rfl
  unfold putK
  rw [e, if_neg (by decide)]
  exact r.app q
section
variable {Tq : List (Addr × Str)} {Z : Zb Tq} {X : Cx} {env : Env} {PR : R → Env → Prop} {tg iter kx vx c : Expr} {pos : Pos}
/-- one turn's entry -/
def ElD {Tq : List (Addr × Str)} (Z : Zb Tq) (X : Cx) (scope : Scope) (kx vx : Expr) (vs : List Nat) (I : List (Key × D) → Env → Prop) (acc : List (Key × D)) (e2 : Env) : Prop :=
  Blk X scope fun X' => WA Z X' kx e2 fun a3 e3 => ∃ k : Key, a3 = .va (kD k) ∧ Blk X scope fun X' => WA Z X' vx e3 fun a4 e4 => ∃ y, a4 = .va y ∧ acc.length < sizeLine ∧ (∀ p ∈ acc, p.1 ≠ k) ∧ I (acc ++ [(k, y)]) (wipeE e4 vs)
structure DcI {Tq : List (Addr × Str)} (Z : Zb Tq) (X : Cx) (scope : Scope) (f : TF) (kx vx : Expr) (vs : List Nat) (T : Env → (Bool → Env → Prop) → Prop) (P : R → Env → Prop) (ds : List D) (e1 : Env) : Prop where
  ex : ∃ I : Nat → List (Key × D) → Env → Prop, I 0 [] (wipeE e1 vs) ∧ (∀ k d acc e, ds[k]? = some d → I k acc e → f d e fun e' => T e' fun bb e2 => (bb = true → ElD Z X scope kx vx vs (I (k + 1)) acc e2) ∧ (bb = false → I (k + 1) acc (wipeE e2 vs))) ∧
    ∀ acc e, I ds.length acc e → ∀ p, P (.t (.fdc p acc)) e
theorem dc_read {g : TG} {f : TF} {ix : List Nat} {scope : Scope} {vs : List Nat} {tt : TT} {T : Env → (Bool → Env → Prop) → Prop} (gk : GOk Z g f ix) (hix : ∀ i ∈ ix, i ∈ vs)
    (tk : ∀ σ H F O env k (Q : Bool → Hp → Prop), Bas Z F H O → OwE F H O σ env → T env k → (∀ bb H' F' O' e', Bas Z F' H' O' → OwE F' H' O' σ e' → Frm Tq H F O H' F' O' → k bb e' → Q bb H') → tt σ H Q)
    {σ0 : L2.St} {H0 F0 : Hp} {O0 : List Addr} (b0 : Bas Z F0 H0 O0) (o0 : OwE F0 H0 O0 σ0 env) (h : WI Z X tg iter env (DcI Z X scope f kx vx vs T PR)) :
    tDcL (tI Z X tg iter) g tt (tAB Z X scope kx) (tAB Z X scope vx) vs σ0 H0 (Post Z σ0 H0 F0 O0 PR) := by
  refine ⟨env, F0, O0, _, b0, o0, h, fun J H1 F1 O1 ds e1 b1 o1 fr1 gv ⟨I, i0, step, done⟩ D hD => ?_⟩
  have fD : F1 D = none := b1.sub.free hD
  refine ⟨fun i m H => m = ds.length - i ∧ i ≤ ds.length ∧ ∃ F O e e0 acc accV, Bas Z F H (O ++ [D]) ∧ OwE F H O (wipe σ0 vs) e ∧ e = wipeE e0 vs ∧ H D = some (.dK accV) ∧ RpT F accV acc ∧ Frm Tq H1 F1 O1 H F (O ++ [D]) ∧ I i acc e, ⟨_, rfl, Nat.zero_le _, ?_⟩, ?_⟩
  · -- the start
    obtain ⟨O2, Od, h2, h3⟩ := o1.wipeO vs
    have hn : ∀ a ∈ O1, a ≠ D := fun a ha z => by subst z; exact o1.there a ha hD
    have fr : Frm Tq H1 F1 O1 (upd H1 D (.dK [])) F1 (O2 ++ [D]) := ⟨Same.refl _, fun a o e _ _ => same_new hD a o e, fun a e => by
      by_cases z : a = D
      · subst z; rw [upd_same]; exact fun z => nomatch z
      · rw [upd_ne z]; exact e, fun a e => .inl e, fun a ha => (List.mem_append.mp ha).elim (fun z => .inl (h3.mem_iff.mpr (List.mem_append_left _ z))) fun z => .inr (by rw [List.mem_singleton.mp z]; exact hD), tab_new hD⟩
    have b2 := (b1.dropP h3).1
    refine ⟨F1, O2, wipeE e1 vs, e1, [], [], ⟨b1.sub.trans (same_new hD), List.nodup_append.mpr ⟨b2.nd, List.nodup_cons.mpr ⟨fun z => (nomatch z), List.nodup_nil⟩, fun a ha c hc z => ?_⟩, fun a ha => ?_, b1.abs.trans fr⟩, ?_, rfl, upd_same, .nil, fr, i0⟩
    · rw [List.mem_singleton.mp hc] at z
      exact hn a (h3.mem_iff.mpr (List.mem_append_left _ ha)) z
    · rcases List.mem_append.mp ha with ha | ha
      · exact b2.dis a ha
      · rw [List.mem_singleton.mp ha]; exact fD
    · have o3 : OwE F1 (upd H1 D (.dK [])) O2 σ0 (wipeE e1 vs) := h2.stay (Same.refl _) fun a ha => upd_ne (hn a (h3.mem_iff.mpr (List.mem_append_left _ ha)))
      exact o3.wiped wipe_wipe
  · rintro i m H ⟨rfl, hi, F, O, e, e0, acc, accV, b, o, he0, hDl, rA, fr, hI⟩
    obtain ⟨g1, g2⟩ := gv F H fr.fz b.sub i
    by_cases hlt : i < ds.length
    · obtain ⟨go, yl⟩ := g1 ds[i] (List.getElem?_eq_getElem hlt)
      refine .inr ⟨go, fun H' => ∃ F O e e0 acc accV, Bas Z F H' (O ++ [D]) ∧ OwE F H' O (wipe σ0 vs) e ∧ e = wipeE e0 vs ∧ H' D = some (.dK accV) ∧ RpT F accV acc ∧ Frm Tq H1 F1 O1 H' F (O ++ [D]) ∧ I (i + 1) acc e, fun H' q => ⟨ds.length - (i + 1), by omega, rfl, hlt, q⟩, fun x H' y => ?_⟩
      obtain ⟨F', rx, s1, s2, s3, nf⟩ := yl x H' y
      have dD : ∀ a ∈ [D], Held H a := fun a ha => by rw [List.mem_singleton.mp ha]; exact ⟨_, hDl, fun _ z => nomatch z⟩
      have bL := b.left
      obtain ⟨b2, o2, fr2⟩ := bL.grow o s1 s2 s3 nf
      have b2D : Bas Z F' H' (O ++ [D]) := Bas.frame fr2 b b2 dD
      refine gk x _ (wipe σ0 vs) H' F' O e _ _ b2 o2 rx (step i _ acc e (List.getElem?_eq_getElem hlt) hI) fun σ3 O3 e3 b3 o3 s3' w3 h3 => ?_
      have hw : wipe σ3 vs = wipe (wipe σ0 vs) vs := w3 vs hix
      rw [wipe_wipe] at hw
      refine ⟨hw, ?_⟩
      have hD3 : H' D = some (.dK accV) := s2 _ _ hDl
      have dD3 : ∀ a ∈ [D], Held H' a := fun a ha => by rw [List.mem_singleton.mp ha]; exact ⟨_, hD3, fun _ z => nomatch z⟩
      have fr23 : Frm Tq H F O H' F' O3 := fr2.perm (fun _ => Iff.rfl) s3'
      have b3D : Bas Z F' H' (O3 ++ [D]) := Bas.frame fr23 b b3 dD
      have frD : Frm Tq H1 F1 O1 H' F' (O3 ++ [D]) := fr.trans fr23.frame
      refine tk σ3 H' F' O3 e3 _ _ b3 o3 h3 fun bb H4 F4 O4 e4 b4 o4 fr4 h4 => ?_
      have hD4 : H4 D = some (.dK accV) := fr4.out D _ hD3 (fun _ z => nomatch z) fun z => (List.nodup_append.mp b3D.nd).2.2 D z D (List.mem_singleton.mpr rfl) rfl
      have b4D : Bas Z F4 H4 (O4 ++ [D]) := Bas.frame fr4 b3D b4 dD3
      have frD4 : Frm Tq H1 F1 O1 H4 F4 (O4 ++ [D]) := frD.trans fr4.frame
      have dD4 : ∀ a ∈ [D], Held H4 a := fun a ha => by rw [List.mem_singleton.mp ha]; exact ⟨_, hD4, fun _ z => nomatch z⟩
      -- a turn's end
      have fin : ∀ {H5 F5 : Hp} {O5 : List Addr} {e5 : Env} {acc5 : List (Key × PyData)} {accV5 : List (Key × V)}, Bas Z F5 H5 (O5 ++ [D]) → OwE F5 H5 O5 σ3 e5 → H5 D = some (.dK accV5) → RpT F5 accV5 acc5 → Frm Tq H1 F1 O1 H5 F5 (O5 ++ [D]) → I (i + 1) acc5 (wipeE e5 vs) →
          ∃ F O e e0 acc accV, Bas Z F H5 (O ++ [D]) ∧ OwE F H5 O (wipe σ0 vs) e ∧ e = wipeE e0 vs ∧ H5 D = some (.dK accV) ∧ RpT F accV acc ∧ Frm Tq H1 F1 O1 H5 F (O ++ [D]) ∧ I (i + 1) acc e := fun {H5 F5 O5 e5 acc5 accV5} b5 o5 hD5 r5 fr5 hI5 => by
        obtain ⟨O6, Od6, h6, p6⟩ := o5.wipeO vs
        have p6' : (O5 ++ [D]).Perm ((O6 ++ [D]) ++ Od6) := (p6.append_right [D]).trans (by
          rw [List.append_assoc, List.append_assoc]
          exact List.perm_append_comm.append_left O6)
        refine ⟨F5, O6, wipeE e5 vs, e5, acc5, accV5, (b5.perm p6').left, h6.wiped ?_, rfl, hD5, r5, fr5.perm (fun _ => Iff.rfl) fun c hc => p6'.mem_iff.mpr (List.mem_append_left _ hc), hI5⟩
        rw [wipe_wipe]
        exact hw.symm
      cases bb with
      | false => exact iteF (fin b4D o4 hD4 (rA.mono (s1.trans fr4.fz)) frD4 (h4.2 rfl))
      | true =>
        refine iteT ⟨e4, F4, O4, _, b4, o4, h4.1 rfl, fun yk H5 ⟨F5, O5, a5, e5, b5, o5, st5, fr5, k, ea5, p5⟩ => ?_⟩
        subst ea5
        have eyk : yk = kV k := Rp.key st5
        have hD5 : H5 D = some (.dK accV) := fr5.out D _ hD4 (fun _ z => nomatch z) fun z => (List.nodup_append.mp b4D.nd).2.2 D z D (List.mem_singleton.mpr rfl) rfl
        have b5D : Bas Z F5 H5 (O5 ++ [D]) := Bas.frame fr5 b4D b5 dD4
        have frD5 : Frm Tq H1 F1 O1 H5 F5 (O5 ++ [D]) := frD4.trans fr5.frame
        have dD5 : ∀ a ∈ [D], Held H5 a := fun a ha => by rw [List.mem_singleton.mp ha]; exact ⟨_, hD5, fun _ z => nomatch z⟩
        refine ⟨e5, F5, O5, _, b5, o5, p5, fun y H6 ⟨F6, O6, a6, e6, b6, o6, st6, fr6, d6, ea6, hz, hk, q7⟩ => ?_⟩
        subst ea6
        have r7 : Rp F6 y d6 := st6
        have hD6 : H6 D = some (.dK accV) := fr6.out D _ hD5 (fun _ z => nomatch z) fun z => (List.nodup_append.mp b5D.nd).2.2 D z D (List.mem_singleton.mpr rfl) rfl
        have b6D : Bas Z F6 H6 (O6 ++ [D]) := Bas.frame fr6 b5D b6 dD5
        have frD6 : Frm Tq H1 F1 O1 H6 F6 (O6 ++ [D]) := frD5.trans fr6.frame
        have nD : ∀ a ∈ O6, a ≠ D := fun a ha z => (List.nodup_append.mp b6D.nd).2.2 a ha D (List.mem_singleton.mpr rfl) z
        have fD6 : F6 D = none := b6D.dis D (List.mem_append_right _ (List.mem_singleton.mpr rfl))
        have rA6 : RpT F6 accV acc := rA.mono (s1.trans (fr4.fz.trans (fr5.fz.trans fr6.fz)))
        refine ⟨accV, k, eyk, hD6, by rw [rA6.len]; exact hz, ?_⟩
        have hs : Same F6 (upd H6 D (.dK (putK accV k y))) := fun a x ha => by
          have z : a ≠ D := fun z => by subst z; rw [fD6] at ha; cases ha
          rw [upd_ne z]; exact b6D.sub a x ha
        have fr7 : Frm Tq H6 F6 (O6 ++ [D]) (upd H6 D (.dK (putK accV k y))) F6 (O6 ++ [D]) := ⟨Same.refl _, fun a x ha _ hn => by
          rw [upd_ne fun z => hn (by rw [z]; exact List.mem_append_right _ (List.mem_singleton.mpr rfl))]; exact ha, fun a ha => by
          by_cases z : a = D
          · subst z; rw [upd_same]; exact fun z => nomatch z
          · rw [upd_ne z]; exact ha, fun a ha => .inl ha, fun a ha => .inl ha, tab_own hD6⟩
        exact fin ⟨hs, b6D.nd, b6D.dis, b6D.abs.trans fr7⟩ (o6.stay (Same.refl _) fun a ha => upd_ne (nD a ha)) upd_same (rA6.put r7 hk) (frD6.trans fr7) q7
    · have e' : i = ds.length := by omega
      subst e'
      refine .inl ⟨g2 (List.getElem?_eq_none (Nat.le_refl _)), D, accV, rfl, hDl, fun od => ?_⟩
      have nD : ∀ a ∈ O, a ≠ D := fun a ha z => (List.nodup_append.mp b.nd).2.2 a ha D (List.mem_singleton.mpr rfl) z
      have fDn : F D = none := b.dis D (List.mem_append_right _ (List.mem_singleton.mpr rfl))
      have sF : Same F (upd F D (.frz od (.dK accV))) := same_new fDn
      have sub' : Same (upd F D (.frz od (.dK accV))) (upd H D (.frz od (.dK accV))) := fun a x ha => by
        by_cases z : a = D
        · subst z; rw [upd_same] at ha ⊢; exact ha
        · rw [upd_ne z] at ha ⊢; exact b.sub a x ha
      have frL : Frm Tq H F (O ++ [D]) (upd H D (.frz od (.dK accV))) (upd F D (.frz od (.dK accV))) O := ⟨sF, fun a x ha _ hn => by
        rw [upd_ne fun z => hn (by rw [z]; exact List.mem_append_right _ (List.mem_singleton.mpr rfl))]; exact ha, fun a ha => by
        by_cases z : a = D
        · subst z; rw [upd_same]; exact fun z => nomatch z
        · rw [upd_ne z]; exact ha, fun a ha => by
        by_cases z : a = D
        · subst z; exact .inr (.inr (List.mem_append_right _ (List.mem_singleton.mpr rfl)))
        · rw [upd_ne z] at ha; exact .inl ha, fun a ha => .inl (List.mem_append_left _ ha), tab_own hDl⟩
      have bN : Bas Z (upd F D (.frz od (.dK accV))) (upd H D (.frz od (.dK accV))) O := ⟨sub', (List.nodup_append.mp b.nd).1, fun a ha => by rw [upd_ne (nD a ha)]; exact b.dis a (List.mem_append_left _ ha), b.abs.trans frL⟩
      have oN : OwE (upd F D (.frz od (.dK accV))) (upd H D (.frz od (.dK accV))) O (wipe σ0 vs) e := o.stay sF fun a ha => upd_ne (nD a ha)
      refine ⟨upd F D (.frz od (.dK accV)), O, .t (.fdc D acc), e, bN, ⟨O, [], (List.append_nil O).symm, ?_, .fdc upd_same (rA.mono sF)⟩, fr1.trans (fr.trans frL), done acc e hI D⟩
      subst he0
      exact oN.wiped wipe_wipe.symm
theorem pe_dcL {wi : TI} {g : TG} {tt : TT} {tk tv : TE} {vs : List Nat} {e : Expr} (h : PE X e (tDc wi g tt tk tv vs)) : PE X e (tDcL wi g tt tk tv vs) :=
  ⟨fun pins s σ H Q I hq => thn (h.run pins s σ H (fun v H1 => ∃ D kvs, v = .ref D ∧ H1 D = some (.dK kvs) ∧ ∀ od, Q v (upd H1 D (.frz od (.dK kvs)))) I hq) fun v s1 ⟨x, H1, I1, r, q⟩ => by
    obtain ⟨D, kvs, ex, hD, q⟩ := q
    obtain ⟨od, I2⟩ := I1.lock hD trivial
    exact ⟨x, _, I2, r, q od⟩⟩
theorem w_dc {g : TG} {f : TF} {ix : List Nat} {scope : Scope} {own : List (Str × Nat)} (hc : X.calm = true) (hN : X.N.Nodup) (ok : BlkOk X.N X.env.scope scope own) (hg : Blk X scope fun X' => PG X' tg g) (gk : GOk Z g f ix) (hix : ∀ i ∈ ix, i ∈ own.map (·.2))
    (h : WI Z X tg iter env (DcI Z X scope f kx vx (own.map (·.2)) (fun e k => k true e) PR)) (hs : ∀ x, foldedSetIterable iter X.env x = pure x := by intro _; rfl) : WE Z X (.DictComp kx vx [⟨tg, iter, [], 0⟩] scope pos) env PR :=
  we_of (pe_dcL (pe_dc (own := own) hc hN (pi_I (Z := Z)) ok hg (fun _ _ _ _ _ => pts_nil) (pe_AB (Z := Z)) (pe_AB (Z := Z)) hs)) fun σ H F O b o => dc_read gk hix (fun σ H F O env k Q b o t q => q true H F O env b o (Frm.refl _ _ _) t) b o h
theorem w_dcIf {g : TG} {f : TF} {ix : List Nat} {scope : Scope} {own : List (Str × Nat)} (hc : X.calm = true) (hN : X.N.Nodup) (ok : BlkOk X.N X.env.scope scope own) (hg : Blk X scope fun X' => PG X' tg g) (gk : GOk Z g f ix) (hix : ∀ i ∈ ix, i ∈ own.map (·.2))
    (h : WI Z X tg iter env (DcI Z X scope f kx vx (own.map (·.2)) (fun e k => Blk X scope fun X' => WT Z X' c e k) PR)) (hs : ∀ x, foldedSetIterable iter X.env x = pure x := by intro _; rfl) : WE Z X (.DictComp kx vx [⟨tg, iter, [c], 0⟩] scope pos) env PR :=
  we_of (pe_dcL (pe_dc (own := own) hc hN (pi_I (Z := Z)) ok hg (fun s H C cl fp => pts_one (pt_TB (Z := Z) s H C cl fp)) (pe_AB (Z := Z)) (pe_AB (Z := Z)) hs)) fun σ H F O b o =>
    dc_read gk hix (fun σ H F O env k Q b o t q => ⟨env, F, O, k, b, o, t, fun v H' ⟨F1, O1, e1, b1, o1, fr1, p⟩ => q v H' F1 O1 e1 b1 o1 fr1 p⟩) b o h
end
end QL

/-! QTe: dict comprehensions by a filter and two functions. -/
namespace QL
open PySem PySem.Spec PyProof.Rows L2
section
variable {Tq : List (Addr × Str)} {Z : Zb Tq} {X : Cx} {env : Env} {P : R → Env → Prop} {tg iter kx vx c : Expr} {pos : Pos}
theorem toA_mono {r : R} {k k' : A → Prop} (h : toA r k) (m : ∀ a, k a → k' a) : toA r k' := by
  cases r with
  | bor a i p => exact m _ h
  | t t =>
    unfold toA at h ⊢
    simp only at h ⊢
    split at h
    · exact m _ h
    · exact h.elim
theorem fm_tup3 {i j l : Nat} : FMo (fTup 3 (fCons (fName i) (fCons (fName j) (fCons (fName l) fNil)))) := fm_tup (fm_cons fm_name (fm_cons fm_name (fm_cons fm_name fm_nil)))
theorem dc_filt {scope : Scope} {f : TF} (fm : FMo f) {vs : List Nat} {ds : List D} {e1 : Env} {α : Type} (enc : α → D) (xs : List α) (t : α → Bool) (gk : α → Key) (gv : α → D) (env0 : Env) (h0 : wipeE e1 vs = env0) (hd : ds = xs.map enc) (hl : xs.length < sizeLine) (nd : (xs.map gk).Nodup)
    (step : ∀ (k : Nat) x, xs[k]? = some x → f (enc x) env0 fun e' => Blk X scope fun X' => WT Z X' c e' fun bb e2 => bb = t x ∧ (t x = true → Blk X scope fun X' => WA Z X' kx e2 fun a3 e3 => a3 = .va (kD (gk x)) ∧ Blk X scope fun X' => WA Z X' vx e3 fun a4 e4 => a4 = .va (gv x) ∧ wipeE e4 vs = env0) ∧ (t x = false → wipeE e2 vs = env0))
    (fin : ∀ p, P (.t (.fdc p ((xs.filter t).map fun x => (gk x, gv x)))) env0) : DcI Z X scope f kx vx vs (fun e k => Blk X scope fun X' => WT Z X' c e k) P ds e1 := by
  subst hd
  refine ⟨fun k acc e => e = env0 ∧ acc = ((xs.take k).filter t).map fun x => (gk x, gv x), ⟨h0, rfl⟩, ?_, ?_⟩
  · rintro k d acc e hk ⟨rfl, rfl⟩
    rw [List.getElem?_map, Option.map_eq_some_iff] at hk
    obtain ⟨x, hx, rfl⟩ := hk
    have q := step k x hx
    have tk : xs.take (k + 1) = xs.take k ++ [x] := by rw [List.take_add_one, hx]; rfl
    refine fm.mo q fun e' w s H C cl fp => ?_
    refine WT.imp (w s H C cl fp) fun bb e2 ⟨hb, hT, hF⟩ => ?_
    subst hb
    refine ⟨fun ht s2 H2 C2 cl2 fp2 => ?_, fun hf => ⟨hF hf, ?_⟩⟩
    · refine WE.imp (hT ht s2 H2 C2 cl2 fp2) fun r e3 hr => ?_
      have key : ∀ {a : A} {e3 : Env}, (a = .va (kD (gk x)) ∧ Blk X scope fun X' => WA Z X' vx e3 fun a4 e4 => a4 = .va (gv x) ∧ wipeE e4 vs = e) → ∃ kk : Key, a = .va (kD kk) ∧ Blk X scope fun X' => WA Z X' vx e3 fun a4 e4 => ∃ y, a4 = .va y ∧ (((xs.take k).filter t).map fun x => (gk x, gv x)).length < sizeLine ∧ (∀ p ∈ (((xs.take k).filter t).map fun x => (gk x, gv x)), p.1 ≠ kk) ∧ (wipeE e4 vs = e ∧ (((xs.take k).filter t).map fun x => (gk x, gv x)) ++ [(kk, y)] = ((xs.take (k + 1)).filter t).map fun x => (gk x, gv x)) := fun {a e3} ⟨h1, h2⟩ => by
        refine ⟨gk x, h1, fun s4 H4 C4 cl4 fp4 => ?_⟩
        refine WE.imp (h2 s4 H4 C4 cl4 fp4) fun r e5 hr => ?_
        have val : ∀ {a : A} {e5 : Env}, (a = .va (gv x) ∧ wipeE e5 vs = e) → ∃ y, a = .va y ∧ (((xs.take k).filter t).map fun x => (gk x, gv x)).length < sizeLine ∧ (∀ p ∈ (((xs.take k).filter t).map fun x => (gk x, gv x)), p.1 ≠ gk x) ∧ (wipeE e5 vs = e ∧ (((xs.take k).filter t).map fun x => (gk x, gv x)) ++ [(gk x, y)] = ((xs.take (k + 1)).filter t).map fun x => (gk x, gv x)) := fun {a e5} ⟨g1, g2⟩ => by
          refine ⟨gv x, g1, ?_, fun p hp => ?_, g2, ?_⟩
          · rw [List.length_map]
            have := List.length_filter_le t (xs.take k)
            rw [List.length_take] at this
            omega
          · obtain ⟨y, hy, rfl⟩ := List.mem_map.mp hp
            have hy := (List.mem_filter.mp hy).1
            intro e9
            have hn : ((xs.take (k + 1)).map gk).Nodup := List.Sublist.nodup ((List.take_sublist _ _).map gk) nd
            rw [tk, List.map_append, List.nodup_append] at hn
            exact hn.2.2 (gk y) (List.mem_map.mpr ⟨y, hy, rfl⟩) (gk x) (by simp) e9
          · rw [tk, List.filter_append, List.map_append]
            simp [ht]
        exact toA_mono hr fun a h => val h
      exact toA_mono hr fun a h => key h
    · rw [tk, List.filter_append]
      simp [hf]
  · rintro acc e ⟨rfl, rfl⟩ p
    rw [List.length_map, List.take_length]
    exact fin p
end
end QL

/-! QTs: sorted(a set of ints), the set a comprehension. -/
namespace QL
open PySem PySem.Spec PyProof.Rows L2
/-! ### a set comprehension of ints, over the kit's turn of its loop -/
section
variable {X : Cx}
/-- what a turn adds: the int c to the set at D -/
def addsI (w : World) (D : Addr) (y : V) (H : Hp) (Nx : Hp → Prop) : Prop := ∃ (c : Int) (S : Int → Bool) (n : Nat), y = .int c ∧ H D = some (SetO w D S n) ∧ n + 1 < scanBound ∧ Nx (upd H D (SetO w D (fun j => S j || decide (j = c)) (if S c = true then n else n + 1)))
def tScI (w : World) (wi : TI) (g : TG) (te : TE) (vs : List Nat) : TE := fun σ H Q => wi σ H fun J H1 => ∀ D, H1 D = none → ∃ W : Nat → Nat → Hp → Prop, (∃ m, W 0 m (upd H1 D (SetO w D (fun _ => false) 0))) ∧ ∀ i m H, W i m H →
  (J.stop i H ∧ Q (.ref D) H) ∨ (J.go i H ∧ ∃ Nx : Hp → Prop, (∀ H', Nx H' → ∃ m', m' < m ∧ W (i + 1) m' H') ∧ ∀ x H', J.yld i H x H' → g x (wipe σ vs) H' fun σ2 H2 => wipe σ2 vs = wipe σ vs ∧ te σ2 H2 fun y H4 => addsI w D y H4 Nx)
/-- a set is no code object -/
theorem setO_code {w : World} {D : Addr} {S : Int → Bool} {n : Nat} {q : Str} : SetO w D S n ≠ LamX.CodeO D q := fun z => by
  unfold SetO LamX.CodeO at z
  have e := HO.ext.inj z
  let o : Obj := { cls := .none, data := .fields #[.none, .str q default] }
  let h : Heap := { objs := (Array.replicate D o).push o }
  have hg : h.get? D = some o := by
    unfold Heap.get?
    have : h.objs[D]? = some o := by
      show ((Array.replicate D o).push o)[D]? = some o
      rw [Array.getElem?_push, Array.size_replicate, if_pos rfl]
    rw [this]
  have c : ∃ (oc : Obj) (vs : Array Value) (t : Tok), h.get? D = some oc ∧ oc.data = .fields vs ∧ vs[1]? = some (.str q t) := ⟨o, _, default, hg, rfl, rfl⟩
  have e2 := congrFun e h
  obtain ⟨o', es, ep, t, h1, _, h3, _⟩ := e2.mpr c
  rw [hg] at h1
  cases h1
  cases h3

theorem adds_ok {pins : List (Addr × Obj)} {σ : L2.St} {H : Hp} {s : Shared} {E : Value → Shared → Prop} {D : Addr} {y : V} {v : Value} {Nx : Hp → Prop} {Q : Value → Shared → Prop} (I : Inv X pins σ H s) (r : L2.RelV y v) (h : addsI X.w D y H Nx)
    (q : ∀ s' H', Inv X pins σ H' s' → Nx H' → Q .none s') : wpAny (model X.prog X.w) X.A (call (.builtin "set.add") [.ref D, v]) Q E s := by
  obtain ⟨c, S, n, rfl, hD, room, nx⟩ := h
  obtain ⟨tk, rfl⟩ := r
  refine setR_add (setO_get I hD) room fun h' sb new => ?_
  have ⟨o, _, _, _, ho, _⟩ := new
  exact q _ _ (I.write (e := D) (t' := s.toks + 1) (by rw [hD]; trivial) (.inl rfl) (fun b u hb hu => (sb.2 b hb).trans hu) ⟨o, ho⟩ (setO_new new)) nx
theorem pe_scI {elt tg iter : Expr} {scope : Scope} {own : List (Str × Nat)} {pos : Pos} {wi : TI} {g : TG} {te : TE} (hc : X.calm = true) (hN : X.N.Nodup) (hi : PI X tg iter wi) (ok : BlkOk X.N X.env.scope scope own)
    (hg : Blk X scope fun X' => PG X' tg g) (he : Blk X scope fun X' => PE X' elt te) (hs : ∀ x, foldedSetIterable iter X.env x = pure x := by intro _; rfl) : PE X (.SetComp elt [⟨tg, iter, [], 0⟩] scope pos) (tScI X.w wi g te (own.map (·.2))) := by
  refine ⟨fun pins s σ H Q I h => ?_⟩
  rw [PpSet.eval_SetComp]
  have hfree : ∀ y ∈ scope.names, y.2 = .free → ∃ c, X.env.cells.lookup y.1 = some c := fun y hy e => by
    rcases ok.free y hy e with k | k
    · exact I.ok.has _ (.inl k)
    · exact I.ok.has _ (.inr k)
  refine wpAny_comprehension_free rfl hs (closure_ok hfree) ok.kind (fun y hy e => by rw [ok.uniq y hy, e]) (thn (hi.run pins s σ H _ I h) fun xv s1 hx => thn hx fun itv s2 h2 => ?_)
  obtain ⟨it, fp, tn, J, H2, e, I2, T, st2, f2, q⟩ := h2
  subst e
  refine PpSet.newSet_ok (newEnv_comp ?_)
  generalize hD : s2.heap.objs.size = D
  obtain ⟨W, ⟨m0, w0⟩, turn⟩ := q D (I2.hok.fresh (Nat.le_of_eq hD))
  generalize hob : ({ cls := .type "set", dict := none, data := .set #[] 0 (.fresh 0 0 (!X.w.params.followText "set-order")) } : Obj) = ob
  generalize hs3 : ({ s2 with heap := s2.heap.push ob } : Shared) = s3
  have I3 : Inv X pins σ (upd H2 D (SetO X.w D (fun _ => false) 0)) s3 := by
    rw [← hs3]
    refine I2.laid (t' := s2.toks) (fun b o e => Heap.get?_push_of_some _ e) (Nat.le_of_eq hD) ?_
    rw [← hD, ← hob]
    exact setO_new (setR_fresh X.w)
  have h3 : s3.heap = s2.heap.push ob := by rw [← hs3]
  have sz : ∀ b ∈ fp, b < s2.heap.objs.size := fun b hb => by
    obtain ⟨o, e, _⟩ := T.obj _ _ st2 b hb
    exact Heap.lt_size e
  have f3 : ∀ b ∈ fp, FpOk X pins (upd H2 D (SetO X.w D (fun _ => false) 0)) b ∧ b < s3.heap.objs.size := fun b hb => by
    have hlt := sz b hb
    refine ⟨⟨?_, (f2 b hb).2⟩, by rw [h3, Heap.size_push]; exact Nat.lt_succ_of_lt hlt⟩
    rw [upd_ne (by rw [← hD]; exact Nat.ne_of_lt hlt)]
    exact (f2 b hb).1
  have st3 : tn 0 s3.heap := T.keep _ _ _ st2 fun b _ o e => by rw [h3]; exact Heap.get?_push_of_some _ e
  generalize hHD : upd H2 D (SetO X.w D (fun _ => false) 0) = H3 at I3 w0 f3
  have I4 := block_start I3 ok hN f3
  have pg := hg s3 H3 s3.heap.objs.size (cellsFrom (s3.heap.objs.size + 1) scope.names (cloFrom X.env.cells scope.names [])) fp
  have pe := he s3 H3 s3.heap.objs.size (cellsFrom (s3.heap.objs.size + 1) scope.names (cloFrom X.env.cells scope.names [])) fp
  show codeAny _ _ (.compStart (.SetComp elt [⟨tg, iter, [], 0⟩] scope pos) 0 (.ref it) (.ref D) (compEnvC scope (cellsFrom (s3.heap.objs.size + 1) scope.names (cloFrom X.env.cells scope.names [])) s3.heap.objs.size X.env)) (compPost (model X.prog X.w) X.A X.xe none (EP X pins σ Q) (.ref D) s3.heap.objs.size) { s3 with heap := pushCells (s3.heap.push { cls := .type "dict", data := .dict #[] }) scope.names }
  have nfp : ∀ b ∈ fp, H3 b = none := fun b hb => (f3 b hb).1.1
  generalize hce : compEnvC scope (cellsFrom (s3.heap.objs.size + 1) scope.names (cloFrom X.env.cells scope.names [])) s3.heap.objs.size X.env = ce at I4 pg pe ⊢
  have cL : ce.locals = s3.heap.objs.size := by subst hce; rfl
  generalize hs4 : ({ s3 with heap := pushCells (s3.heap.push { cls := .type "dict", data := .dict #[] }) scope.names } : Shared) = s4 at I4 ⊢
  have st4 : tn 0 s4.heap := T.keep _ _ _ st3 fun b _ o e => by rw [← hs4]; exact pushCells_keeps _ _ _ _ (Heap.get?_push_of_some _ e)
  have stat : ∀ {σ' : L2.St} {H' : Hp} {s' : Shared}, Inv (X.blk s3 H3 scope ce fp) [] σ' H' s' → (∀ b ∈ fp, H' b = none) → ∀ b ∈ fp, FpOk (X.blk s3 H3 scope ce fp) [] H' b := fun {σ' H' s'} I' hn b hb =>
    ⟨hn b hb, (I'.ok.exf b hb).1, I'.ok.exfs b hb, .inl hb, fun x c e => (I'.ok.exf b hb).2 x c e, fun p hp => absurd (show p ∈ ([] : List (Addr × Obj)) ++ [] from hp) (by simp)⟩
  have loop : codeAny (model X.prog X.w) X.A (.compLoop (.SetComp elt [⟨tg, iter, [], 0⟩] scope pos) 0 (.ref it) (.ref D) ce) (compPost (model X.prog X.w) X.A X.xe none (EP X pins σ Q) (.ref D) s3.heap.objs.size) s4 := by
    refine PpSet.compLoopS_any (fun n s' => ∃ i H', Inv (X.blk s3 H3 scope ce fp) [] (wipe σ (own.map (·.2))) H' s' ∧ tn i s'.heap ∧ (∀ b ∈ fp, H' b = none) ∧ W i n H') ?_ m0 ⟨0, H3, I4, st4, nfp, w0⟩
    rintro n s5 ⟨i, H5, I5, st5, n5, w5⟩
    rcases turn i n H5 w5 with ⟨stop, qq⟩ | ⟨go, Nx, hNx, step⟩
    · refine thnF (T.done (X.blk s3 H3 scope ce fp) rfl rfl rfl hc i [] s5 _ H5 (fun _ _ => False) I5 (stat I5 n5) st5 stop) fun r s6 ⟨hr, I6⟩ => ?_
      subst hr
      have I7 : Inv X pins σ H5 s6 := I3.call' (ch := fp) I6.os I6.base I6.hok I6.bare fun b hb => ⟨(f3 b hb).1.2.2.2.1, (f3 b hb).1.2.1, (f3 b hb).1.2.2.2.2.1, (f3 b hb).1.2.2.2.2.2⟩
      have nC : H5 s3.heap.objs.size = none := by
        have z : H5 ce.locals = none := I6.free
        rw [cL] at z
        exact z
      obtain ⟨m, hn, _⟩ := I6.loc
      have hn : s6.heap.Ns ce.locals m := hn
      rw [cL] at hn
      obtain ⟨f0, f1, f2, f3, f4, f5⟩ := I3.fpOk (Nat.le_refl _) nC
      exact ⟨m, hn, fun h'' sb => ⟨.ref D, H5, I7.turned (t' := s6.toks) (fun b o hb e => (sb.2 b hb).trans e) f0 f1 f3 f4 f5, rfl, qq⟩⟩
    · refine thnF (T.item (X.blk s3 H3 scope ce fp) rfl rfl rfl hc i [] s5 _ H5 (fun _ _ => False) I5 (stat I5 n5) st5 go) fun r s6 ⟨u, hr, h6⟩ => ?_
      subst hr
      refine thnF h6 fun _ s7 ⟨x, H7, I7, r7, y7, st7, n7⟩ => ?_
      have I7' := I7.pinned (stat I7 n7) (T.obj _ _ st7)
      refine thnF (pg.run _ s7 _ H7 x u _ I7' r7 (step x H7 y7)) fun _ s8 ⟨σ8, H8, I8, hw8, q8⟩ => ?_
      refine wpAny_pure ?_
      simp only [if_true]
      refine thnF (pe.run _ s8 σ8 H8 _ I8 q8) fun z s10 ⟨yv, H10, I10, r10, ad⟩ => ?_
      refine adds_ok (X := X.blk s3 H3 scope ce fp) I10 r10 ad fun s' H' I' nx => ?_
      obtain ⟨m', hm, w'⟩ := hNx H' nx
      have pin' : ∀ b ∈ fp, ∀ o, s7.heap.get? b = some o → s'.heap.get? b = some o ∧ H' b = none := fun b hb o e =>
        let z := I'.pin (b, o) (List.mem_append_right _ (List.mem_append_right _ (mem_pinsAt hb e)))
        ⟨z.1, z.2.1⟩
      have hl : (wipe σ (own.map (·.2))).length = σ8.length := by rw [← hw8, wipe_length]
      refine ⟨m', hm, i + 1, H', (I'.unpinned (pins := [])).weak hl (fun j v e => ?_), T.keep _ _ _ st7 fun b hb o e => (pin' b hb o e).1, fun b hb => ?_, w'⟩
      · rw [← hw8] at e
        exact (wipe_some e).1
      · obtain ⟨o, e, _⟩ := T.obj _ _ st7 b hb
        exact (pin' b hb o e).2
  exact PpSet.codeAny_compStart_set loop (T.self X.A 0 _ _ _ st4 loop)
/-! ### sorted(s), s a set of ints, of any number -/
theorem ints_each {h : Heap} : ∀ {us : List Value} {ns : List Int}, IntsAre us ns → W.EachIs (fun v n => ∃ t, v = Value.int n t) us ns ∧ W.EachIs (fun v n => ∃ as, Reads h v (PyData.int n) as) us ns
  | _, _, .nil => ⟨.nil, .nil⟩
  | _, _, .cons k t r => ⟨.cons ⟨t, rfl⟩ (ints_each (h := h) r).1, .cons ⟨[], .int _ _⟩ (ints_each (h := h) r).2⟩
theorem each_ints : ∀ {us : List Value} {ns : List Int}, W.EachIs (fun v n => ∃ t, v = Value.int n t) us ns → IntsAre us ns
  | _, _, .nil => .nil
  | _, _, .cons ⟨t, e⟩ r => by subst e; exact .cons _ _ (each_ints r)
theorem dataLe_I (a b : Int) : W.dataLe false PyData.int a b = decide (a ≤ b) := by
  rw [W.dataLe_eq]
  show (!W.dataLt (.int b) (.int a)) = _
  rw [W.dataLt_int]
  by_cases h : b < a
  · rw [decide_eq_true h, decide_eq_false (by omega)]; rfl
  · rw [decide_eq_false h, decide_eq_true (by omega)]; rfl
theorem sorted_setAny {P : Program} {w : World} {A : Around} {E : Value → Shared → Prop} {s : Shared} {a : Addr} {S : Int → Bool} {n : Nat} {Q : Value → Shared → Prop} (R : SetR w s.heap a S n) (hh : A.handled = none) (hn16 : n ≤ sizeLine) (hu : A.units + 10 < cLine)
    (hQ : ∀ s' p (out : Array Value) (c : Nat) (ns : List Int), (∀ b o, s.heap.get? b = some o → s'.heap.get? b = some o) → s'.gens = s.gens → s'.os = s.os → s.heap.objs.size ≤ p →
      s'.heap.get? p = some (seqObj "list" out c) → IntsAre out.toList ns → ns.Pairwise (· < ·) → (∀ k, k ∈ ns ↔ S k = true) → ns.length = n → Q (.ref p) s') :
    wpAny (model P w) A (call (.builtin "sorted") [.ref a]) Q E s := by
  obtain ⟨o, es, ep, t, ho, hex, hd, g, nd, hm, hb, hf, hn, hr, hl⟩ := R
  refine Calls.call_function_entry kind_sorted plain_sorted entry_sorted (args_sorted1 _) ?_
  unfold Builtin.«sorted»
  refine wpAny_bind (m := checkCount "sorted" 1 1 _) (wpAny_pure ?_)
  refine wpAny_bind (collect_set (A := A.in1) hh ⟨o, ho, hex.1, hd⟩ hf hb hr hl fun s1 vs k1 hz g1 o1 pm => ?_)
  have hvl : vs.length = n := by rw [pm.length_eq, List.length_map, Array.length_toList]; exact hn
  have hI : IntsAre vs (vs.map Builtin.Re.reRawOf) := ints_of vs fun v hv => by
    obtain ⟨e, he, q⟩ := List.mem_map.mp (pm.mem_iff.mp hv)
    obtain ⟨k, tk, h1, _⟩ := g e he
    exact ⟨k, tk, by rw [← q]; exact h1⟩
  have pk : (vs.map Builtin.Re.reRawOf).Perm (es.toList.map keyOf) := by
    have q := pm.map Builtin.Re.reRawOf
    rw [List.map_map] at q
    exact q
  generalize hns : vs.map Builtin.Re.reRawOf = ns0 at hI pk
  refine wpAny_bind (wpAny_newList ?_ (by rw [hvl]; exact hn16))
  have hoL : (s1.heap.push (seqObj "list" vs.toArray 0)).get? s1.heap.objs.size = some (seqObj "list" vs.toArray 0) := Heap.get?_push_size _ rfl
  obtain ⟨e1, e2⟩ := ints_each (h := W.sortingHeap (s1.heap.push (seqObj "list" vs.toArray 0)) s1.heap.objs.size vs) hI
  have al : W.AllAlike (ns0.map PyData.int) := fun x hx y hy => by
    obtain ⟨i, _, rfl⟩ := List.mem_map.mp hx
    obtain ⟨j, _, rfl⟩ := List.mem_map.mp hy
    rfl
  have hk : W.Sortable (ns0.map PyData.int) := .inr fun d hd => by
    obtain ⟨i, _, rfl⟩ := List.mem_map.mp hd
    exact ⟨fun z => (nomatch z), fun _ z => nomatch z⟩
  refine wpAny_bind (wpAny_holding (wpAny_call_entry slot_list_sort ⟨_, hoL, rfl⟩ entry_list_sort
    (W.list_sort_vals (s := { s1 with heap := s1.heap.push (seqObj "list" vs.toArray 0) }) (κ := W.dataKind (W.sortingHeap (s1.heap.push (seqObj "list" vs.toArray 0)) s1.heap.objs.size vs) (ns0.map PyData.int)) hoL
      (W.SortsAt.data (s := { s1 with heap := W.sortingHeap (s1.heap.push (seqObj "list" vs.toArray 0)) s1.heap.objs.size vs }) (W.each_map (R := fun v d => ∃ as, Reads (W.sortingHeap (s1.heap.push (seqObj "list" vs.toArray 0)) s1.heap.objs.size vs) v d as) PyData.int e2) al hk (fun d hd => by
        obtain ⟨i, _, rfl⟩ := List.mem_map.mp hd
        show _ + 0 < cLine
        show A.units + 1 + 1 + 0 < cLine
        omega)) (by rw [hvl]; exact hn16) ⟨_, rfl, ?_⟩) (args_list_sort _)))
  have so := W.sortVals_data (enc := PyData.int) (bs := ns0) false e1 e2 al
  generalize W.sortVals (W.dataKind (W.sortingHeap (s1.heap.push (seqObj "list" vs.toArray 0)) s1.heap.objs.size vs) (ns0.map PyData.int)) false vs vs = out at so ⊢
  obtain ⟨c, hc⟩ := sortedHeap_at (vs := vs) (out := out.toArray) hoL
  have pn : (ns0.mergeSort (W.dataLe false PyData.int)).Perm (es.toList.map keyOf) := (List.mergeSort_perm _ _).trans pk
  have srt : (ns0.mergeSort (W.dataLe false PyData.int)).Pairwise (· ≤ ·) := by
    have q := List.pairwise_mergeSort (le := W.dataLe false PyData.int) (fun a b c h1 h2 => by rw [dataLe_I, decide_eq_true_eq] at *; omega) (fun a b => by rw [dataLe_I, dataLe_I, Bool.or_eq_true, decide_eq_true_eq, decide_eq_true_eq]; omega) ns0
    exact q.imp fun {a b} h => by rw [dataLe_I, decide_eq_true_eq] at h; exact h
  refine wpAny_pure ⟨_, rfl, hQ _ s1.heap.objs.size out.toArray c _ (fun b u e => ?_) g1 o1 hz hc (each_ints so) (lt_of_le_nodup _ srt (pn.nodup_iff.mpr nd)) (fun k => by rw [pn.mem_iff, ← hm k]) ?_⟩
  · have q := k1 b u e
    have hlt := Heap.lt_size q
    show (sortedHeap (s1.heap.push (seqObj "list" vs.toArray 0)) s1.heap.objs.size vs out.toArray).get? b = some u
    rw [sortedHeap_old (Nat.ne_of_lt hlt) (by rw [size_push']; exact Nat.lt_succ_of_lt hlt)]
    exact Heap.get?_push_of_some _ q
  · rw [pn.length_eq, List.length_map, Array.length_toList]; exact hn
end
section
variable {X : Cx}
def rSortS (w : World) : List V → Hp → VK → Prop := fun vs H Q => ∃ (a : Addr) (S : Int → Bool) (n : Nat), vs = [V.ref a] ∧ H a = some (SetO w a S n) ∧ n < 4096 ∧
  ∀ (ns : List Int) (p : Addr), ns.Pairwise (· < ·) → (∀ k : Int, k ∈ ns ↔ S k = true) → ns.length = n → H p = none → Q (.ref p) (upd H p (.lst (ns.map V.int)))
theorem cr_sortS (hc : X.calm = true) (hu : X.A.units + 110 < cLine) : CallR X (.builtin "sorted") (rSortS X.w) := by
  intro pins s σ H vs us Q I r h
  obtain ⟨a, S, n, rfl, ha, hn, q⟩ := h
  have hz : n ≤ sizeLine := by rw [sizeLine_eq]; omega
  rw [Vals.ref1 r]
  refine sorted_setAny (setO_get I ha) (I.ok.hd hc) hz (by omega) fun s' p out c ns k g o hp hg hi hs hm hl => ?_
  have hp0 : H p = none := I.hok.fresh hp
  have J : Inv X pins σ (upd H p (.lst (ns.map V.int))) { s with heap := s'.heap, gens := s'.gens, drawn := s'.drawn, toks := s'.toks } := I.call (ch := []) (Un.laid k hp hp0) (I.hok.laid k hp ⟨by rw [List.length_map, hl]; exact hz, out.toList, c, vals_of_ints hi, hg⟩) (by rw [g]; exact I.bare) (fun _ z => nomatch z)
  have e : s' = { s with heap := s'.heap, gens := s'.gens, drawn := s'.drawn, toks := s'.toks } := by
    cases s'
    cases s
    cases o
    rfl
  rw [e]
  exact ⟨.ref p, _, J, rfl, q ns p hs hm hl hp0⟩
end
section
variable {Tq : List (Addr × Str)} {Z : Zb Tq} {X : Cx} {env : Env} {PR : R → Env → Prop} {tg iter elt : Expr} {pos : Pos}
theorem rpa_ints {F : Hp} : ∀ ns : List Int, RpA F (ns.map V.int) (ns.map PyData.int)
  | [] => .nil
  | n :: ns => .cons (.int n) (rpa_ints ns)
/-- a set comprehension of ints, sorted -/
structure ScI {Tq : List (Addr × Str)} (Z : Zb Tq) (X : Cx) (scope : Scope) (f : TF) (elt : Expr) (vs : List Nat) (P : R → Env → Prop) (ds : List D) (e1 : Env) : Prop where
  ex : ds.length < 4000 ∧ ∃ I : Nat → List Int → Env → Prop, I 0 [] (wipeE e1 vs) ∧ (∀ k d acc e, ds[k]? = some d → I k acc e → f d e fun e' => Blk X scope fun X' => WA Z X' elt e' fun a e2 => ∃ c : Int, a = .va (.int c) ∧ I (k + 1) (acc ++ [c]) (wipeE e2 vs)) ∧
    ∀ acc e, I ds.length acc e → ∀ (ns : List Int) p, ns.Pairwise (· < ·) → (∀ c, c ∈ ns ↔ c ∈ acc) → P (.t (.lst p (ns.map PyData.int))) e
theorem sc_read {g : TG} {f : TF} {ix : List Nat} {scope : Scope} {vs : List Nat} (gk : GOk Z g f ix) (hix : ∀ i ∈ ix, i ∈ vs)
    {σ0 : L2.St} {H0 F0 : Hp} {O0 : List Addr} (b0 : Bas Z F0 H0 O0) (o0 : OwE F0 H0 O0 σ0 env) (h : WI Z X tg iter env (ScI Z X scope f elt vs PR)) :
    tCB (rSortS X.w) (tCons (tScI X.w (tI Z X tg iter) g (tAB Z X scope elt) vs) tNil) σ0 H0 (Post Z σ0 H0 F0 O0 PR) := by
  refine ⟨env, F0, O0, _, b0, o0, h, fun J H1 F1 O1 ds e1 b1 o1 fr1 gv ⟨hds, I, i0, step, done⟩ D hD => ?_⟩
  have fD : F1 D = none := b1.sub.free hD
  refine ⟨fun i m H => m = ds.length - i ∧ i ≤ ds.length ∧ ∃ F O e e0 acc S n, Bas Z F H (O ++ [D]) ∧ OwE F H O (wipe σ0 vs) e ∧ e = wipeE e0 vs ∧ H D = some (SetO X.w D S n) ∧ n ≤ i ∧ (∀ c, S c = true ↔ c ∈ acc) ∧ Frm Tq H1 F1 O1 H F (O ++ [D]) ∧ I i acc e, ⟨_, rfl, Nat.zero_le _, ?_⟩, ?_⟩
  · -- the start
    obtain ⟨O2, Od, h2, h3⟩ := o1.wipeO vs
    have hn : ∀ a ∈ O1, a ≠ D := fun a ha z => by subst z; exact o1.there a ha hD
    have fr : Frm Tq H1 F1 O1 (upd H1 D (SetO X.w D (fun _ => false) 0)) F1 (O2 ++ [D]) := ⟨Same.refl _, fun a o e _ _ => same_new hD a o e, fun a e => by
      by_cases z : a = D
      · subst z; rw [upd_same]; exact fun z => nomatch z
      · rw [upd_ne z]; exact e, fun a e => .inl e, fun a ha => (List.mem_append.mp ha).elim (fun z => .inl (h3.mem_iff.mpr (List.mem_append_left _ z))) fun z => .inr (by rw [List.mem_singleton.mp z]; exact hD), tab_new hD⟩
    have b2 := (b1.dropP h3).1
    refine ⟨F1, O2, wipeE e1 vs, e1, [], fun _ => false, 0, ⟨b1.sub.trans (same_new hD), List.nodup_append.mpr ⟨b2.nd, List.nodup_cons.mpr ⟨fun z => (nomatch z), List.nodup_nil⟩, fun a ha c hc z => ?_⟩, fun a ha => ?_, b1.abs.trans fr⟩, ?_, rfl, upd_same, Nat.le_refl _, fun c => by simp, fr, i0⟩
    · rw [List.mem_singleton.mp hc] at z
      exact hn a (h3.mem_iff.mpr (List.mem_append_left _ ha)) z
    · rcases List.mem_append.mp ha with ha | ha
      · exact b2.dis a ha
      · rw [List.mem_singleton.mp ha]; exact fD
    · have o3 : OwE F1 (upd H1 D (SetO X.w D (fun _ => false) 0)) O2 σ0 (wipeE e1 vs) := h2.stay (Same.refl _) fun a ha => upd_ne (hn a (h3.mem_iff.mpr (List.mem_append_left _ ha)))
      exact o3.wiped wipe_wipe
  · rintro i m H ⟨rfl, hi, F, O, e, e0, acc, S, n, b, o, he0, hDl, hni, hS, fr, hI⟩
    obtain ⟨g1, g2⟩ := gv F H fr.fz b.sub i
    by_cases hlt : i < ds.length
    · obtain ⟨go, yl⟩ := g1 ds[i] (List.getElem?_eq_getElem hlt)
      refine .inr ⟨go, fun H' => ∃ F O e e0 acc S n, Bas Z F H' (O ++ [D]) ∧ OwE F H' O (wipe σ0 vs) e ∧ e = wipeE e0 vs ∧ H' D = some (SetO X.w D S n) ∧ n ≤ i + 1 ∧ (∀ c, S c = true ↔ c ∈ acc) ∧ Frm Tq H1 F1 O1 H' F (O ++ [D]) ∧ I (i + 1) acc e, fun H' q => ⟨ds.length - (i + 1), by omega, rfl, hlt, q⟩, fun x H' y => ?_⟩
      obtain ⟨F', rx, s1, s2, s3, nf⟩ := yl x H' y
      have dD : ∀ a ∈ [D], Held H a := fun a ha => by rw [List.mem_singleton.mp ha]; exact ⟨_, hDl, fun _ z => nomatch z⟩
      have bL := b.left
      obtain ⟨b2, o2, fr2⟩ := bL.grow o s1 s2 s3 nf
      have b2D : Bas Z F' H' (O ++ [D]) := Bas.frame fr2 b b2 dD
      refine gk x _ (wipe σ0 vs) H' F' O e _ _ b2 o2 rx (step i _ acc e (List.getElem?_eq_getElem hlt) hI) fun σ3 O3 e3 b3 o3 s3' w3 h3 => ?_
      have hw : wipe σ3 vs = wipe (wipe σ0 vs) vs := w3 vs hix
      rw [wipe_wipe] at hw
      refine ⟨hw, ?_⟩
      have hD3 : H' D = some (SetO X.w D S n) := s2 _ _ hDl
      have dD3 : ∀ a ∈ [D], Held H' a := fun a ha => by rw [List.mem_singleton.mp ha]; exact ⟨_, hD3, fun _ z => nomatch z⟩
      have fr23 : Frm Tq H F O H' F' O3 := fr2.perm (fun _ => Iff.rfl) s3'
      have b3D : Bas Z F' H' (O3 ++ [D]) := Bas.frame fr23 b b3 dD
      have frD : Frm Tq H1 F1 O1 H' F' (O3 ++ [D]) := fr.trans fr23.frame
      refine ⟨e3, F', O3, _, b3, o3, h3, fun y H6 ⟨F6, O6, a6, e6, b6, o6, st6, fr6, c, ea6, q7⟩ => ?_⟩
      subst ea6
      have ey : y = .int c := by cases (show Rp F6 y (.int c) from st6); rfl
      have hD6 : H6 D = some (SetO X.w D S n) := fr6.out D _ hD3 (fun _ z => nomatch z) fun z => (List.nodup_append.mp b3D.nd).2.2 D z D (List.mem_singleton.mpr rfl) rfl
      have b6D : Bas Z F6 H6 (O6 ++ [D]) := Bas.frame fr6 b3D b6 dD3
      have frD6 : Frm Tq H1 F1 O1 H6 F6 (O6 ++ [D]) := frD.trans fr6.frame
      have nD : ∀ a ∈ O6, a ≠ D := fun a ha z => (List.nodup_append.mp b6D.nd).2.2 a ha D (List.mem_singleton.mpr rfl) z
      have fD6 : F6 D = none := b6D.dis D (List.mem_append_right _ (List.mem_singleton.mpr rfl))
      refine ⟨c, S, n, ey, hD6, by show n + 1 < 4096; omega, ?_⟩
      generalize hnew : SetO X.w D (fun j => S j || decide (j = c)) (if S c = true then n else n + 1) = ob
      have hs : Same F6 (upd H6 D ob) := fun a x ha => by
        have z : a ≠ D := fun z => by subst z; rw [fD6] at ha; cases ha
        rw [upd_ne z]; exact b6D.sub a x ha
      have fr7 : Frm Tq H6 F6 (O6 ++ [D]) (upd H6 D ob) F6 (O6 ++ [D]) := ⟨Same.refl _, fun a x ha _ hn => by
        rw [upd_ne fun z => hn (by rw [z]; exact List.mem_append_right _ (List.mem_singleton.mpr rfl))]; exact ha, fun a ha => by
        by_cases z : a = D
        · subst z; rw [upd_same]; exact fun z => nomatch z
        · rw [upd_ne z]; exact ha, fun a ha => .inl ha, fun a ha => .inl ha, tab_own hD6 (fun _ z => nomatch z) fun _ => setO_code⟩
      have b7 : Bas Z F6 (upd H6 D ob) (O6 ++ [D]) := ⟨hs, b6D.nd, b6D.dis, b6D.abs.trans fr7⟩
      have o7 : OwE F6 (upd H6 D ob) O6 σ3 e6 := o6.stay (Same.refl _) fun a ha => upd_ne (nD a ha)
      obtain ⟨O8, Od8, h8, p8⟩ := o7.wipeO vs
      have p8' : (O6 ++ [D]).Perm ((O8 ++ [D]) ++ Od8) := (p8.append_right [D]).trans (by
        rw [List.append_assoc, List.append_assoc]
        exact List.perm_append_comm.append_left O8)
      refine ⟨F6, O8, wipeE e6 vs, e6, acc ++ [c], _, _, (b7.perm p8').left, h8.wiped ?_, rfl, by rw [upd_same, ← hnew], by split <;> omega, fun d => ?_, (frD6.trans fr7).perm (fun _ => Iff.rfl) fun c hc => p8'.mem_iff.mpr (List.mem_append_left _ hc), q7⟩
      · rw [wipe_wipe]
        exact hw.symm
      · rw [Bool.or_eq_true, decide_eq_true_eq, hS, List.mem_append, List.mem_singleton]
    · have e' : i = ds.length := by omega
      subst e'
      refine .inl ⟨g2 (List.getElem?_eq_none (Nat.le_refl _)), D, S, n, rfl, hDl, by omega, fun ns p pw mem len hp => ?_⟩
      have oN : OwE F H O σ0 e := by
        subst he0
        exact o.wiped wipe_wipe.symm
      have frN : Frm Tq H0 F0 O0 H F O := fr1.trans (fr.perm (fun _ => Iff.rfl) fun c hc => List.mem_append_left _ hc)
      exact ((NewV.lst b.left.sub (rpa_ints ns) hp (k := fun t => t = .lst p (ns.map PyData.int)) rfl).post b.left oN (fun t e => by subst e; exact done acc _ hI ns p pw fun c => (mem c).trans (hS c))).from frN
theorem w_sortSc {g : TG} {f : TF} {ix : List Nat} {scope : Scope} {own : List (Str × Nat)} {p pos2 : Pos} (hu : X.A.units + 110 < cLine) (hm : X.mg "sorted" = none) (hc : X.calm = true) (hN : X.N.Nodup) (ok : BlkOk X.N X.env.scope scope own) (hg : Blk X scope fun X' => PG X' tg g) (gk : GOk Z g f ix) (hix : ∀ i ∈ ix, i ∈ own.map (·.2))
    (h : WI Z X tg iter env (ScI Z X scope f elt (own.map (·.2)) PR)) (hg2 : Gl X "sorted" := by rfl) (hs : ∀ x, foldedSetIterable iter X.env x = pure x := by intro _; rfl)
    (he : starEach [.SetComp elt [⟨tg, iter, [], 0⟩] scope pos] X.env = (false, eval (.SetComp elt [⟨tg, iter, [], 0⟩] scope pos) X.env) :: starEach [] X.env := by rfl) : WE Z X (.Call (.Name "sorted" p) [.SetComp elt [⟨tg, iter, [], 0⟩] scope pos] [] pos2) env PR :=
  we_of (pe_callB (cr_sortS hc hu) hg2 hm (by rfl) (pa_cons (pe_scI (own := own) hc hN (pi_I (Z := Z)) ok hg (pe_AB (Z := Z)) hs) pa_nil he) (by decide) (by decide) he) fun σ H F O b o => sc_read gk hix b o h
end
end QL

/-! QTu: sorted(set(e)), e a list or a tuple of ints. -/
namespace QL
open PySem PySem.Spec PyProof.Rows L2
section
variable {P : Program} {w : World} {A : Around} {E : Value → Shared → Prop} {s : Shared}
/-- an empty set, new -/
abbrev newS (w : World) : Obj := { cls := .type "set", dict := none, data := .set #[] 0 (.fresh 0 0 (!w.params.followText "set-order")) }
theorem size_ne {h : Heap} {b : Addr} {o : Obj} (e : h.get? b = some o) (x : Obj) : b ≠ h.objs.size ∧ b ≠ (h.push x).objs.size :=
  have lt := Heap.lt_size e
  ⟨Nat.ne_of_lt lt, by rw [Heap.size_push]; exact Nat.ne_of_lt (Nat.lt_succ_of_lt lt)⟩
theorem call_set_lstI {l : Addr} {items : Array Value} (ns : List Int) {Q : Value → Shared → Prop} (hh : A.handled = none) (hl : s.heap.IsList l items) (hit : IntsAre items.toList ns) (hb : ns.length + 1 < scanBound)
    (h : ∀ (h' : Heap) (tk c : Nat), SetR w h' s.heap.objs.size (fun j => decide (j ∈ ns)) c → c ≤ ns.length → (∀ b o, s.heap.get? b = some o → h'.get? b = some o) → Q (.ref s.heap.objs.size) { s with heap := h', toks := tk }) :
    wpAny (model P w) A (call (.type "set") [.ref l]) Q E s := by
  have hisz : items.size = ns.length := (Array.length_toList (xs := items)).symm.trans (IntsAre.length hit)
  obtain ⟨c, tl, hmro⟩ := F.called_set.mro
  have hmade := F.called_set.made
  have hsub := F.called_set.sub
  refine wpAny_call (codeAny_of_tree ?_)
  show wpAny _ _ (callAny (.type "set") _) _ _ _
  refine wpAny_pure ⟨Code.quiet_builtin _ (by decide +kernel), codeAny_builtin F.entry_type_call ?_⟩
  rw [Around.under_plain (weight_type_call_type "set" [.ref l] []) rfl]
  have h1 := F.called_set.notType
  have h2 := F.called_set.canCreate
  have hct := F.typeCall_set_1 (.ref l)
  repeat (any_goals (first | assumption | wp_step))
  refine codeAny_mono (code_set_led1 (.ref l) (E := E) (Q₁ := fun obj s₁ => obj = .ref s.heap.objs.size ∧ s₁ = { s with heap := s.heap.push (newS w) }) ⟨rfl, rfl⟩) fun r s₁ hr => ?_
  cases r with
  | error e => exact hr
  | ok fl =>
    cases fl with
    | ret obj =>
      obtain ⟨rfl, rfl⟩ := hr
      have hS : (s.heap.push (newS w)).get? s.heap.objs.size = some (newS w) := Heap.get?_push_size _ rfl
      have hT : Shared.TypeIs { s with heap := s.heap.push (newS w) } (.ref s.heap.objs.size) "set" := ⟨_, hS, rfl⟩
      have hli := F.called_set.init.lookup
      have hbi := F.called_set.init.bind (.ref s.heap.objs.size)
      repeat (any_goals (first | assumption | wp_step))
      refine codeAny_mono (codeAny_call_builtin (R := wants (fun r s₂ => r = .none ∧ ∃ h' tk c, s₂ = { s with heap := h', toks := tk } ∧ SetR w h' s.heap.objs.size (fun j => decide (j ∈ ns)) c ∧ c ≤ ns.length ∧
          (∀ b o, s.heap.get? b = some o → h'.get? b = some o)) E) F.called_set.init.plain F.entry_set_init (check_set_init_1 hT ?_)) fun r₂ s₂ hr₂ => ?_
      · obtain ⟨ol, hol, hcl, nl, hdl⟩ := hl
        obtain ⟨ocls, odict, odata, oslots⟩ := ol
        simp only at hcl hdl
        subst hcl; subst hdl
        have hol' : (s.heap.push (newS w)).get? l = some { cls := .type "list", dict := odict, data := .seq items nl, slots := oslots } := Heap.get?_push_of_some _ hol
        have hsls := F.sub_list_set
        have hslf := F.sub_list_frozenset
        have hne : (Value.type "list" == Value.type "dict") = false := by decide
        have hl1 : (s.heap.push (newS w)).IsList l items := ⟨_, hol', rfl, nl, rfl⟩
        unfold Builtin.«set.__init__» noKeywords Builtin.Frozenset.updateFrom
        generalize hPI : pyIter = PI
        wp_walk
        subst hPI
        refine wpAny_pyIter_list hl1 ?_
        refine wpAny_bind (wpAny_runValue ?_)
        have hh3 : A.in1.in1.in1.handled = none := by simp [hh]
        obtain ⟨n1, n2⟩ := size_ne hol (newS w)
        have hSf : s.heap.objs.size ∉ [(s.heap.push (newS w)).objs.size, l] := by
          rw [Heap.size_push]; simp only [List.mem_cons, List.not_mem_nil, or_false, not_or]
          exact ⟨Nat.ne_of_lt (Nat.lt_succ_self _), fun z => n1 z.symm⟩
        have hval : ∀ (i : Nat) (v : Value), items[i]? = some v → ∃ k t, ns[i]? = some k ∧ v = .int k t := fun i v hv => by
          have hi : i < ns.length := by rw [← hisz]; exact (Array.getElem?_eq_some_iff.mp hv).1
          obtain ⟨t, e⟩ := PyProof.Rows.IntsAre.int_at hit i v (by rw [Array.getElem?_toList]; exact hv)
          refine ⟨ns[i], t, List.getElem?_eq_getElem hi, ?_⟩
          rw [e, List.getD_eq_getElem?_getD, List.getElem?_eq_getElem hi] <;> rfl
        refine set_update_ints ((Walks.list hh3 _ l n2 items).toS) s.heap.objs.size
          hSf ns hisz hb hval (items.size - 0) 0 _ (by omega) (Nat.zero_le _)
          ⟨⟨_, Heap.get?_push_size _ rfl, rfl, rfl⟩, (hl1.push _)⟩ ⟨0, Nat.le_refl 0, setR_new_at (Heap.get?_push_of_some _ hS)⟩ fun s' c' hm hc' hS' => ?_
        obtain ⟨h', g2, d', tk', os'⟩ := s'
        have eg : g2 = s.gens := hm.gens
        have ed : d' = s.drawn := hm.drawn
        have eo : os' = s.os := hm.os
        subst eg; subst ed; subst eo
        show wpAny _ _ _ _ _ _
        refine wpAny_pure ?_
        show wpAny _ _ (ret Value.none) _ _ _
        rw [hisz] at hc'
        refine wpAny_pure ⟨rfl, h', tk', c', rfl, hS', hc', fun b o e => ?_⟩
        obtain ⟨m1, m2⟩ := size_ne e (newS w)
        exact hm.heap b o (by simp only [List.mem_cons, List.not_mem_nil, or_false, not_or]; exact ⟨m1, m2⟩) (Heap.get?_push_of_some _ (Heap.get?_push_of_some _ e))
      · cases r₂ with
        | error e => exact hr₂
        | ok fl₂ =>
          cases fl₂ with
          | ret r =>
            obtain ⟨rfl, h', tk, c', rfl, hS', hc', hk'⟩ := hr₂
            repeat (any_goals (first | assumption | wp_step))
            exact h _ _ _ hS' hc' hk'
          | _ => exact hr₂.elim
    | _ => exact hr.elim
end
section
variable {X : Cx}
def rSetI (K : PySem.W.Frag) (w : World) : List V → Hp → VK → Prop := fun vs H Q => ∃ (p : Addr) (ns : List Int), vs = [V.ref p] ∧ (SqL K H p (ns.map V.int) ∨ SqT K H p (ns.map V.int)) ∧ ns.length + 1 < scanBound ∧
  ∀ D c, H D = none → c ≤ ns.length → Q (.ref D) (upd H D (SetO w D (fun j => decide (j ∈ ns)) c))
theorem cr_setI (hc : X.calm = true) : CallR X (.type "set") (rSetI X.K X.w) := by
  intro pins s σ H vs us Q I r h
  obtain ⟨p, ns, rfl, hq, hb, q⟩ := h
  rw [Vals.ref1 r]
  have fin : ∀ (h' : Heap) (tk c : Nat), SetR X.w h' s.heap.objs.size (fun j => decide (j ∈ ns)) c → c ≤ ns.length → (∀ b o, s.heap.get? b = some o → h'.get? b = some o) → EP X pins σ Q (.ref s.heap.objs.size) { s with heap := h', toks := tk } := fun h' tk c R hc k =>
    ⟨.ref s.heap.objs.size, _, I.laid (t' := tk) k (Nat.le_refl _) (setO_new R), rfl, q _ c (I.hok.fresh (Nat.le_refl _)) hc⟩
  rcases hq with hq | hq
  · obtain ⟨its, rv, pt, hz⟩ := I.list hq
    exact call_set_lstI ns (I.ok.hd hc) pt.isList (by simpa using ints_of_vals rv) hb fin
  · obtain ⟨its, rv, pt, hz⟩ := I.tuple hq
    exact call_set_tupI ns (I.ok.hd hc) (show s.heap.IsTuple p its.toArray from pt) (by simpa using ints_of_vals rv) hb fin
end
theorem rpa_ints_inv {F : Hp} : ∀ {vs : List V} {ns : List Int}, RpA F vs (ns.map PyData.int) → vs = ns.map V.int
  | [], [], _ => rfl
  | [], n :: ns, h => nomatch h
  | v :: vs, [], h => nomatch h
  | v :: vs, n :: ns, h => by
    cases h with
    | cons a b =>
      cases a
      rw [rpa_ints_inv b]; rfl
section
variable {Tq : List (Addr × Str)} {Z : Zb Tq} {X : Cx} {env : Env} {PR : R → Env → Prop} {e : Expr} {pos : Pos}
theorem w_sortSet {p p2 pos2 : Pos} (hu : X.A.units + 110 < cLine) (hm : X.mg "sorted" = none) (hm2 : X.mg "set" = none) (hc : X.calm = true)
    (h : WA Z X e env fun a e1 => View a e1 fun d => ∃ ns : List Int, (d = .list (ns.map PyData.int) ∨ d = .tuple (ns.map PyData.int)) ∧ ns.length < 4000 ∧ ∀ (ms : List Int) q, ms.Pairwise (· < ·) → (∀ c, c ∈ ms ↔ c ∈ ns) → PR (.t (.lst q (ms.map PyData.int))) e1)
    (hg : Gl X "sorted" := by rfl) (hg2 : Gl X "set" := by rfl) (na : starEach [e] X.env = (false, eval e X.env) :: starEach [] X.env := by rfl)
    (he : starEach [.Call (.Name "set" p2) [e] [] pos2] X.env = (false, eval (.Call (.Name "set" p2) [e] [] pos2) X.env) :: starEach [] X.env := by rfl) : WE Z X (.Call (.Name "sorted" p) [.Call (.Name "set" p2) [e] [] pos2] [] pos) env PR :=
  we_of (pe_callB (cr_sortS hc hu) hg hm (by rfl) (pa_cons (pe_callTy (cr_setI hc) hg2 hm2 (by rfl) (pa_cons (pe_A (Z := Z)) pa_nil na) (by decide) (by decide) na) pa_nil he) (by decide) (by decide) he) fun σ H F O b o =>
    ⟨env, F, O, _, b, o, h, fun v H1 ⟨F1, O1, a1, e1, b1, o1, st, fr, q⟩ => by
      obtain ⟨d, w, ns, hd, hl, q⟩ := View.vw q o1 st
      have fin : ∀ {p : Addr}, v = .ref p → (SqL X.K H1 p (ns.map V.int) ∨ SqT X.K H1 p (ns.map V.int)) → rSetI X.K X.w [v] H1 fun v' H2 => rSortS X.w [v'] H2 (Post Z σ H F O PR) := fun {p} ev hs => by
        refine ⟨p, ns, by rw [ev], hs, by unfold scanBound; omega, fun D c hD hcn => ⟨D, _, c, rfl, upd_same, by omega, fun ms q2 pw mem len hq2 => ?_⟩⟩
        obtain ⟨b2, o2, fr2⟩ := b1.grow o1 (Same.refl _) (same_new (o := SetO X.w D (fun j => decide (j ∈ ns)) c) hD) (b1.sub.trans (same_new hD)) fun _ z => .inl z
        exact ((NewV.lst b2.sub (rpa_ints ms) hq2 (k := fun t => t = .lst q2 (ms.map PyData.int)) rfl).post b2 o2 (fun t e => by subst e; exact q ms q2 pw fun c => by rw [mem, decide_eq_true_eq])).from (fr.trans fr2)
      rcases hd with rfl | rfl
      · obtain ⟨p, vs, rfl, h1, r1⟩ := w.lst' b1.sub
        rw [rpa_ints_inv r1] at h1
        exact fin rfl (.inl (SqL.of h1))
      · obtain ⟨p, vs, rfl, h1, r1⟩ := w.tup
        rw [rpa_ints_inv r1] at h1
        exact fin rfl (.inr (SqT.of (b1.sub _ _ h1)))⟩
end
end QL

/-! QTw: xs.extend(list); d[k] = v, sorted(d) and d.get(k, x) of a dict that this name alone holds. -/
namespace QL
open PySem PySem.Spec PyProof.Rows L2
section
variable {Tq : List (Addr × Str)} {Z : Zb Tq} {X : Cx} {env : Env} {P : R → Env → Prop} {PO : Out → Prop} {e o ix f : Expr} {pos : Pos}
theorem w_extend {apos : Pos} (h : WE Z X o env fun r e1 => ∃ a i p ds0, r = .bor a i p ∧ getP i p e1 = some (.lst a ds0) ∧ WA Z X e e1 fun a1 e2 => View a1 e2 fun d => ∃ ys ds1, d = .list ys ∧ getP i p e2 = some (.lst a ds1) ∧ ds1.length + ys.length ≤ sizeLine ∧ P (.t (.va .none)) (setP i p (.lst a (ds1 ++ ys)) e2))
    (hbase : attributeBase o "extend" X.env (eval o X.env) = eval o X.env := by rfl)
    (hfew : ((backTo pos (starEach [e] X.env)).all (fun x => !x.1) && (backToKw pos (keywordEach [] X.env)).all (fun x => x.1.isSome)
      && decide (([e] : List Expr).length + ([] : List Keyword).length + (if ([] : List Keyword).isEmpty then 0 else 1) < 30)) = true := by rfl)
    (hline : (apos.endLine == pos.line) = true := by rfl) (hs : starEach [e] X.env = (false, eval e X.env) :: starEach [] X.env := by rfl) (hpl : (backTo pos (starEach [] X.env)).any (·.1) = false := by rfl) :
    WE Z X (.Call (.Attribute o "extend" apos) [e] [] pos) env P :=
  we_of (pe_bm PySem.F.plainAttrs_list PySem.F.slot_list_extend PySem.F.type_list_extend mt_extend (pe_E (Z := Z)) (pa_cons (pe_A (Z := Z)) pa_nil hs) hbase hfew hline hs hpl) fun σ H F O b0 o0 =>
    ⟨env, F, O, _, b0, o0, h, fun v H1 ⟨F1, O1, r, e1, b1, st, fr1, a, i, p, ds0, er, hg, q⟩ => by
      subst er
      obtain ⟨o1, ev⟩ := st
      subst ev
      refine ⟨lst_at o1 hg, e1, F1, O1, _, b1, o1, q, fun v2 H2 ⟨F2, O2, a2, e2, b2, o2, st2, fr2, q2⟩ => ?_⟩
      obtain ⟨d, w, ys, ds1, rfl, hg3, hz, q3⟩ := View.vw q2 o2 st2
      obtain ⟨pb, vs, rfl, hb, r1⟩ := w.lst' b2.sub
      obtain ⟨xs, hH, rx, up⟩ := mutL b2 o2 hg3
      obtain ⟨O4, b4, o4, fr4⟩ := up (xs ++ vs) (ds1 ++ ys) (rx.app r1)
      exact ⟨a, pb, xs, vs, rfl, rfl, hH, hb, by rw [rx.len, r1.len]; exact hz, (post_val b4 o4 .non q3).from ((fr1.trans fr2).trans fr4)⟩⟩
theorem ws_parA (i j : Nat) {a b : Expr} {x y : Str} {px py pt : Pos} {kt k2 pt2} (hc : X.calm = true) (hN : X.N.Nodup)
    (h : WAs Z X [a, b] env fun as e1 => absorb as e1 fun ds e2 => ∃ d1 d2, ds = [d1, d2] ∧ i < e2.length ∧ j < e2.length ∧ PO (.nx ((e2.set i (some (.va d1))).set j (some (.va d2)))))
    (hi : X.N[i]? = some x := by rfl) (hj : X.N[j]? = some y := by rfl) (hij : i ≠ j := by decide) (hx : X.env.scope.names.lookup x = some .local := by rfl) (hy : X.env.scope.names.lookup y = some .local := by rfl)
    (hw : swappedStores [.Tuple [.Name x px, .Name y py] kt pt] (.Tuple [a, b] k2 pt2) X.env = pure (some [x, y]) := by rfl)
    (hs : swapsWithSole [.Tuple [.Name x px, .Name y py] kt pt] (.Tuple [a, b] k2 pt2) pos.line X.env = pure false := by rfl) :
    WS Z X (.Assign [.Tuple [.Name x px, .Name y py] kt pt] (.Tuple [a, b] k2 pt2) pos) env PO :=
  ws_of (ps_par hc hN hi hj hij hx hy (pa_As (Z := Z)) hw hs) fun σ H F O b0 o => by
    refine ⟨env, F, O, _, b0, o, h, fun vs H1 ⟨F1, O1, as, e1, b1, o1, st1, fr1, h1⟩ => ?_⟩
    obtain ⟨F2, O2, ds, e2, b2, o2, r2, fr2, d1, d2, hd, li, lj, p⟩ := absorb_ok st1 b1 o1 h1
    subst hd
    cases r2 with
    | @cons v1 _ _ _ q1 r2 =>
    cases r2 with
    | @cons v2 _ _ _ q2 r2 =>
    cases r2
    obtain ⟨O5, P5, o5, p5⟩ := o2.set i (.va q1) li
    obtain ⟨O6, P6, o6, p6⟩ := o5.set j (.va q2) (by rw [List.length_set]; exact lj)
    rw [List.nil_append] at p5 p6
    obtain ⟨b5, f5⟩ := b2.dropP p5
    obtain ⟨b6, f6⟩ := b5.dropP p6
    exact ⟨v1, v2, rfl, F2, O6, _, b6, o6, ((fr1.trans fr2).trans f5).trans f6, p⟩
/-! ### dicts that are owned -/
theorem mutD {F H : Hp} {O : List Addr} {σ : L2.St} {i : Nat} {p : List Str} {a : Addr} {ds : List (Key × D)} (b : Bas Z F H O) (o : OwE F H O σ env) (hg : getP i p env = some (.dic a ds)) :
    ∃ xs, H a = some (.dK xs) ∧ RpT F xs ds ∧ ∀ ys es, RpT F ys es → ∃ O', Bas Z F (upd H a (.dK ys)) O' ∧ OwE F (upd H a (.dK ys)) O' σ (setP i p (.dic a es) env) ∧ Frm Tq H F O (upd H a (.dK ys)) F O' := by
  obtain ⟨w, ⟨Oj, O', h1, h2, h3⟩, _⟩ := o.focus hg
  cases h1 with
  | dic hH r =>
    refine ⟨_, hH, r, fun ys es r' => ?_⟩
    have nd := h2.nodup b.nd
    have ha : a ∈ O := h2.mem_iff.mpr (List.mem_append_left _ (List.mem_singleton.mpr rfl))
    have hn : ∀ c ∈ O', c ≠ a := fun c hc z => (List.nodup_append.mp nd).2.2 a (List.mem_singleton.mpr rfl) c hc z.symm
    obtain ⟨O'', q1, q2⟩ := h3 F (upd H a (.dK ys)) [a] (.dic a es) (Same.refl _) (fun c hc => upd_ne (hn c hc)) (.dic upd_same r')
    have pm : O.Perm O'' := h2.trans q2.symm
    have fr : Frm Tq H F O (upd H a (.dK ys)) F O'' := ⟨Same.refl _, fun c x e _ n => by rw [upd_ne fun z => n (by rw [z]; exact ha)]; exact e, fun c e => by
      by_cases z : c = a
      · subst z; rw [upd_same]; exact fun z => nomatch z
      · rw [upd_ne z]; exact e, fun c e => .inl e, fun c hc => .inl (pm.mem_iff.mpr hc), tab_own hH⟩
    have da := b.dis a ha
    refine ⟨O'', ⟨fun c x e => ?_, pm.nodup b.nd, fun c hc => b.dis c (pm.mem_iff.mpr hc), b.abs.trans fr⟩, q1, fr⟩
    rw [upd_ne fun z => by rw [z, da] at e; cases e]
    exact b.sub c x e
/-- the entry put, the key's place kept -/
def putT2 (kvs : List (Key × D)) (k : Key) (d : D) : List (Key × D) := if (kvs.any fun kv => decide (kv.1 = k)) = true then kvs.map fun kv => if kv.1 = k then (kv.1, d) else kv else kvs ++ [(k, d)]
theorem RpT.anyK {F : Hp} {k : Key} : ∀ {vs : List (Key × V)} {ds : List (Key × D)}, RpT F vs ds → (vs.any fun kv => decide (kv.1 = k)) = ds.any fun kv => decide (kv.1 = k)
  | _, _, .nil => rfl
  | _, _, .cons _ r => by rw [List.any_cons, List.any_cons, r.anyK]
theorem RpT.mapK {F : Hp} {k : Key} {v : V} {d : D} (q : Rp F v d) : ∀ {vs : List (Key × V)} {ds : List (Key × D)}, RpT F vs ds → RpT F (vs.map fun kv => if kv.1 = k then (kv.1, v) else kv) (ds.map fun kv => if kv.1 = k then (kv.1, d) else kv)
  | _, _, .nil => .nil
  | _, _, .cons (k := k2) r1 r => by
    rw [List.map_cons, List.map_cons]
    by_cases e : k2 = k
    · simp only [e, if_true]; exact .cons q (RpT.mapK q r)
    · simp only [e, if_false]; exact .cons r1 (RpT.mapK q r)
theorem RpT.putAny {F : Hp} {k : Key} {v : V} {d : D} {vs : List (Key × V)} {ds : List (Key × D)} (r : RpT F vs ds) (q : Rp F v d) : RpT F (putK vs k v) (putT2 ds k d) := by
  unfold putK putT2
  rw [r.anyK]
  split
  · exact RpT.mapK q r
  · exact r.app q
theorem ws_dput {sp : Pos} (hu : X.A.units + 1 < cLine) (h : WA Z X e env fun a1 e1 => WE Z X o e1 fun r e2 => ∃ a i p, r = .bor a i p ∧ WA Z X ix e2 fun a2 e3 => ∃ (k : Key) (d : D) (ds : List (Key × D)), a2 = .va (kD k) ∧ a1 = .va d ∧ getP i p e3 = some (.dic a ds) ∧ ds.length < sizeLine ∧ PO (.nx (setP i p (.dic a (putT2 ds k d)) e3)))
    (hs : swapsWith e (some (.Subscript o ix sp)) pos.line X.env = pure false := by rfl) : WS Z X (.Assign [.Subscript o ix sp] e pos) env PO :=
  ws_of (ps_dput hu (pe_E (Z := Z)) (pe_A (Z := Z)) (pe_A (Z := Z)) hs) fun σ H F O b0 o0 => ⟨env, F, O, _, b0, o0, h, fun v H1 ⟨F1, O1, a1, e1, b1, o1, st1, fr1, q1⟩ => ⟨e1, F1, O1, _, b1, o1, q1, fun x H2 ⟨F2, O2, r, e2, b2, st2, fr2, a, i, p, er, q2⟩ => by
    subst er
    obtain ⟨o2, ev⟩ := st2
    subst ev
    refine ⟨e2, F2, O2, _, b2, o2, q2, fun y H3 ⟨F3, O3, a2, e3, b3, o3, st3, fr3, k, d, ds, ea2, ea1, hg, hz, q3⟩ => ?_⟩
    subst ea1 ea2
    have ey : y = kV k := Rp.key st3
    have rv : Rp F1 v d := st1
    obtain ⟨xs, hH, rx, up⟩ := mutD b3 o3 hg
    obtain ⟨O4, b4, o4, fr4⟩ := up (putK xs k v) (putT2 ds k d) (rx.putAny (rv.mono (fr2.fz.trans fr3.fz)))
    exact ⟨a, _, rfl, .inl ⟨xs, k, hH, ey, by rw [rx.len]; exact hz, rfl⟩, F3, O4, _, b4, o4, (((fr1.trans fr2).trans fr3).trans fr4), q3⟩⟩⟩
theorem RpK.keys {F : Hp} : ∀ {kvs : List (Key × V)} {ds : List (Key × D)}, RpK F kvs (ds.map fun p => (kD p.1, p.2)) → kvs.map (·.1) = ds.map (·.1)
  | [], [], _ => rfl
  | [], q :: ds, r => nomatch r
  | p :: kvs, [], r => nomatch r
  | p :: kvs, q :: ds, r => by
    obtain ⟨k1, v1⟩ := p
    obtain ⟨k2, d2⟩ := q
    have r' : RpK F ((k1, v1) :: kvs) ((kD k2, d2) :: ds.map fun p => (kD p.1, p.2)) := r
    generalize hz : kD k2 = z at r'
    cases r' with
    | cons r1 r2 =>
      have ek : k2 = k1 := kD_inj hz
      subst ek
      rw [List.map_cons, List.map_cons, RpK.keys r2]
def rSortD : List V → Hp → VK → Prop := fun xs H Q => ∃ (a : Addr) (kvs : List (Key × V)) (ks : List Int), xs = [.ref a] ∧ Rd H a (.dK kvs) ∧ kvs.map (·.1) = ks.map Sum.inl ∧ ks.length < 64 ∧
    ∀ (ys : List Int) (p : Addr), ys.Perm ks → ys.Pairwise (· ≤ ·) → H p = none → Q (.ref p) (upd H p (.lst (ys.map V.int)))
theorem w_sortD {p : Pos} (hm : X.mg "sorted" = none) (hc : X.calm = true)
    (h : WA Z X e env fun a e1 => View a e1 fun d => ∃ (ds : List (Key × D)) (ks : List Int), d = .dict (ds.map fun p => (kD p.1, p.2)) ∧ ds.map (·.1) = ks.map Sum.inl ∧ ks.length < 64 ∧ ∀ (ys : List Int) q, ys.Perm ks → ys.Pairwise (· ≤ ·) → P (.t (.lst q (ys.map PyData.int))) e1)
    (hg : Gl X "sorted" := by rfl) (na : starEach [e] X.env = (false, eval e X.env) :: starEach [] X.env := by rfl) : WE Z X (.Call (.Name "sorted" p) [e] [] pos) env P :=
  we_of (pe_callB (r := rSortD) (call_sortedDI hc) hg hm (by rfl) (pa_cons (pe_A (Z := Z)) pa_nil na) (by decide) (by decide) na) fun σ H F O b o =>
    ⟨env, F, O, _, b, o, h, fun v H1 ⟨F1, O1, a1, e1, b1, o1, st, fr, q⟩ => by
      obtain ⟨d, w, ds, ks, rfl, hk, hl, q⟩ := View.vw q o1 st
      have fin : ∀ {a : Addr} {kvs : List (Key × V)}, v = .ref a → Rd H1 a (.dK kvs) → RpK F1 kvs (ds.map fun p => (kD p.1, p.2)) → rSortD [v] H1 (Post Z σ H F O P) := fun {a kvs} ev hr rk => by
        subst ev
        exact ⟨a, kvs, ks, rfl, hr, rk.keys.trans hk, hl, fun ys p2 pm pw hp2 => ((NewV.lst b1.sub (rpa_ints ys) hp2 (k := fun t => t = .lst p2 (ys.map PyData.int)) rfl).post b1 o1 (fun t e => by subst e; exact q ys p2 pm pw)).from fr⟩
      cases w with
      | pure r =>
        cases r with
        | dic hd rk => exact fin rfl (rd_mono b1.sub hd) rk
      | dic hd rk => exact fin rfl (.inl hd) rk⟩
end
end QL

namespace K10
open PySem PySem.Spec PyProof.Rows L2 QL
open LM
/-- what is known of the class -/
structure Txt_Choices (K : PySem.W.Frag) (a : Addr) : Prop where
  cl : Cls K a
  n_count : NoAttr K a "count"
  n_begins_of : NoAttr K a "begins_of"
/-- the choices, as a dict -/
def chK (wd : Int) (ws : List Int) (m : Nat) : List (Key × D) := (List.range m).map fun (j : Nat) => ((.inl ((j + 1 : Nat) : Int) : Key), PyData.list (nDs (chB wd ws (j + 1))))
theorem chK_len (wd : Int) (ws : List Int) (m : Nat) : (chK wd ws m).length = m := by unfold chK; simp
theorem chK_put (wd : Int) (ws : List Int) (m : Nat) : putT2 (chK wd ws m) (.inl ((m + 1 : Nat) : Int)) (.list (nDs (chB wd ws (m + 1)))) = chK wd ws (m + 1) := by
  unfold putT2
  rw [if_neg]
  · unfold chK; rw [List.range_succ, List.map_append]; rfl
  · rw [Bool.not_eq_true, List.any_eq_false]
    intro kv hkv
    unfold chK at hkv
    obtain ⟨j, hj, rfl⟩ := List.mem_map.mp hkv
    have := List.mem_range.mp hj
    rw [decide_eq_true_eq]
    intro z
    have : ((j + 1 : Nat) : Int) = ((m + 1 : Nat) : Int) := Sum.inl.inj z
    omega
theorem chK_at (wd : Int) (ws : List Int) {m e : Nat} (h0 : 0 < e) (h : e ≤ m) : valT (chK wd ws m) (.inl (e : Int)) = some (.list (nDs (chB wd ws e))) := by
  have key : ∀ (l : List Nat), e - 1 ∈ l → (((l.map fun (j : Nat) => ((.inl ((j + 1 : Nat) : Int) : Key), PyData.list (nDs (chB wd ws (j + 1))))).find? fun kv => decide (kv.1 = .inl (e : Int))).map (·.2)) = some (.list (nDs (chB wd ws e))) := fun l => by
    induction l with
    | nil => intro h; exact nomatch h
    | cons x l ih =>
      intro hm
      rw [List.map_cons, List.find?_cons]
      by_cases z : x + 1 = e
      · rw [z]; simp
      · have ne : ¬ ((.inl ((x + 1 : Nat) : Int) : Key) = .inl (e : Int)) := fun y => z (by have : ((x + 1 : Nat) : Int) = (e : Int) := Sum.inl.inj y; omega)
        simp only [ne, decide_false]
        exact ih ((List.mem_cons.mp hm).resolve_left fun y => z (by omega))
  exact key _ (List.mem_range.mpr (by omega))
abbrev choF (wd : Int) (ws : List Int) (m : Nat) (p : Addr) : List (Str × T) := [("count", .va (.int (ws.length : Int))), ("begins_of", .dic p (chK wd ws m))]
def spChInit (aC : Addr) : Spc := fun ts QT _ => ∃ (a : Addr) (wd : Int) (ws : List Int), ts = [.ins a aC [], .va (.int wd), .va (.tuple (iDs ws))] ∧ Wd wd ws ∧ ∀ p, QT (.va .none) [some (.ins a aC (choF wd ws ws.length p)), none, none]
def spWays (aC : Addr) : Spc := fun ts QT _ => ∃ (a : Addr) (wd : Int) (ws : List Int) (p : Addr), ts = [.ins a aC (choF wd ws ws.length p)] ∧ Wd wd ws ∧ ∀ pf, QT (.lst pf (iDs (wyL wd ws ws.length))) [some (.ins a aC (choF wd ws ws.length p))]
def spCount : Spc := fun ts QT _ => ∃ (wd : Int) (ws : List Int), ts = [.va (.int wd), .va (.tuple (iDs ws))] ∧ Wd wd ws ∧ QT (.va (.int (cntB wd ws))) [none, none]
theorem wyL_at {wd : Int} {ws : List Int} {m b : Nat} (h : b ≤ m) : atI (iDs (wyL wd ws m)) (b : Int) = some (.int ((wyL wd ws m).getD b 0)) := by
  have hl := wyL_len wd ws m
  refine atI_nat ?_
  rw [iDs, List.getElem?_map, List.getElem?_eq_getElem (by omega), List.getD_eq_getElem?_getD, List.getElem?_eq_getElem (by omega)]
  rfl
theorem wyL_last (wd : Int) (ws : List Int) : atI (iDs (wyL wd ws ws.length)) (-1) = some (.int (cntB wd ws)) := by
  have hl := wyL_len wd ws ws.length
  refine atI_last' ?_
  unfold cntB
  rw [iDs, List.getLast?_map, List.getLast?_eq_getElem?, hl, Nat.add_sub_cancel, List.getD_eq_getElem?_getD, List.getElem?_eq_getElem (by omega)]
  rfl
theorem wyL_snoc (wd : Int) (ws : List Int) (m : Nat) : iDs (wyL wd ws m) ++ [PyData.int ((chB wd ws (m + 1)).map fun b => (wyL wd ws m).getD b 0).sum] = iDs (wyL wd ws (m + 1)) := by
  rw [wyL]
  show _ = List.map PyData.int (_ ++ _)
  rw [List.map_append]; rfl
theorem chB_len {wd : Int} {ws : List Int} {e : Nat} : (chB wd ws e).length ≤ e := Nat.le_trans (List.length_filter_le _ _) bg_len
section
variable {P : Program} {w : World} {K : PySem.W.Frag} {mg : Str → Option Value} {base : Heap} {Tq : List (Addr × Str)}
abbrev N_Choices___init__ : List Str := ["self", "width", "text", "table", "end", "goal", "is_last", "some", "begin", "square"]
theorem sc_Choices___init__ : FnScope N_Choices___init__ ["self", "width", "text"] (defScope (inClass (topS 6) 0)) := ⟨rfl, rfl, rfl, by decide +kernel, rfl, by decide +kernel, by decide +kernel⟩
theorem g_Choices___init__ {f : Addr} {fd : FuncData} {k : Nat} {aChoices : Addr} {aTable : Addr} (Fn : Fun K "__init__" "Choices.__init__" (inClass (topS 6) 0) f fd) (TX_Table : Txt_Table K aTable) (TX : Txt_Choices K aChoices) (M_begins : Mf P w K mg base Tq k aTable "begins" ["self", "end"] (spBegins aTable)) (M_last_start : Mf P w K mg base Tq k aTable "last_start" ["self"] (spLast aTable)) (M_square : Mf P w K mg base Tq k aTable "square" ["self", "begin", "end"] (spSquare aTable)) (C_Table : Ck P w K mg base Tq k "Table" aTable ["self", "width", "text"] (spInit aTable)) (m_len : mg "len" = none) (m_range : mg "range" = none) : FnG P w K mg base Tq (k + 2) f fd ["self", "width", "text"] (spChInit aChoices) := by
  have M_begins := M_begins.mono (Nat.le_succ k)
  have M_last_start := M_last_start.mono (Nat.le_succ k)
  have M_square := M_square.mono (Nat.le_succ k)
  refine fn_g Fn sc_Choices___init__ (fun ts Q E h => ?_) fun cdv A outer s H E Z ts QT ET hr hgd hp tk h => ?_
  · obtain ⟨a, wd, ws, rfl, W, q⟩ := h; rfl
  · obtain ⟨a, wd, ws, rfl, W, q⟩ := h
    have hlen := W.len
    have hnl : (iDs ws).length = ws.length := List.length_map _
    -- line 46
    refine wss_cons (ws_set 3 (w_make C_Table hr hgd ⟨rfl, (w_var 1 ⟨rfl, (w_var 2 fun aT => ⟨_, wd, ws, rfl, W, fun pc pb => ⟨rfl, rfl, ⟨Nat.lt_of_sub_eq_succ rfl, ?_⟩⟩⟩)⟩)⟩) sc_Choices___init__.nd)
    -- line 47
    refine wss_cons (ws_fld 0 (w_callB dc_len m_len rfl ⟨rfl, (w_var 2 ⟨rfl, ⟨⟨TX.cl, TX.n_count, Nat.lt_of_sub_eq_succ rfl⟩, ?_⟩⟩)⟩))
    show WSs _ _ _ [some (.ins a aChoices [("count", .va (.int ((iDs ws).length : Int)))]), some (.va (.int wd)), some (.va (.tuple (iDs ws))), some (.ins aT aTable (tabF wd ws ws.length pc pb)), none, none, none, none, none, none] _
    rw [hnl]
    -- line 48
    refine wss_cons (ws_fld 0 (w_dict0 fun p1 => ⟨⟨TX.cl, TX.n_begins_of, Nat.lt_of_sub_eq_succ rfl⟩, ?_⟩))
    -- line 49
    refine wss_one (ws_for hp rfl (pg_name (i := 4) sc_Choices___init__.nd rfl (by first | exact Or.inl rfl | exact Or.inr rfl)) (gok_name 4) (wi_range2 m_range ⟨rfl, (w_int ⟨rfl, (w_bin dop_add (w_fld (w_var 0 ⟨rfl, ⟨TX.cl, TX.n_count⟩, (w_int ⟨rfl, rfl, ⟨rfl, rfl, ⟨by omega, by omega, by omega, by omega⟩, ?_⟩⟩)⟩)))⟩)⟩))
    rw [show ((((ws.length : Nat) : Int) + 1 - 1).toNat) = ws.length by omega]
    refine ⟨fun j e => ∃ o4 o5 o6 o7, e = [some (.ins a aChoices (choF wd ws j p1)), some (.va (.int wd)), some (.va (.tuple (iDs ws))), some (.ins aT aTable (tabF wd ws ws.length pc pb)), o4, o5, o6, o7, none, none], ⟨none, none, none, none, rfl⟩, ?_, ?_⟩
    · rintro j x e hd ⟨o4, o5, o6, o7, rfl⟩
      obtain ⟨rfl, hj⟩ := rangeD_at hd
      rw [show ((1 : Int) + (j : Int)) = ((j + 1 : Nat) : Int) by omega]
      have hbl := bg_len (wd := wd) (ws := ws) (e := j + 1)
      have hls := LS_le W
      have hkl := chK_len wd ws j
      have hpu := chK_put wd ws j
      refine ⟨Nat.lt_of_sub_eq_succ rfl, ?_⟩
      -- line 50
      refine wss_cons (ws_asg (pg_tup (by rfl) (pgs_cons (pg_name (i := 5) sc_Choices___init__.nd rfl (by first | exact Or.inl rfl | exact Or.inr rfl)) (pgs_cons (pg_name (i := 6) sc_Choices___init__.nd rfl (by first | exact Or.inl rfl | exact Or.inr rfl)) (pgs_nil)))) (gok_tup (gsok_cons (gok_name 5) (gsok_cons (gok_name 6) (gsok_nil)))) (w_tup ⟨rfl, (w_ix (w_fld (w_var 3 ⟨rfl, ⟨TX_Table.cl, TX_Table.n_costs⟩, (w_var 4 ⟨rfl, rfl, _, (csL_at (by omega)), ⟨rfl, (w_cmp (dop_eq (room64 hr)) (w_var 4 (w_fld (w_var 0 ⟨rfl, ⟨TX.cl, TX.n_count⟩, ⟨rfl, rfl, ⟨(by first | decide | (simp only [List.length_append, List.length_map, List.length_cons, List.length_nil, List.length_singleton, List.length_replicate, List.length_range, List.length_take, List.length_drop, List.length_dropLast, List.length_reverse, Bool.false_eq_true, eq_self, reduceIte, sizeLine_eq]; omega)), ⟨_, rfl, rfl, ⟨Nat.lt_of_sub_eq_succ rfl, ⟨Nat.lt_of_sub_eq_succ rfl, ⟨rfl, ?_⟩⟩⟩⟩⟩⟩⟩))))⟩⟩)⟩)))⟩))
      by_cases he : j + 1 = ws.length
      · have hdec : decide (((j + 1 : Nat) : Int) = (ws.length : Int)) = true := decide_eq_true (by omega)
        have eg : glC wd ws (j + 1) = C wd ws (LS wd ws) := by unfold glC; rw [if_pos he]
        have es : ∀ b, szC wd ws (j + 1) b = 0 := fun b => by unfold szC; rw [if_pos he]
        -- line 51
        refine wss_cons (ws_if (wt_val (w_var 6 ⟨_, rfl, ⟨fun h => ?_, fun h => ?_⟩⟩)))
        · skip
          -- line 52
          refine wss_one (ws_set 5 (w_ix (w_fld (w_var 3 ⟨rfl, ⟨TX_Table.cl, TX_Table.n_costs⟩, (w_meth0 M_last_start hr hgd (w_var 3 ⟨⟨rfl, rfl, rfl⟩, ⟨rfl, ⟨_, _, _, _, _, rfl, (by first | assumption | omega | decide), ⟨rfl, rfl, ⟨rfl, rfl, _, (csL_at hls), ⟨Nat.lt_of_sub_eq_succ rfl, ?_⟩⟩⟩⟩⟩⟩))⟩))) sc_Choices___init__.nd)
          -- line 53
          refine wss_cons (ws_setLc 7 (own := [("begin", 8)]) rfl sc_Choices___init__.nd (blkOk_by (N := N_Choices___init__) (sc := defScope (inClass (topS 6) 0)) (by decide +kernel)) (fun _ _ _ _ _ => pg_name (i := 8) sc_Choices___init__.nd rfl (by first | exact Or.inl rfl | exact Or.inr rfl)) (gok_name 8) (by decide) (wi_list (w_meth M_begins hr hgd (w_var 3 ⟨⟨rfl, rfl, rfl⟩, ⟨rfl, (w_var 4 ⟨rfl, ⟨_, _, _, _, _, _, _, rfl, (by first | assumption | omega | decide), (by first | assumption | omega | decide), fun p_3 => ⟨rfl, rfl, (lc_map fm_name (fun (b : Nat) => PyData.int b) (bg wd ws (j + 1)) (fun (b : Nat) => PyData.tuple [.int (b : Int), .int (szC wd ws (j + 1) b)]) _ rfl (rfl) (by simp only [sizeLine_eq]; omega) (fun k2 b hx => by have hm := (bg_mem W (e := j + 1) (by omega)).mp (List.mem_of_getElem? hx); exact ⟨Nat.lt_of_sub_eq_succ rfl, fun s2 H2 C2 cl2 fp2 => (w_tup ⟨rfl, (w_var 8 ⟨rfl, (w_ifExp (wt_val (w_var 6 ⟨_, rfl, ⟨fun h => (w_int ⟨(Nat.le_of_lt (small2000 (n := 2) (by decide))), ⟨by rw [es], rfl⟩⟩), fun h => absurd h (by rw [hdec]; decide)⟩⟩)))⟩)⟩)⟩) (fun p2 => ⟨Nat.lt_of_sub_eq_succ rfl, ?_⟩))⟩⟩⟩)⟩⟩))))
          -- line 54
          refine wss_one (ws_dput (by have := room64 hr; omega) (w_lcIf (own := [("begin", 8), ("square", 9)]) rfl sc_Choices___init__.nd (blkOk_by (N := N_Choices___init__) (sc := defScope (inClass (topS 6) 0)) (by decide +kernel)) (fun _ _ _ _ _ => pg_tup (by rfl) (pgs_cons (pg_name (i := 8) sc_Choices___init__.nd rfl (by first | exact Or.inl rfl | exact Or.inr rfl)) (pgs_cons (pg_name (i := 9) sc_Choices___init__.nd rfl (by first | exact Or.inl rfl | exact Or.inr rfl)) (pgs_nil)))) (gok_tup (gsok_cons (gok_name 8) (gsok_cons (gok_name 9) (gsok_nil)))) (by decide) (wi_list (w_var 7 ⟨rfl, (lc_filt fm_tup2 (fun (b : Nat) => PyData.tuple [.int (b : Int), .int (szC wd ws (j + 1) b)]) (bg wd ws (j + 1)) (fun b => decide (C wd ws b + szC wd ws (j + 1) b = glC wd ws (j + 1))) (fun (b : Nat) => PyData.int b) _ rfl (rfl) (by simp only [sizeLine_eq]; omega) (fun k2 b hx => by have hm := (bg_mem W (e := j + 1) (by omega)).mp (List.mem_of_getElem? hx); exact ⟨rfl, ⟨Nat.lt_of_sub_eq_succ rfl, ⟨Nat.lt_of_sub_eq_succ rfl, ⟨rfl, fun s2 H2 C2 cl2 fp2 => (wt_cmp (dop_eq (room64 hr)) (w_bin dop_add (w_ix (w_fld (w_var 3 ⟨rfl, ⟨TX_Table.cl, TX_Table.n_costs⟩, (w_var 8 ⟨rfl, rfl, _, (csL_at (by omega)), (w_var 9 ⟨rfl, rfl, (w_var 5 ⟨rfl, rfl, _, rfl, ⟨(by rw [eg]), fun ht s3 H3 C3 cl3 fp3 => (w_var 8 ⟨rfl, rfl⟩), fun ht => rfl⟩⟩)⟩)⟩)⟩)))))⟩⟩⟩⟩) (fun p3 => (w_fld (w_var 0 ⟨rfl, ⟨TX.cl, TX.n_begins_of⟩, ⟨_, _, _, rfl, (w_var 4 ⟨.inl _, _, _, rfl, rfl, rfl, (by rw [hkl, sizeLine_eq]; omega), ?_⟩)⟩⟩))))⟩))))
          refine ⟨some (.va (.int ((j + 1 : Nat) : Int))), some (.va (.int (C wd ws (LS wd ws)))), some (.va (.bool (decide (((j + 1 : Nat) : Int) = (ws.length : Int))))), some (.va (.list ((bg wd ws (j + 1)).map fun (b : Nat) => PyData.tuple [.int (b : Int), .int (szC wd ws (j + 1) b)]))), ?_⟩
          unfold choF
          rw [← hpu]
          rfl
        · exact absurd h (by rw [hdec]; decide)
      · have hdec : decide (((j + 1 : Nat) : Int) = (ws.length : Int)) = false := decide_eq_false (by omega)
        have eg : glC wd ws (j + 1) = C wd ws (j + 1) := by unfold glC; rw [if_neg he]
        have es : ∀ b, szC wd ws (j + 1) b = sq wd ws b (j + 1) := fun b => by unfold szC; rw [if_neg he]
        -- line 51
        refine wss_cons (ws_if (wt_val (w_var 6 ⟨_, rfl, ⟨fun h => ?_, fun h => ?_⟩⟩)))
        · exact absurd h (by rw [hdec]; decide)
        · refine wss_nil ?_
          -- line 53
          refine wss_cons (ws_setLc 7 (own := [("begin", 8)]) rfl sc_Choices___init__.nd (blkOk_by (N := N_Choices___init__) (sc := defScope (inClass (topS 6) 0)) (by decide +kernel)) (fun _ _ _ _ _ => pg_name (i := 8) sc_Choices___init__.nd rfl (by first | exact Or.inl rfl | exact Or.inr rfl)) (gok_name 8) (by decide) (wi_list (w_meth M_begins hr hgd (w_var 3 ⟨⟨rfl, rfl, rfl⟩, ⟨rfl, (w_var 4 ⟨rfl, ⟨_, _, _, _, _, _, _, rfl, (by first | assumption | omega | decide), (by first | assumption | omega | decide), fun p_4 => ⟨rfl, rfl, (lc_map fm_name (fun (b : Nat) => PyData.int b) (bg wd ws (j + 1)) (fun (b : Nat) => PyData.tuple [.int (b : Int), .int (szC wd ws (j + 1) b)]) _ rfl (rfl) (by simp only [sizeLine_eq]; omega) (fun k2 b hx => by have hm := (bg_mem W (e := j + 1) (by omega)).mp (List.mem_of_getElem? hx); exact ⟨Nat.lt_of_sub_eq_succ rfl, fun s2 H2 C2 cl2 fp2 => (w_tup ⟨rfl, (w_var 8 ⟨rfl, (w_ifExp (wt_val (w_var 6 ⟨_, rfl, ⟨fun h => absurd h (by rw [hdec]; decide), fun h => (w_meth M_square hr hgd (w_var 3 ⟨⟨rfl, rfl, rfl⟩, ⟨rfl, (w_var 8 ⟨rfl, (w_var 4 ⟨rfl, ⟨_, _, _, _, _, _, _, _, rfl, (by first | assumption | omega | decide), (by first | assumption | omega | decide), (by first | assumption | omega | decide), ⟨rfl, rfl, ⟨(Nat.le_of_lt (small2000 (n := 2) (by decide))), ⟨by rw [es], rfl⟩⟩⟩⟩⟩)⟩)⟩⟩))⟩⟩)))⟩)⟩)⟩) (fun p4 => ⟨Nat.lt_of_sub_eq_succ rfl, ?_⟩))⟩⟩⟩)⟩⟩))))
          -- line 54
          refine wss_one (ws_dput (by have := room64 hr; omega) (w_lcIf (own := [("begin", 8), ("square", 9)]) rfl sc_Choices___init__.nd (blkOk_by (N := N_Choices___init__) (sc := defScope (inClass (topS 6) 0)) (by decide +kernel)) (fun _ _ _ _ _ => pg_tup (by rfl) (pgs_cons (pg_name (i := 8) sc_Choices___init__.nd rfl (by first | exact Or.inl rfl | exact Or.inr rfl)) (pgs_cons (pg_name (i := 9) sc_Choices___init__.nd rfl (by first | exact Or.inl rfl | exact Or.inr rfl)) (pgs_nil)))) (gok_tup (gsok_cons (gok_name 8) (gsok_cons (gok_name 9) (gsok_nil)))) (by decide) (wi_list (w_var 7 ⟨rfl, (lc_filt fm_tup2 (fun (b : Nat) => PyData.tuple [.int (b : Int), .int (szC wd ws (j + 1) b)]) (bg wd ws (j + 1)) (fun b => decide (C wd ws b + szC wd ws (j + 1) b = glC wd ws (j + 1))) (fun (b : Nat) => PyData.int b) _ rfl (rfl) (by simp only [sizeLine_eq]; omega) (fun k2 b hx => by have hm := (bg_mem W (e := j + 1) (by omega)).mp (List.mem_of_getElem? hx); exact ⟨rfl, ⟨Nat.lt_of_sub_eq_succ rfl, ⟨Nat.lt_of_sub_eq_succ rfl, ⟨rfl, fun s2 H2 C2 cl2 fp2 => (wt_cmp (dop_eq (room64 hr)) (w_bin dop_add (w_ix (w_fld (w_var 3 ⟨rfl, ⟨TX_Table.cl, TX_Table.n_costs⟩, (w_var 8 ⟨rfl, rfl, _, (csL_at (by omega)), (w_var 9 ⟨rfl, rfl, (w_var 5 ⟨rfl, rfl, _, rfl, ⟨(by rw [eg]), fun ht s3 H3 C3 cl3 fp3 => (w_var 8 ⟨rfl, rfl⟩), fun ht => rfl⟩⟩)⟩)⟩)⟩)))))⟩⟩⟩⟩) (fun p5 => (w_fld (w_var 0 ⟨rfl, ⟨TX.cl, TX.n_begins_of⟩, ⟨_, _, _, rfl, (w_var 4 ⟨.inl _, _, _, rfl, rfl, rfl, (by rw [hkl, sizeLine_eq]; omega), ?_⟩)⟩⟩))))⟩))))
          refine ⟨some (.va (.int ((j + 1 : Nat) : Int))), some (.va (.int (C wd ws (j + 1)))), some (.va (.bool (decide (((j + 1 : Nat) : Int) = (ws.length : Int))))), some (.va (.list ((bg wd ws (j + 1)).map fun (b : Nat) => PyData.tuple [.int (b : Int), .int (szC wd ws (j + 1) b)]))), ?_⟩
          unfold choF
          rw [← hpu]
          rfl
    · rintro e ⟨o4, o5, o6, o7, rfl⟩
      rw [rangeD_len]
      exact ⟨rfl, q _⟩
abbrev N_Choices_ways : List Str := ["self", "found", "end", "begin"]
theorem sc_Choices_ways : FnScope N_Choices_ways ["self"] (defScope (inClass (topS 6) 1)) := ⟨rfl, rfl, rfl, by decide +kernel, rfl, by decide +kernel, by decide +kernel⟩
theorem g_Choices_ways {f : Addr} {fd : FuncData} {k : Nat} {aChoices : Addr} (Fn : Fun K "ways" "Choices.ways" (inClass (topS 6) 1) f fd) (TX : Txt_Choices K aChoices) (m_range : mg "range" = none) (m_sum : mg "sum" = none) : FnG P w K mg base Tq (k + 1) f fd ["self"] (spWays aChoices) := by
  refine fn_g Fn sc_Choices_ways (fun ts Q E h => ?_) fun cdv A outer s H E Z ts QT ET hr hgd hp tk h => ?_
  · obtain ⟨a, wd, ws, p, rfl, W, q⟩ := h; rfl
  · obtain ⟨a, wd, ws, p, rfl, W, q⟩ := h
    have hlen := W.len
    -- line 57
    refine wss_cons (ws_set 1 (w_lst ⟨rfl, (w_int ⟨(by first | decide | (simp only [List.length_append, List.length_map, List.length_cons, List.length_nil, List.length_singleton, List.length_replicate, List.length_range, List.length_take, List.length_drop, List.length_dropLast, List.length_reverse, Bool.false_eq_true, eq_self, reduceIte, sizeLine_eq]; omega)), fun p1 => ⟨Nat.lt_of_sub_eq_succ rfl, ?_⟩⟩)⟩) sc_Choices_ways.nd)
    -- line 58
    refine wss_cons (ws_for hp rfl (pg_name (i := 2) sc_Choices_ways.nd rfl (by first | exact Or.inl rfl | exact Or.inr rfl)) (gok_name 2) (wi_range2 m_range ⟨rfl, (w_int ⟨rfl, (w_bin dop_add (w_fld (w_var 0 ⟨rfl, ⟨TX.cl, TX.n_count⟩, (w_int ⟨rfl, rfl, ⟨rfl, rfl, ⟨by omega, by omega, by omega, by omega⟩, ?_⟩⟩)⟩)))⟩)⟩))
    rw [show ((((ws.length : Nat) : Int) + 1 - 1).toNat) = ws.length by omega]
    refine ⟨fun j e => ∃ o2, e = [some (.ins a aChoices (choF wd ws ws.length p)), some (.lst p1 (iDs (wyL wd ws j))), o2, none], ⟨none, rfl⟩, ?_, ?_⟩
    · rintro j x e hd ⟨o2, rfl⟩
      obtain ⟨rfl, hj⟩ := rangeD_at hd
      rw [show ((1 : Int) + (j : Int)) = ((j + 1 : Nat) : Int) by omega]
      have hwl := wyL_len wd ws j
      have hcl := chB_len (wd := wd) (ws := ws) (e := j + 1)
      have hat := chK_at wd ws (m := ws.length) (e := j + 1) (by omega) (by omega)
      refine ⟨Nat.lt_of_sub_eq_succ rfl, ?_⟩
      -- line 59
      refine wss_one (ws_expr (w_append (w_var 1 ⟨_, _, _, _, rfl, rfl, (w_callB (dc_sumA rfl) m_sum rfl ⟨rfl, (w_lc (own := [("begin", 3)]) rfl sc_Choices_ways.nd (blkOk_by (N := N_Choices_ways) (sc := defScope (inClass (topS 6) 1)) (by decide +kernel)) (fun _ _ _ _ _ => pg_name (i := 3) sc_Choices_ways.nd rfl (by first | exact Or.inl rfl | exact Or.inr rfl)) (gok_name 3) (by decide) (wi_list (w_dix (by have := room64 hr; omega) (w_fld (w_var 0 ⟨rfl, ⟨TX.cl, TX.n_begins_of⟩, (w_var 2 ⟨rfl, rfl, _, .inl _, _, rfl, rfl, hat, (lc_map fm_name (fun (b : Nat) => PyData.int b) (chB wd ws (j + 1)) (fun (b : Nat) => PyData.int ((wyL wd ws j).getD b 0)) _ rfl (rfl) (by rw [sizeLine_eq]; omega) (fun k2 b hx => by have hm := (chB_lt W (by omega) (List.mem_of_getElem? hx)).1; exact ⟨Nat.lt_of_sub_eq_succ rfl, fun s2 H2 C2 cl2 fp2 => (w_ix (w_var 1 (w_var 3 ⟨rfl, rfl, _, (wyL_at (by omega)), ⟨rfl, rfl⟩⟩)))⟩) (fun p2 => ⟨rfl, ⟨_, (.inl (congrArg (fun z => [PyData.list z]) (show ((chB wd ws (j + 1)).map fun b => PyData.int ((wyL wd ws j).getD b 0)) = iDs ((chB wd ws (j + 1)).map fun b => (wyL wd ws j).getD b 0) by rw [iDs, List.map_map]; rfl))), ⟨_, _, rfl, rfl, (by rw [List.length_map, hwl, sizeLine_eq]; omega), ?_⟩⟩⟩))⟩)⟩)))))⟩)⟩)))
      exact ⟨_, by rw [← wyL_snoc]; rfl⟩
    · rintro e ⟨o2, rfl⟩
      rw [rangeD_len]
      -- line 60
      refine wss_one (ws_ret (w_var 1 ⟨rfl, ?_⟩))
      exact ⟨rfl, q _⟩
abbrev N_count_best : List Str := ["width", "text"]
theorem sc_count_best : FnScope N_count_best ["width", "text"] (defScope (topS 7)) := ⟨rfl, rfl, rfl, by decide +kernel, rfl, by decide +kernel, by decide +kernel⟩
theorem g_count_best {f : Addr} {fd : FuncData} {k : Nat} {aChoices : Addr} (Fn : Fun K "count_best" "count_best" (topS 7) f fd) (M_ways : Mf P w K mg base Tq k aChoices "ways" ["self"] (spWays aChoices)) (C_Choices : Ck P w K mg base Tq k "Choices" aChoices ["self", "width", "text"] (spChInit aChoices)) : FnG P w K mg base Tq (k + 2) f fd ["width", "text"] spCount := by
  have M_ways := M_ways.mono (Nat.le_succ k)
  refine fn_g Fn sc_count_best (fun ts Q E h => ?_) fun cdv A outer s H E Z ts QT ET hr hgd hp tk h => ?_
  · obtain ⟨wd, ws, rfl, W, q⟩ := h; rfl
  · obtain ⟨wd, ws, rfl, W, q⟩ := h
    have hat := wyL_last wd ws
    -- line 71
    refine wss_one (ws_ret (w_ix (w_methT0 M_ways hr hgd (w_make C_Choices hr hgd ⟨rfl, (w_var 0 ⟨rfl, (w_var 1 fun pN1 => ⟨_, wd, ws, rfl, W, fun p => ⟨rfl, rfl, ⟨⟨rfl, rfl⟩, ⟨_, wd, ws, _, rfl, W, fun pf => (w_neg (w_int ⟨rfl, ⟨rfl, rfl, _, hat, ?_⟩⟩))⟩⟩⟩⟩)⟩)⟩))))
    exact q
end
end K10

/-! LZd: the numbers of ways: bounds; words of one length in lines of three. -/
namespace LM
open PySem
theorem sum_map_le {α : Type} {f g : α → Int} : ∀ {l : List α}, (∀ x ∈ l, f x ≤ g x) → (l.map f).sum ≤ (l.map g).sum
  | [], _ => Int.le_refl _
  | x :: l, h => by
    have h1 := h x List.mem_cons_self
    have h2 := sum_map_le (l := l) fun y hy => h y (List.mem_cons_of_mem _ hy)
    simp only [List.map_cons, List.sum_cons]; omega
theorem sum_nn : ∀ {l : List Int}, (∀ x ∈ l, 0 ≤ x) → 0 ≤ l.sum
  | [], _ => Int.le_refl _
  | x :: l, h => by
    have h1 := h x List.mem_cons_self
    have h2 := sum_nn (l := l) fun y hy => h y (List.mem_cons_of_mem _ hy)
    simp only [List.sum_cons]; omega
theorem sum_filter_le {α : Type} {f : α → Int} {p : α → Bool} : ∀ {l : List α}, (∀ x ∈ l, 0 ≤ f x) → ((l.filter p).map f).sum ≤ (l.map f).sum
  | [], _ => Int.le_refl _
  | x :: l, h => by
    have h1 := h x List.mem_cons_self
    have h2 := sum_filter_le (p := p) (l := l) fun y hy => h y (List.mem_cons_of_mem _ hy)
    rw [List.filter_cons]
    split
    · simp only [List.map_cons, List.sum_cons]; omega
    · simp only [List.map_cons, List.sum_cons]; omega
theorem pow2_nn (e : Nat) : (0 : Int) < 2 ^ e := Int.pow_pos (by decide)
theorem bgF_pow (wd : Int) (ws : List Int) (e : Nat) : ∀ m, ((bgF wd ws e m).map fun (b : Nat) => (2 : Int) ^ b).sum ≤ 2 ^ m - 1
  | 0 => by simp [bgF]
  | m + 1 => by
    have h := bgF_pow wd ws e m
    have hp := pow2_nn m
    rw [Int.pow_succ]
    unfold bgF
    split
    · simp only [List.map_cons, List.sum_cons]; omega
    · simp only [List.map_nil, List.sum_nil]; omega
theorem wyN_bd {wd : Int} {ws : List Int} (W : Wd wd ws) : ∀ e, e ≤ ws.length → 0 ≤ wyN wd ws e ∧ wyN wd ws e ≤ 2 ^ e := fun e => by
  induction e using Nat.strongRecOn with
  | _ e ih =>
    intro he
    cases e with
    | zero => rw [wyN_zero]; decide
    | succ e =>
      rw [wyN_succ W he]
      have hm : ∀ b ∈ chB wd ws (e + 1), 0 ≤ wyN wd ws b ∧ wyN wd ws b ≤ 2 ^ b := fun b hb => by
        have := (chB_lt W he hb).1
        exact ih b this (by omega)
      refine ⟨sum_nn fun x hx => ?_, ?_⟩
      · obtain ⟨b, hb, rfl⟩ := List.mem_map.mp hx
        exact (hm b hb).1
      · have h1 := sum_map_le (l := chB wd ws (e + 1)) fun b hb => (hm b hb).2
        have h2 : ((chB wd ws (e + 1)).map fun (b : Nat) => (2 : Int) ^ b).sum ≤ ((bg wd ws (e + 1)).map fun (b : Nat) => (2 : Int) ^ b).sum := sum_filter_le fun b _ => Int.le_of_lt (pow2_nn b)
        have h3 := bgF_pow wd ws (e + 1) (e + 1)
        have h4 : ((bg wd ws (e + 1)).map fun (b : Nat) => (2 : Int) ^ b).sum ≤ 2 ^ (e + 1) - 1 := h3
        exact Int.le_trans h1 (Int.le_trans h2 (by omega))
/-! ### the sum, begun at the end -/
def cdC (wd : Int) (ws : List Int) (e b : Nat) : Bool := decide (C wd ws b + szC wd ws e b = glC wd ws e)
def fsC (wd : Int) (ws : List Int) (e m : Nat) : Int := (((bgF wd ws e m).filter (cdC wd ws e)).map (wyN wd ws)).sum
theorem fsC_all {wd : Int} {ws : List Int} (W : Wd wd ws) {e : Nat} (he : e + 1 ≤ ws.length) : fsC wd ws (e + 1) (e + 1) = wyN wd ws (e + 1) := by
  rw [wyN_succ W he]; rfl
theorem fsC_none {wd : Int} {ws : List Int} {e m : Nat} (h : m = 0 ∨ wd < ln ws (m - 1) e) : fsC wd ws e m = 0 := by
  unfold fsC
  cases m with
  | zero => rfl
  | succ m =>
    have : ¬ ln ws m e ≤ wd := by
      rcases h with h | h
      · omega
      · rw [Nat.add_sub_cancel] at h; omega
    rw [bgF, if_neg this]; rfl
theorem fsC_step {wd : Int} {ws : List Int} {e m : Nat} (h : ln ws m e ≤ wd) : fsC wd ws e (m + 1) = (if cdC wd ws e m = true then wyN wd ws m else 0) + fsC wd ws e m := by
  unfold fsC
  rw [bgF, if_pos h, List.filter_cons]
  split
  · simp
  · simp
/-! ### words of one letter, one of six behind; the width 6 -/
abbrev onesT (k : Nat) : List Int := List.replicate k 1 ++ [6]
theorem on_len (k : Nat) : (onesT k).length = k + 1 := by simp
theorem on_W {k : Nat} (hk : k ≤ 900) : Wd 6 (onesT k) := ⟨by decide, by decide, by rw [on_len]; omega, fun x hx => by
  rcases List.mem_append.mp hx with z | z
  · rw [(List.mem_replicate.mp z).2]; decide
  · rw [List.mem_singleton.mp z]; decide⟩
theorem on_sm {k j : Nat} (h : j ≤ k) : sm (onesT k) j = 2 * j := by
  rw [sm_eq _ (by rw [on_len]; omega), List.take_append_of_le_length (by simp; exact h), List.take_replicate]
  have : (List.replicate (min j k) (1 : Int)).sum = j := by rw [List.sum_replicate_int]; omega
  omega
theorem on_smE (k : Nat) : sm (onesT k) (k + 1) = 2 * k + 7 := by
  rw [sm_eq _ (by rw [on_len]; exact Nat.le_refl _), List.take_of_length_le (by rw [on_len]; exact Nat.le_refl _), List.sum_append_int, List.sum_replicate_int]
  simp; omega
theorem on_ln {k i j : Nat} (h1 : i ≤ j) (h2 : j ≤ k) : ln (onesT k) i j = 2 * ((j - i : Nat) : Int) - 1 := by
  unfold ln
  rw [on_sm h2, on_sm (Nat.le_trans h1 h2)]; omega
theorem on_lnE {k i : Nat} (h : i ≤ k) : ln (onesT k) i (k + 1) = 2 * ((k - i : Nat) : Int) + 6 := by
  unfold ln
  rw [on_smE, on_sm h]; omega
theorem on_sq {k b e d : Nat} (h : e = b + d) (h2 : e ≤ k) : sq 6 (onesT k) b e = (7 - 2 * (d : Int)) ^ 2 := by
  unfold sq
  rw [on_ln (by omega) h2, show e - b = d by omega]
  congr 1; omega
theorem on_C {k : Nat} (hk : k ≤ 900) : ∀ a : Nat, (3 * a ≤ k → C 6 (onesT k) (3 * a) = a) ∧ (3 * a + 1 ≤ k → C 6 (onesT k) (3 * a + 1) = if a = 0 then 25 else (a : Int) + 17) ∧ (3 * a + 2 ≤ k → C 6 (onesT k) (3 * a + 2) = (a : Int) + 9) := by
  have W := on_W hk
  have s1 : ∀ b, b + 1 ≤ k → sq 6 (onesT k) b (b + 1) = 25 := fun b h => on_sq (d := 1) rfl h
  have s2 : ∀ b, b + 2 ≤ k → sq 6 (onesT k) b (b + 2) = 9 := fun b h => on_sq (d := 2) rfl h
  have s3 : ∀ b, b + 3 ≤ k → sq 6 (onesT k) b (b + 3) = 1 := fun b h => on_sq (d := 3) rfl h
  have hl := on_len k
  -- one step: the value is one of three, and the least
  have stp : ∀ e, 0 < e → e ≤ k → (∃ d b, 1 ≤ d ∧ d ≤ 3 ∧ e = b + d ∧ C 6 (onesT k) e = C 6 (onesT k) b + sq 6 (onesT k) b e) ∧ ∀ d b, 1 ≤ d → d ≤ 3 → e = b + d → C 6 (onesT k) e ≤ C 6 (onesT k) b + sq 6 (onesT k) b e := fun e h0 he => by
    obtain ⟨b1, b2, b3, _, b4⟩ := CB_at W h0 (by omega)
    refine ⟨⟨e - B 6 (onesT k) e, B 6 (onesT k) e, by omega, ?_, by omega, b3⟩, fun d b d1 d2 hd => ?_⟩
    · rw [on_ln (by omega) he] at b2; omega
    · have := b4 b (by omega) (by rw [on_ln (by omega) he]; omega)
      omega
  have one : ∀ e x1 x2 x3 v : Int, True := fun _ _ _ _ _ => trivial
  intro a
  induction a with
  | zero =>
    have c0 : C 6 (onesT k) 0 = 0 := C0 _ _
    have h1 : 1 ≤ k → C 6 (onesT k) 1 = 25 := fun h => by
      obtain ⟨⟨d, b, d1, d2, hd, hc⟩, _⟩ := stp 1 (by omega) h
      have : b = 0 := by omega
      subst this
      rw [hc, c0, s1 0 h]; rfl
    refine ⟨fun _ => c0, fun h => h1 h, fun h => ?_⟩
    obtain ⟨⟨d, b, d1, d2, hd, hc⟩, hm⟩ := stp 2 (by omega) h
    have m2 := hm 2 0 (by omega) (by omega) rfl
    rw [c0, s2 0 h] at m2
    show C 6 (onesT k) 2 = 0 + 9
    rcases (show b = 0 ∨ b = 1 by omega) with e | e
    · subst e; rw [hc, c0, s2 0 h]
    · subst e; rw [hc, h1 (by omega), s1 1 h] at m2; omega
  | succ a ih =>
    obtain ⟨i0, i1, i2⟩ := ih
    have e3 : 3 * (a + 1) = 3 * a + 2 + 1 := by omega
    have h0 : 3 * (a + 1) ≤ k → C 6 (onesT k) (3 * (a + 1)) = ((a + 1 : Nat) : Int) := fun h => by
      have j0 := i0 (by omega)
      have j1 := i1 (by omega)
      have j2 := i2 (by omega)
      obtain ⟨⟨d, b, d1, d2, hd, hc⟩, hm⟩ := stp (3 * (a + 1)) (by omega) h
      have m3 := hm 3 (3 * a) (by omega) (by omega) (by omega)
      rw [show 3 * (a + 1) = 3 * a + 3 by omega, s3 _ (by omega)] at m3
      rw [show 3 * (a + 1) = 3 * a + 3 by omega] at hc ⊢
      rcases (show b = 3 * a ∨ b = 3 * a + 1 ∨ b = 3 * a + 2 by omega) with e | e | e
      · subst e; rw [hc, s3 _ (by omega), j0]; omega
      · subst e; rw [s2 (3 * a + 1) (by omega), j1] at hc; split at hc <;> omega
      · subst e; rw [s1 (3 * a + 2) (by omega), j2] at hc; omega
    have h1 : 3 * (a + 1) + 1 ≤ k → C 6 (onesT k) (3 * (a + 1) + 1) = ((a + 1 : Nat) : Int) + 17 := fun h => by
      have j0 := h0 (by omega)
      have j1 := i1 (by omega)
      have j2 := i2 (by omega)
      obtain ⟨⟨d, b, d1, d2, hd, hc⟩, hm⟩ := stp (3 * (a + 1) + 1) (by omega) h
      have m2 := hm 2 (3 * a + 2) (by omega) (by omega) (by omega)
      rw [show 3 * (a + 1) + 1 = (3 * a + 2) + 2 by omega, s2 _ (by omega), j2] at m2
      rw [show 3 * (a + 1) + 1 = 3 * a + 4 by omega] at hc ⊢
      rw [show 3 * a + 2 + 2 = 3 * a + 4 by omega] at m2
      rcases (show b = 3 * a + 1 ∨ b = 3 * a + 2 ∨ b = 3 * (a + 1) by omega) with e | e | e
      · subst e; rw [s3 (3 * a + 1) (by omega), j1] at hc; split at hc <;> omega
      · subst e; rw [s2 (3 * a + 2) (by omega), j2] at hc; omega
      · subst e; rw [show 3 * a + 4 = 3 * (a + 1) + 1 by omega, s1 _ (by omega), j0] at hc; rw [show 3 * a + 4 = 3 * (a + 1) + 1 by omega] at m2 ⊢; omega
    refine ⟨h0, fun h => by rw [if_neg (by omega)]; exact h1 h, fun h => ?_⟩
    have j0 := h0 (by omega)
    have j1 := h1 (by omega)
    have j2 := i2 (by omega)
    obtain ⟨⟨d, b, d1, d2, hd, hc⟩, hm⟩ := stp (3 * (a + 1) + 2) (by omega) h
    have m2 := hm 2 (3 * (a + 1)) (by omega) (by omega) (by omega)
    rw [s2 _ (by omega), j0] at m2
    rcases (show b = 3 * a + 2 ∨ b = 3 * (a + 1) ∨ b = 3 * (a + 1) + 1 by omega) with e | e | e
    · subst e; rw [show 3 * (a + 1) + 2 = 3 * a + 2 + 3 by omega, s3 _ (by omega), j2] at hc; rw [show 3 * (a + 1) + 2 = 3 * a + 2 + 3 by omega] at m2 ⊢; omega
    · subst e; rw [s2 _ (by omega), j0] at hc; omega
    · subst e; rw [s1 (3 * (a + 1) + 1) (by omega), j1] at hc; omega
theorem on_bg {k e : Nat} (h0 : 3 ≤ e) (he : e ≤ k) : bg 6 (onesT k) e = [e - 1, e - 2, e - 3] := by
  obtain ⟨b, rfl⟩ : ∃ b, e = b + 3 := ⟨e - 3, by omega⟩
  have hr : bgF 6 (onesT k) (b + 3) b = [] := by
    cases b with
    | zero => rfl
    | succ b => rw [bgF, if_neg (by rw [on_ln (by omega) he]; omega)]
  show bgF 6 (onesT k) (b + 3) (b + 3) = _
  rw [bgF, if_pos (by rw [on_ln (by omega) he]; omega), bgF, if_pos (by rw [on_ln (by omega) he]; omega), bgF, if_pos (by rw [on_ln (by omega) he]; omega), hr]
  rfl
theorem on_ch {k e : Nat} (he : e ≤ k) (b : Nat) : cdC 6 (onesT k) e b = decide (C 6 (onesT k) b + sq 6 (onesT k) b e = C 6 (onesT k) e) := by
  unfold cdC szC glC
  rw [on_len, if_neg (by omega), if_neg (by omega)]
theorem on_way {k : Nat} (hk : k ≤ 900) : ∀ a : Nat, (3 * a ≤ k → wyN 6 (onesT k) (3 * a) = 1) ∧ (3 * a + 1 ≤ k → 2 * wyN 6 (onesT k) (3 * a + 1) = if a = 0 then 2 else (a : Int) * (a + 1)) ∧ (3 * a + 2 ≤ k → wyN 6 (onesT k) (3 * a + 2) = (a : Int) + 1) := by
  have W := on_W hk
  have hl := on_len k
  have s1 : ∀ b, b + 1 ≤ k → sq 6 (onesT k) b (b + 1) = 25 := fun b h => on_sq (d := 1) rfl h
  have s2 : ∀ b, b + 2 ≤ k → sq 6 (onesT k) b (b + 2) = 9 := fun b h => on_sq (d := 2) rfl h
  have s3 : ∀ b, b + 3 ≤ k → sq 6 (onesT k) b (b + 3) = 1 := fun b h => on_sq (d := 3) rfl h
  -- the sum of three
  have tri : ∀ b, b + 3 ≤ k → wyN 6 (onesT k) (b + 3) = (if C 6 (onesT k) (b + 2) + 25 = C 6 (onesT k) (b + 3) then wyN 6 (onesT k) (b + 2) else 0) + ((if C 6 (onesT k) (b + 1) + 9 = C 6 (onesT k) (b + 3) then wyN 6 (onesT k) (b + 1) else 0) + ((if C 6 (onesT k) b + 1 = C 6 (onesT k) (b + 3) then wyN 6 (onesT k) b else 0) + 0)) := fun b hb => by
    rw [wyN_succ W (e := b + 2) (by omega)]
    show (((bg 6 (onesT k) (b + 3)).filter (cdC 6 (onesT k) (b + 3))).map (wyN 6 (onesT k))).sum = _
    rw [on_bg (by omega) hb]
    have q1 : cdC 6 (onesT k) (b + 3) (b + 2) = decide (C 6 (onesT k) (b + 2) + 25 = C 6 (onesT k) (b + 3)) := by rw [on_ch hb, s1 (b + 2) hb]
    have q2 : cdC 6 (onesT k) (b + 3) (b + 1) = decide (C 6 (onesT k) (b + 1) + 9 = C 6 (onesT k) (b + 3)) := by rw [on_ch hb, s2 (b + 1) hb]
    have q3 : cdC 6 (onesT k) (b + 3) b = decide (C 6 (onesT k) b + 1 = C 6 (onesT k) (b + 3)) := by rw [on_ch hb, s3 b hb]
    show (([b + 2, b + 1, b].filter (cdC 6 (onesT k) (b + 3))).map (wyN 6 (onesT k))).sum = _
    simp only [List.filter_cons, q1, q2, q3, List.filter_nil, decide_eq_true_eq]
    split <;> split <;> split <;> simp
  have c0 : C 6 (onesT k) 0 = 0 := C0 _ _
  have one : 1 ≤ k → wyN 6 (onesT k) 1 = 1 := fun h => by
    rw [wyN_succ W (e := 0) (by omega)]
    have cv := ((on_C hk 0).2.1 h)
    have : chB 6 (onesT k) (0 + 1) = [0] := by
      show (bgF 6 (onesT k) 1 1).filter (cdC 6 (onesT k) 1) = [0]
      rw [bgF, if_pos (by rw [on_ln (by omega) h]; decide)]
      show [0].filter _ = [0]
      rw [List.filter_cons, on_ch h, s1 0 h, c0, show C 6 (onesT k) 1 = 25 from cv]
      rfl
    rw [this]; rfl
  intro a
  induction a with
  | zero =>
    refine ⟨fun _ => rfl, fun h => by rw [show 3 * 0 + 1 = 1 from rfl, one h]; rfl, fun h => ?_⟩
    rw [show 3 * 0 + 2 = 1 + 1 from rfl, wyN_succ W (e := 1) (by omega)]
    have cv := ((on_C hk 0).2.1 (by omega))
    have cw := ((on_C hk 0).2.2 h)
    have : chB 6 (onesT k) (1 + 1) = [0] := by
      show (bgF 6 (onesT k) 2 2).filter (cdC 6 (onesT k) 2) = [0]
      rw [bgF, if_pos (by rw [on_ln (by omega) h]; decide), bgF, if_pos (by rw [on_ln (by omega) h]; decide)]
      show [1, 0].filter _ = [0]
      rw [List.filter_cons, List.filter_cons, on_ch h, on_ch h, s1 1 h, s2 0 h, c0, show C 6 (onesT k) 1 = 25 from cv, show C 6 (onesT k) 2 = 0 + 9 from cw]
      rfl
    rw [this]; rfl
  | succ a ih =>
    obtain ⟨i0, i1, i2⟩ := ih
    obtain ⟨a0, a1, a2⟩ := on_C hk a
    obtain ⟨b0, b1, b2⟩ := on_C hk (a + 1)
    have h0 : 3 * (a + 1) ≤ k → wyN 6 (onesT k) (3 * (a + 1)) = 1 := fun h => by
      have t := tri (3 * a) (by omega)
      rw [show 3 * a + 3 = 3 * (a + 1) by omega, b0 h, a0 (by omega), a1 (by omega), a2 (by omega), i0 (by omega), if_neg (show ¬ ((a : Int) + 9 + 25 = ((a + 1 : Nat) : Int)) by omega), if_neg (show ¬ ((if a = 0 then (25 : Int) else (a : Int) + 17) + 9 = ((a + 1 : Nat) : Int)) by split <;> omega), if_pos (by omega)] at t
      rw [t]; rfl
    refine ⟨h0, fun h => ?_, fun h => ?_⟩
    · have t := tri (3 * a + 1) (by omega)
      rw [show 3 * a + 1 + 3 = 3 * (a + 1) + 1 by omega, show 3 * a + 1 + 2 = 3 * (a + 1) by omega, show 3 * a + 1 + 1 = 3 * a + 2 by omega, b1 h, b0 (by omega), a1 (by omega), a2 (by omega), i2 (by omega), if_neg (show ¬ a + 1 = 0 by omega), if_neg (by omega), if_pos (by omega)] at t
      rw [if_neg (show ¬ a + 1 = 0 by omega), t]
      have j1 := i1 (by omega)
      by_cases ha : a = 0
      · subst ha; rw [if_neg (by simp)]; rfl
      · rw [if_neg ha] at j1
        rw [if_neg ha, if_pos (by omega)]
        have e : (((a + 1 : Nat) : Int)) * (((a + 1 : Nat) : Int) + 1) = (a : Int) * (a + 1) + 2 * (a + 1) := by
          rw [Int.natCast_add, Int.natCast_one, Int.mul_add, Int.add_mul, Int.mul_add, Int.mul_add]; omega
        rw [e]; omega
    · have t := tri (3 * a + 2) (by omega)
      rw [show 3 * a + 2 + 3 = 3 * (a + 1) + 2 by omega, show 3 * a + 2 + 2 = 3 * (a + 1) + 1 by omega, show 3 * a + 2 + 1 = 3 * (a + 1) by omega, b2 h, b1 (by omega), b0 (by omega), a2 (by omega), h0 (by omega), i2 (by omega), if_neg (show ¬ a + 1 = 0 by omega), if_neg (by omega), if_pos (by omega), if_pos (by omega)] at t
      rw [t]; omega
theorem on_cnt {k : Nat} (hk : k ≤ 900) : cntB 6 (onesT k) = wyN 6 (onesT k) k := by
  have W := on_W hk
  have hl := on_len k
  rw [cntB_eq, hl, wyN_succ W (e := k) (by omega)]
  have hb : bgF 6 (onesT k) (k + 1) k = [] := by
    cases k with
    | zero => rfl
    | succ k => rw [bgF, if_neg (by rw [on_lnE (by omega)]; omega)]
  have hLS : LS 6 (onesT k) = k := by
    obtain ⟨l1, l2, _, _⟩ := LS_at W (by omega)
    rw [hl] at l1 l2
    rw [on_lnE (by omega)] at l2
    omega
  have : chB 6 (onesT k) (k + 1) = [k] := by
    show (bgF 6 (onesT k) (k + 1) (k + 1)).filter (cdC 6 (onesT k) (k + 1)) = [k]
    rw [bgF, if_pos (by rw [on_lnE (by omega)]; omega), hb, List.filter_cons]
    unfold cdC szC glC
    rw [hl, if_pos rfl, if_pos rfl, hLS, decide_eq_true (by omega)]
    rfl
  rw [this]
  simp
end LM

namespace K10
open PySem PySem.Spec PyProof.Rows L2 QL
open LM
def spMany : Spc := fun ts QT _ => ∃ (wd : Int) (ws : List Int), ts = [.va (.int wd), .va (.tuple (iDs ws))] ∧ Wd wd ws ∧ 0 < ws.length ∧ QT (.va (.int (cntB wd ws))) [none, none]
theorem wyL_next {wd : Int} {ws : List Int} {m : Nat} (W : Wd wd ws) (h : m + 1 ≤ ws.length) : iDs (wyL wd ws m) ++ [PyData.int (wyN wd ws (m + 1))] = iDs (wyL wd ws (m + 1)) := by
  have e : ((chB wd ws (m + 1)).map fun b => (wyL wd ws m).getD b 0) = (chB wd ws (m + 1)).map (wyN wd ws) := List.map_congr_left fun b hb => wyN_at (by have := (chB_lt W h hb).1; omega)
  rw [← wyL_snoc, wyN_succ W h, e]
theorem wyN_get {wd : Int} {ws : List Int} {m b : Nat} (h : b ≤ m) : atI (iDs (wyL wd ws m)) (b : Int) = some (.int (wyN wd ws b)) := by
  rw [wyL_at h, wyN_at h]
theorem cd_last {wd : Int} {ws : List Int} {e b : Nat} (h : e = ws.length) : cdC wd ws e b = decide (C wd ws b = C wd ws (LS wd ws)) := by
  unfold cdC szC glC; rw [if_pos h, if_pos h, Int.add_zero]
theorem cd_other {wd : Int} {ws : List Int} {e b : Nat} (h : e ≠ ws.length) : cdC wd ws e b = decide (C wd ws b + sq wd ws b e = C wd ws e) := by
  unfold cdC szC glC; rw [if_neg h, if_neg h]
section
variable {P : Program} {w : World} {K : PySem.W.Frag} {mg : Str → Option Value} {base : Heap} {Tq : List (Addr × Str)}
abbrev N__law_many : List Str := ["_law_wide", "_law_row_here", "_law_low_costs", "_law_begins", "_law_least", "_law_ways", "_law_high", "_law_found", "_law_low", "_law_long", "_law_is_met"]
theorem sc__law_many : FnScope N__law_many ["_law_wide", "_law_row_here"] (defScope (topS 15)) := ⟨rfl, rfl, rfl, by decide +kernel, rfl, by decide +kernel, by decide +kernel⟩
theorem g__law_many {f : Addr} {fd : FuncData} {k : Nat} (Fn : Fun K "_law_many" "_law_many" (topS 15) f fd) (G__law_costs : Df P w K mg base Tq k "_law_costs" ["_law_wide", "_law_row_here"] spTab) (G__law_last : Df P w K mg base Tq k "_law_last" ["_law_wide", "_law_row_here", "_law_low_costs"] spLast9) (m_int : mg "int" = none) (m_len : mg "len" = none) (m_range : mg "range" = none) : FnG P w K mg base Tq (k + 1) f fd ["_law_wide", "_law_row_here"] spMany := by
  refine fn_g Fn sc__law_many (fun ts Q E h => ?_) fun cdv A outer s H E Z ts QT ET hr hgd hp tk h => ?_
  · obtain ⟨wd, ws, rfl, W, h0, q⟩ := h; rfl
  · obtain ⟨wd, ws, rfl, W, h0, q⟩ := h
    have hlen := W.len
    have hnl : (iDs ws).length = ws.length := List.length_map _
    have w1 := W.w1
    have w2 := W.w2
    have hls := LS_le W
    -- line 118
    refine wss_cons (ws_asg (pg_tup (by rfl) (pgs_cons (pg_name (i := 2) sc__law_many.nd rfl (by first | exact Or.inl rfl | exact Or.inr rfl)) (pgs_cons (pg_name (i := 3) sc__law_many.nd rfl (by first | exact Or.inl rfl | exact Or.inr rfl)) (pgs_nil)))) (gok_tup (gsok_cons (gok_name 2) (gsok_cons (gok_name 3) (gsok_nil)))) (w_fn G__law_costs hr hgd ⟨rfl, (w_var 0 ⟨rfl, (w_var 1 ⟨_, _, rfl, (by first | assumption | omega | decide), ⟨_, rfl, rfl, ⟨Nat.lt_of_sub_eq_succ rfl, ⟨Nat.lt_of_sub_eq_succ rfl, ⟨rfl, ?_⟩⟩⟩⟩⟩)⟩)⟩))
    -- line 119
    refine wss_cons (ws_set 4 (w_ix (w_var 2 (w_fn G__law_last hr hgd ⟨rfl, (w_var 0 ⟨rfl, (w_var 1 ⟨rfl, (w_var 2 ⟨_, _, rfl, (by first | assumption | omega | decide), (by first | assumption | omega | decide), ⟨rfl, rfl, _, (csL_at hls), ⟨Nat.lt_of_sub_eq_succ rfl, ?_⟩⟩⟩)⟩)⟩)⟩))) sc__law_many.nd)
    -- line 120
    refine wss_cons (ws_set 5 (w_lst ⟨rfl, (w_int ⟨(by first | decide | (simp only [List.length_append, List.length_map, List.length_cons, List.length_nil, List.length_singleton, List.length_replicate, List.length_range, List.length_take, List.length_drop, List.length_dropLast, List.length_reverse, Bool.false_eq_true, eq_self, reduceIte, sizeLine_eq]; omega)), fun p1 => ⟨Nat.lt_of_sub_eq_succ rfl, ?_⟩⟩)⟩) sc__law_many.nd)
    -- line 121
    refine wss_cons (ws_for hp rfl (pg_name (i := 6) sc__law_many.nd rfl (by first | exact Or.inl rfl | exact Or.inr rfl)) (gok_name 6) (wi_range2 m_range ⟨rfl, (w_int ⟨rfl, (w_bin dop_add (w_callB dc_len m_len rfl ⟨rfl, (w_var 1 ⟨rfl, (w_int ⟨rfl, rfl, ⟨rfl, rfl, ⟨by omega, by omega, by omega, by omega⟩, ?_⟩⟩)⟩)⟩))⟩)⟩))
    rw [show ((((iDs ws).length : Nat) : Int) + 1 - 1).toNat = ws.length by rw [hnl]; omega]
    refine ⟨fun j e => ∃ o6 o7 o8 o9 o10, e = [some (.va (.int wd)), some (.va (.tuple (iDs ws))), some (.va (.list (iDs (csL wd ws ws.length)))), some (.va (.list (nDs (bsL wd ws ws.length)))), some (.va (.int (C wd ws (LS wd ws)))), some (.lst p1 (iDs (wyL wd ws j))), o6, o7, o8, o9, o10], ⟨none, none, none, none, none, rfl⟩, ?_, ?_⟩
    · rintro j x e hd ⟨o6, o7, o8, o9, o10, rfl⟩
      obtain ⟨rfl, hj⟩ := rangeD_at hd
      rw [show ((1 : Int) + (j : Int)) = ((j + 1 : Nat) : Int) by omega]
      have hwl := wyL_len wd ws j
      have ej : (((j + 1 : Nat) : Int) - 1) = (j : Int) := by omega
      have ha : atI (iDs ws) (((j + 1 : Nat) : Int) - 1) = some (.int ws[j]) := by rw [ej]; exact ws_at' hj
      refine ⟨Nat.lt_of_sub_eq_succ rfl, ?_⟩
      -- line 122
      refine wss_cons (ws_par3 7 8 9 rfl sc__law_many.nd ⟨rfl, (w_int ⟨rfl, (w_bin dop_sub (w_var 6 (w_int ⟨rfl, rfl, ⟨rfl, (w_ix (w_var 1 (w_bin dop_sub (w_var 6 (w_int ⟨rfl, rfl, ⟨rfl, rfl, _, ha, ⟨_, _, _, rfl, Nat.lt_of_sub_eq_succ rfl, Nat.lt_of_sub_eq_succ rfl, Nat.lt_of_sub_eq_succ rfl, ?_⟩⟩⟩)))))⟩⟩)))⟩)⟩)
      rw [show ws[j] = ln ws j (j + 1) from (ln_one W hj).symm]
      let Iv : Nat → QL.Env → Prop := fun m en => m ≤ j + 1 ∧ ∃ fd o10, fd + fsC wd ws (j + 1) m = wyN wd ws (j + 1) ∧ en = [some (.va (.int wd)), some (.va (.tuple (iDs ws))), some (.va (.list (iDs (csL wd ws ws.length)))), some (.va (.list (nDs (bsL wd ws ws.length)))), some (.va (.int (C wd ws (LS wd ws)))), some (.lst p1 (iDs (wyL wd ws j))), some (.va (.int ((j + 1 : Nat) : Int))), some (.va (.int fd)), some (.va (.int ((m : Int) - 1))), some (.va (.int (ln ws (m - 1) (j + 1)))), o10]
      -- line 123
      refine wss_cons (ws_while Iv (j + 1) ⟨Nat.le_refl _, 0, _, by rw [Int.zero_add]; exact fsC_all W hj, rfl⟩ ?step hp)
      case step =>
        rintro m en ⟨hme, fd, o10, hs, rfl⟩
        rcases m with _ | b
        · refine WW.t (ww_and (wt_cmp dop_ge (w_var 8 (w_int ⟨rfl, rfl, _, rfl, ⟨fun h => ?_, fun h => ?_⟩⟩))))
          · exact absurd h (by decide)
          · refine ⟨(fun z => nomatch z), fun _ => ?_⟩
            show WSs _ _ _ _ _
            rw [fsC_none (.inl rfl), Int.add_zero] at hs
            subst hs
            -- line 130
            refine wss_one (ws_expr (w_append (w_var 5 ⟨_, _, _, _, rfl, rfl, (w_var 7 ⟨_, _, rfl, rfl, (by rw [List.length_map, hwl, sizeLine_eq]; omega), ?_⟩)⟩)))
            exact ⟨_, _, _, _, _, by rw [← wyL_next W hj]; rfl⟩
        · have eb : (((b + 1 : Nat) : Int) - 1) = (b : Int) := by omega
          rw [eb, show b + 1 - 1 = b from rfl]
          have hbl : b < ws.length := by omega
          refine (WW.t (ww_and (wt_cmp dop_ge (w_var 8 (w_int ⟨rfl, rfl, _, rfl, ⟨fun h => (ww_and1 (wt_cmp dop_le (w_var 9 (w_var 0 ⟨rfl, rfl, _, rfl, ⟨fun h => ?_, fun h => ?_⟩⟩)))), fun h => ?_⟩⟩)))))
          · have h5 : ln ws b (j + 1) ≤ wd := of_decide_eq_true h
            have lb := ln_bd W (i := b) (j := j + 1) (by omega) (by omega)
            rw [fsC_step h5] at hs
            -- line 124
            refine wss_cons (ws_set 10 (w_cmp (dop_eq (room64 hr)) (w_ix (w_var 2 (w_var 8 ⟨rfl, rfl, _, (csL_at (by omega)), (w_var 4 ⟨rfl, rfl, ⟨Nat.lt_of_sub_eq_succ rfl, ?_⟩⟩)⟩)))) sc__law_many.nd)
            -- line 125
            refine wss_cons (WS.imp (P := fun o => o = .nx [some (.va (.int wd)), some (.va (.tuple (iDs ws))), some (.va (.list (iDs (csL wd ws ws.length)))), some (.va (.list (nDs (bsL wd ws ws.length)))), some (.va (.int (C wd ws (LS wd ws)))), some (.lst p1 (iDs (wyL wd ws j))), some (.va (.int ((j + 1 : Nat) : Int))), some (.va (.int fd)), some (.va (.int (b : Int))), some (.va (.int (ln ws b (j + 1)))), some (.va (.bool (cdC wd ws (j + 1) b)))]) (ws_if (wt_cmp dop_lt (w_var 6 (w_callB dc_len m_len rfl ⟨rfl, (w_var 1 ⟨rfl, ⟨rfl, rfl, _, rfl, ⟨fun h => ?_, fun h => ?_⟩⟩⟩)⟩)))) ?jM)
            · have hne : j + 1 ≠ ws.length := by have h : decide (((j + 1 : Nat) : Int) < (((iDs ws).length : Nat) : Int)) = true := h; have := of_decide_eq_true h; omega
              -- line 126
              refine wss_one (ws_set 10 (w_cmp (dop_eq (room64 hr)) (w_bin dop_add (w_ix (w_var 2 (w_var 8 ⟨rfl, rfl, _, (csL_at (by omega)), (w_bin dop_pow (w_bin dop_sub (w_var 0 (w_var 9 ⟨rfl, rfl, (w_int ⟨rfl, rfl, (.inl ⟨by decide, by decide, by omega⟩), ⟨rfl, rfl, (w_ix (w_var 2 (w_var 6 ⟨rfl, rfl, _, (csL_at (by omega)), ⟨rfl, rfl, ⟨Nat.lt_of_sub_eq_succ rfl, ?_⟩⟩⟩)))⟩⟩)⟩))))⟩))))) sc__law_many.nd)
              rw [cd_other hne]; rfl
            · have heq : j + 1 = ws.length := by have h : decide (((j + 1 : Nat) : Int) < (((iDs ws).length : Nat) : Int)) = false := h; have := of_decide_eq_false h; omega
              refine wss_nil ?_
              rw [cd_last heq]; rfl
            case jM =>
              rintro o rfl
              show WSs _ _ _ _ _
              have hmu : ∀ z : Bool, fd + wyN wd ws b * (if z = true then 1 else 0) = fd + (if z = true then wyN wd ws b else 0) := fun z => by cases z <;> simp
              -- line 127
              refine wss_cons (ws_set 7 (w_bin dop_add (w_var 7 (w_bin dop_mul (w_ix (w_var 5 (w_var 8 ⟨rfl, rfl, _, (wyN_get (by omega)), (w_callTy dc_int m_int rfl ⟨rfl, (w_var 10 ⟨rfl, ⟨rfl, rfl, (by cases cdC wd ws (j + 1) b <;> exact cmul_r (by decide) (by decide)), ⟨rfl, rfl, ⟨Nat.lt_of_sub_eq_succ rfl, ?_⟩⟩⟩⟩)⟩)⟩)))))) sc__law_many.nd)
              -- line 128
              refine wss_cons (ws_set 8 (w_bin dop_sub (w_var 8 (w_int ⟨rfl, rfl, ⟨Nat.lt_of_sub_eq_succ rfl, ?_⟩⟩))) sc__law_many.nd)
              rcases b with _ | c
              · refine wss_one (ws_set 9 (w_ifExp (wt_cmp dop_ge (w_var 8 (w_int ⟨rfl, rfl, _, rfl, ⟨fun h => absurd h (by decide), fun h => (w_var 9 ⟨Nat.lt_of_sub_eq_succ rfl, ?_⟩)⟩⟩)))) sc__law_many.nd)
                exact ⟨0, by omega, by omega, (fd + (if cdC wd ws (j + 1) 0 = true then wyN wd ws 0 else 0)), _, by omega, by rw [← hmu]; rfl⟩
              · have ec : (((c + 1 : Nat) : Int) - 1) = (c : Int) := by omega
                rw [ec]
                have lp := ln_pred ws (j + 1) (b := c) (by omega)
                refine wss_one (ws_set 9 (w_ifExp (wt_cmp dop_ge (w_var 8 (w_int ⟨rfl, rfl, _, rfl, ⟨fun h => (w_bin dop_add (w_bin dop_add (w_var 9 (w_int ⟨rfl, rfl, (w_ix (w_var 1 (w_var 8 ⟨rfl, rfl, _, (ws_at' (show c < ws.length by omega)), ⟨rfl, rfl, ⟨Nat.lt_of_sub_eq_succ rfl, ?_⟩⟩⟩)))⟩)))), fun h => absurd (of_decide_eq_false h) (by omega)⟩⟩)))) sc__law_many.nd)
                rw [lp]
                exact ⟨c + 1, by omega, by omega, (fd + (if cdC wd ws (j + 1) (c + 1) = true then wyN wd ws (c + 1) else 0)), _, by omega, by rw [ec, ← hmu]; rfl⟩
          · have h5 : ¬ ln ws b (j + 1) ≤ wd := of_decide_eq_false h
            show WSs _ _ _ _ _
            rw [fsC_none (.inr (by rw [Nat.add_sub_cancel]; omega)), Int.add_zero] at hs
            subst hs
            -- line 130
            refine wss_one (ws_expr (w_append (w_var 5 ⟨_, _, _, _, rfl, rfl, (w_var 7 ⟨_, _, rfl, rfl, (by rw [List.length_map, hwl, sizeLine_eq]; omega), ?_⟩)⟩)))
            exact ⟨_, _, _, _, _, by rw [← wyL_next W hj]; rfl⟩
          · exact absurd (of_decide_eq_false h) (by omega)
    · rintro e ⟨o6, o7, o8, o9, o10, rfl⟩
      rw [rangeD_len]
      -- line 131
      refine wss_one (ws_ret (w_ix (w_var 5 (w_neg (w_int ⟨rfl, ⟨rfl, rfl, _, (wyL_last wd ws), ?_⟩⟩)))))
      exact q
end
end K10

/-! QV: repr and str of data with dicts: only a dict's own address must be other than that of the modules' table. -/
namespace QL
open PySem PySem.Spec PyProof.Rows L2
/-- a value as it is read, and how it is shown -/
def ShK (P : Program) (w : World) (h : Heap) (u : Value) (d : D) : Prop := ∃ as bs, Reads h u d as ∧ ReadAtMost h d.depth bs ∧ ReprK P w bs h d.depth u d.shown
def ShA (P : Program) (w : World) (h : Heap) (us : List Value) (ds : List D) : Prop := ∃ as bs, ReadsAll h us ds as ∧ ReadAtMost h (PyData.depthAll ds) bs ∧ ReprAllK P w bs h (PyData.depthAll ds) us (PyData.shownAll ds)
theorem ShA.nil {P : Program} {w : World} {h : Heap} : ShA P w h [] [] := ⟨[], [], .nil, fun _ z => (nomatch z), by simp only [PyData.shownAll]; exact .nil⟩
theorem ShA.cons {P : Program} {w : World} {h : Heap} {u : Value} {us : List Value} {d : D} {ds : List D} (a : ShK P w h u d) (b : ShA P w h us ds) : ShA P w h (u :: us) (d :: ds) := by
  obtain ⟨as1, bs1, r1, m1, k1⟩ := a
  obtain ⟨as2, bs2, r2, m2, k2⟩ := b
  have e : PyData.depthAll (d :: ds) = max d.depth (PyData.depthAll ds) := by simp only [PyData.depthAll]
  refine ⟨as1 ++ as2, bs1 ++ bs2, .cons r1 r2, ?_, ?_⟩
  · rw [e]
    exact (m1.mono (Nat.le_max_left _ _)).append (m2.mono (Nat.le_max_right _ _))
  · rw [e]
    simp only [PyData.shownAll]
    exact .cons ((k1.more fun b hb => List.mem_append_left bs2 hb).level_le (Nat.le_max_left _ _)) (k2.more_le (fun b hb => List.mem_append_right bs1 hb) (Nat.le_max_right _ _))
/-- the texts of the parts are not longer than the whole -/
def fitsA (ds : List D) : Prop := ∀ t ∈ PyData.shownAll ds, t.length ≤ sizeLine
theorem fitsA.head {d : D} {ds : List D} (h : fitsA (d :: ds)) : d.shown.length ≤ sizeLine := h _ (by simp only [PyData.shownAll]; exact List.mem_cons_self)
theorem fitsA.tail {d : D} {ds : List D} (h : fitsA (d :: ds)) : fitsA ds := fun t ht => h t (by simp only [PyData.shownAll]; exact List.mem_cons_of_mem _ ht)
theorem fits_list {xs : List D} (h : (PyData.shown (.list xs)).length ≤ sizeLine) : fitsA xs := fun t ht => Nat.le_trans (listText_mem_le ht) (by simpa only [PyData.shown] using h)
theorem fits_tuple {xs : List D} (h : (PyData.shown (.tuple xs)).length ≤ sizeLine) : fitsA xs := fun t ht => Nat.le_trans (tupleText_mem_le ht) (by simpa only [PyData.shown] using h)
theorem fits_keys {kvs : List (D × D)} (h : (PyData.shown (.dict kvs)).length ≤ sizeLine) : fitsA (kvs.map (·.1)) := fun t ht => by
  obtain ⟨p, hp, hl⟩ := PyData.shownKv_key_le kvs t ht
  exact Nat.le_trans hl (Nat.le_trans (dictText_mem_le hp) (by simpa only [PyData.shown] using h))
theorem fits_vals {kvs : List (D × D)} (h : (PyData.shown (.dict kvs)).length ≤ sizeLine) : fitsA (kvs.map (·.2)) := fun t ht => by
  obtain ⟨p, hp, hl⟩ := PyData.shownKv_val_le kvs t ht
  exact Nat.le_trans hl (Nat.le_trans (dictText_mem_le hp) (by simpa only [PyData.shown] using h))
theorem keys_sh {P : Program} {w : World} {h : Heap} {Q : Program} : ∀ {es : List DictEntry} {vs : List (Key × Value)} {kvs : List (Key × V)} {ds : List (D × D)} {F : Hp}, PySem.Pairs (mixKind Q w) es vs → KV kvs vs → RpK F kvs ds →
    PyData.showableAll (ds.map (·.1)) = true → fitsA (ds.map (·.1)) → ShA P w h (es.map (·.key)) (ds.map (·.1))
  | _, _, _, _, _, .nil, r, q, _, _ => by cases r; cases q; exact ShA.nil
  | _, _, _, _, _, .cons hk hv t, r, q, hs, hf => by
    cases r with
    | cons r1 r2 =>
      cases q with
      | cons q1 q2 =>
        have hs' := hs
        simp only [List.map_cons, PyData.showableAll, Bool.and_eq_true] at hs'
        have ih := keys_sh (P := P) (h := h) t r2 q2 hs'.2 (fitsA.tail hf)
        obtain ⟨r1a, r1b⟩ := r1
        simp only at r1a
        subst r1a
        rcases keyIs_shape hk with ⟨i, t', e1, e2⟩ | ⟨x, t', e1, e2⟩
        · simp only [List.map_cons]
          rw [e1, e2]
          rw [e1] at hs'
          refine ShA.cons ⟨[], [], .int i t', fun _ z => (nomatch z), ?_⟩ ih
          exact .of_is (ReprIs.int t' (by simpa [kD, PyData.showable] using hs'.1)) _ _ _
        · simp only [List.map_cons]
          rw [e1, e2]
          have hf1 := fitsA.head hf
          rw [e1] at hf1
          exact ShA.cons ⟨[], [], .str x t', fun _ z => (nomatch z), .of_is (ReprIs.str x t' (by simpa only [kD, PyData.shown] using hf1)) _ _ _⟩ ih
section
variable {X : Cx} {pins : List (Addr × Obj)} {σ : L2.St} {H : Hp} {s : Shared}
mutual
theorem Rp.sh (I : Inv X pins σ H s) : ∀ {v : V} {d : D} {u : Value}, Rp H v d → L2.RelV v u → d.showable = true → d.shown.length ≤ sizeLine → ShK X.prog X.w s.heap u d
  | _, _, _, .non, r, _, _ => by cases r; exact ⟨[], [], .none, fun _ z => (nomatch z), .of_is ReprIs.none _ _ _⟩
  | _, _, _, .bl b, r, _, _ => by cases r; exact ⟨[], [], .bool b, fun _ z => (nomatch z), .of_is (ReprIs.bool b) _ _ _⟩
  | _, _, _, .int i, r, hs, _ => by
    obtain ⟨t, rfl⟩ := r
    exact ⟨[], [], .int i t, fun _ z => (nomatch z), .of_is (ReprIs.int t (by simpa [PyData.showable] using hs)) _ _ _⟩
  | _, _, _, .str x, r, _, hz => by
    obtain ⟨t, rfl⟩ := r
    exact ⟨[], [], .str x t, fun _ z => (nomatch z), .of_is (ReprIs.str x t (by simpa only [PyData.shown] using hz)) _ _ _⟩
  | _, _, _, .lst (ds := ds) h q, r, hs, hz => by
    cases r
    obtain ⟨its, rv, ⟨o, n, ho, hc, _, hd⟩, _⟩ := I.list (SqL.of h)
    obtain ⟨as, bs, r1, m1, k1⟩ := RpA.sh I q rv (by simpa [PyData.showable] using hs) (fits_list hz)
    have rd : Reads s.heap (.ref _) (.list ds) _ := .list ho hc hd r1
    have dp : PyData.depthAll ds < (PyData.list ds).depth := by simp only [PyData.depth]; omega
    refine ⟨_, _ :: bs, rd, ReadAtMost.cons rd (Nat.le_of_lt dp) m1, ?_⟩
    simp only [PyData.depth, PyData.shown]
    cases its with
    | nil =>
      cases r1
      simp only [PyData.shownAll, listText_nil]
      exact ReprK.listEmpty ho hc hd
    | cons x l => exact ReprK.list ho hc hd (not_mem_of_deeper rd dp m1) (by simpa using k1.length_eq) (fun i y e => k1.item i y (by simpa using e))
  | _, _, _, .tup (ds := ds) h q, r, hs, hz => by
    cases r
    obtain ⟨its, rv, ⟨o, ho, hc, n, hd⟩, _⟩ := I.tuple (SqT.of h)
    obtain ⟨as, bs, r1, m1, k1⟩ := RpA.sh I q rv (by simpa [PyData.showable] using hs) (fits_tuple hz)
    have rd : Reads s.heap (.ref _) (.tuple ds) _ := .tuple ho hc hd r1
    have dp : PyData.depthAll ds < (PyData.tuple ds).depth := by simp only [PyData.depth]; omega
    refine ⟨_, _ :: bs, rd, ReadAtMost.cons rd (Nat.le_of_lt dp) m1, ?_⟩
    simp only [PyData.depth, PyData.shown]
    exact ReprK.tuple ho hc hd (not_mem_of_deeper rd dp m1) k1
  | _, _, _, .dic (ds := ds) h q, r, hs, hz => by
    cases r
    obtain ⟨_, hsys, vs, rel, o, es, ep, ho, hx, hdat, _, hp, _⟩ := dk_rd I.hok h
    obtain ⟨hs1, hs2⟩ := PyData.showableKv_split ds (by simpa [PyData.showable] using hs)
    obtain ⟨as1, bs1, r1, m1, k1⟩ := keys_sh (P := X.prog) (h := s.heap) hp rel q hs1 (fits_keys hz)
    obtain ⟨as2, bs2, r2, m2, k2⟩ := RpK.sh I q rel hp hs2 (fits_vals hz)
    have rd : Reads s.heap (.ref _) (.dict ds) _ := .dict ho hx.1 hdat r1 r2
    have mm : ReadAtMost s.heap (PyData.depthKv ds) (bs1 ++ bs2) := (m1.mono (PyData.depthAll_keys_le ds)).append (m2.mono (PyData.depthAll_vals_le ds))
    have dp : PyData.depthKv ds < (PyData.dict ds).depth := by simp only [PyData.depth]; omega
    refine ⟨_, _ :: (bs1 ++ bs2), rd, ReadAtMost.cons rd (Nat.le_of_lt dp) mm, ?_⟩
    simp only [PyData.depth, PyData.shown, PyData.shownKv_eq]
    exact ReprK.dict ho hx.1 hdat hsys (not_mem_of_deeper rd dp mm) (ReprEntriesK.of_two es.toList _ _ (k1.more_le (fun b hb => List.mem_append_left bs2 hb) (PyData.depthAll_keys_le ds)) (k2.more_le (fun b hb => List.mem_append_right bs1 hb) (PyData.depthAll_vals_le ds)))
theorem RpA.sh (I : Inv X pins σ H s) : ∀ {vs : List V} {ds : List D} {us : List Value}, RpA H vs ds → Vals vs us → PyData.showableAll ds = true → fitsA ds → ShA X.prog X.w s.heap us ds
  | _, _, _, .nil, r, _, _ => by cases r; exact ShA.nil
  | _, _, _, .cons h q, r, hs, hz => by
    cases r with
    | cons r1 r2 =>
      simp only [PyData.showableAll, Bool.and_eq_true] at hs
      exact ShA.cons (Rp.sh I h r1 hs.1 (fitsA.head hz)) (RpA.sh I q r2 hs.2 (fitsA.tail hz))
theorem RpK.sh (I : Inv X pins σ H s) : ∀ {kvs : List (Key × V)} {ds : List (D × D)} {vs : List (Key × Value)} {es : List DictEntry}, RpK H kvs ds → KV kvs vs → PySem.Pairs (mixKind X.prog X.w) es vs → PyData.showableAll (ds.map (·.2)) = true → fitsA (ds.map (·.2)) →
    ShA X.prog X.w s.heap (es.map (·.val)) (ds.map (·.2))
  | _, _, _, _, .nil, r, p, _, _ => by cases r; cases p; exact ShA.nil
  | _, _, _, _, .cons h q, r, p, hs, hz => by
    cases r with
    | cons r1 r2 =>
      cases p with
      | cons p1 p2 p3 =>
        simp only [List.map_cons, PyData.showableAll, Bool.and_eq_true] at hs
        have a := Rp.sh I h r1.2 hs.1 (fitsA.head hz)
        have b := RpK.sh I q r2 p3 hs.2 (fitsA.tail hz)
        simp only [List.map_cons]
        rw [p2]
        exact ShA.cons a b
end
/-- repr(x), whatever plain data x is -/
def reprGD (ds : List D) (k : T → Prop) : Prop := ∃ d, ds = [d] ∧ showOk d ∧ k (.va (.str d.shown))
theorem dc_reprD (hg : X.A.guards = some []) (hu : X.A.units + 110 < cLine) : DCall X (.builtin "repr") reprGD := fun pins s σ H F vs us ds k I sF ws rv ⟨d, e, ⟨hs, hd, hz⟩, h⟩ => by
  subst e
  obtain ⟨v, rfl, w⟩ := ws.one
  obtain ⟨u, rfl, ru⟩ := rv.one
  have rp := w.rp sF
  have fin : ∀ {h' : Heap} {t tk : Nat}, Inv X pins σ H { s with heap := h', toks := tk } → EP X pins σ (NewV F H k) (.str d.shown t) { s with heap := h', toks := tk } := fun {h' t tk} I' => ⟨.str d.shown, H, I', ⟨t, rfl⟩, NewV.val sF (.str _) h⟩
  have slot : ∀ {a : Addr} {T idr : String}, s.TypeIs (.ref a) T → SlotG T "__repr__" idr →
      (∀ Q : Value → Shared → Prop, (∀ h' t tk, (∀ b o, s.heap.get? b = some o → h'.get? b = some o) → Q (.str d.shown t) { s with heap := h', toks := tk }) → wpAny (model X.prog X.w) X.A.in1 (call (.builtin idr) [.ref a]) Q X.xe s) →
      wpAny (model X.prog X.w) X.A (call (.builtin "repr") [.ref a]) (EP X pins σ (NewV F H k)) X.xe s := fun {a T idr} ty sl c =>
    call_repr_slot (by omega) ty sl (c _ fun h' t tk hk => ⟨_, _, rfl, fin (I.kept hk)⟩)
  have hg1 : X.A.in1.guards = some [] := hg
  have hu1 : ∀ n, n ≤ 100 → X.A.in1.units + n < cLine := fun n hn => by show X.A.units + 1 + n < cLine; omega
  cases rp with
  | non => cases ru; exact P.repr_of_none (fin (I.tok _))
  | bl b => cases ru; exact P.repr_of_bool (fin (I.tok _))
  | int i =>
    obtain ⟨t, rfl⟩ := ru
    exact P.repr_of_int (by simpa [PyData.showable] using hs) (fin (I.tok _))
  | str x =>
    obtain ⟨t, rfl⟩ := ru
    exact P.repr_of_str (fin (I.tok _)) hz
  | @lst a xs ds hl q =>
    cases ru
    obtain ⟨its, rv, ⟨o, n, ho, hc, _, hdat⟩, _⟩ := I.list (SqL.of hl)
    obtain ⟨as, bs, r1, m1, k1⟩ := RpA.sh I q rv (by simpa [PyData.showable] using hs) (fits_list hz)
    have rd : Reads s.heap (.ref a) (.list ds) _ := .list ho hc hdat r1
    have dp : PyData.depthAll ds < (PyData.list ds).depth := by simp only [PyData.depth]; omega
    refine slot ⟨o, ho, hc⟩ _root_.PySem.F.slot_list_repr.toG fun Q hQ => ?_
    have hd1 := hu1 _ hd
    simp only [PyData.depth] at hd1
    simp only [PyData.shown] at hQ hz
    cases its with
    | nil =>
      cases r1
      simp only [PyData.shownAll, listText_nil] at hQ
      exact call_list_repr_empty ⟨o, ho, hc⟩ ho hdat (hQ s.heap _ _ fun _ _ e => e)
    | cons x l => exact call_list_reprK ho hc hdat (not_mem_of_deeper rd dp m1) (by simpa using k1.length_eq) (fun i y e => k1.item i y (by simpa using e)) hg1 (fun b _ => Clear.nil b) hd1 (fun _ _ e => e) hQ hz
  | @tup a xs ds hl q =>
    cases ru
    obtain ⟨its, rv, ⟨o, ho, hc, n, hdat⟩, _⟩ := I.tuple (SqT.of hl)
    obtain ⟨as, bs, r1, m1, k1⟩ := RpA.sh I q rv (by simpa [PyData.showable] using hs) (fits_tuple hz)
    have rd : Reads s.heap (.ref a) (.tuple ds) _ := .tuple ho hc hdat r1
    have dp : PyData.depthAll ds < (PyData.tuple ds).depth := by simp only [PyData.depth]; omega
    refine slot ⟨o, ho, hc⟩ _root_.PySem.F.slot_tuple_repr fun Q hQ => ?_
    have hd1 := hu1 _ hd
    simp only [PyData.depth] at hd1
    simp only [PyData.shown] at hQ hz
    exact call_tuple_reprK ho hc hdat (not_mem_of_deeper rd dp m1) k1 hg1 (fun b _ => Clear.nil b) hd1 (fun _ _ e => e) hQ hz
  | @dic a kvs ds hl q =>
    cases ru
    obtain ⟨_, hsys, vs, rel, o, es, ep, ho, hx, hdat, _, hp, _⟩ := dk_rd I.hok hl
    obtain ⟨hs1, hs2⟩ := PyData.showableKv_split ds (by simpa [PyData.showable] using hs)
    obtain ⟨as1, bs1, r1, m1, k1⟩ := keys_sh (P := X.prog) (h := s.heap) hp rel q hs1 (fits_keys hz)
    obtain ⟨as2, bs2, r2, m2, k2⟩ := RpK.sh I q rel hp hs2 (fits_vals hz)
    have rd : Reads s.heap (.ref a) (.dict ds) _ := .dict ho hx.1 hdat r1 r2
    have mm : ReadAtMost s.heap (PyData.depthKv ds) (bs1 ++ bs2) := (m1.mono (PyData.depthAll_keys_le ds)).append (m2.mono (PyData.depthAll_vals_le ds))
    have dp : PyData.depthKv ds < (PyData.dict ds).depth := by simp only [PyData.depth]; omega
    refine slot ⟨o, ho, hx.1⟩ _root_.PySem.F.slot_dict_repr fun Q hQ => ?_
    have hd1 := hu1 _ hd
    simp only [PyData.depth] at hd1
    simp only [PyData.shown, PyData.shownKv_eq] at hQ hz
    exact call_dict_reprK ho hx.1 hdat hsys (not_mem_of_deeper rd dp mm) (ReprEntriesK.of_two es.toList _ _ (k1.more_le (fun b hb => List.mem_append_left bs2 hb) (PyData.depthAll_keys_le ds)) (k2.more_le (fun b hb => List.mem_append_right bs1 hb) (PyData.depthAll_vals_le ds))) hg1 (fun b _ => Clear.nil b) hd1 (fun _ _ e => e) hQ hz
end
end QL

/-! QU: data of any kind whose text is short. -/
namespace QL
open PySem PySem.Spec PyProof.Rows L2
mutual
def okD : D → Bool
  | .none => true
  | .bool _ => true
  | .int i => decide (i.natAbs < 2 ^ 200)
  | .str x => x.cps.toList.all fun c => decide (c < 16 ^ 8)
  | .list xs => okA xs
  | .tuple xs => okA xs
  | .dict kvs => okK kvs
def okA : List D → Bool
  | [] => true
  | x :: xs => okD x && okA xs
def okK : List (D × D) → Bool
  | [] => true
  | (a, b) :: r => okD a && okD b && okK r
end
mutual
theorem ok_sh : ∀ d : D, okD d = true → d.leavesShort 256 = true ∧ d.showable = true
  | .none, _ => ⟨rfl, rfl⟩
  | .bool _, _ => ⟨rfl, rfl⟩
  | .int i, h => by
    obtain ⟨h1, h2, h3⟩ := small_int (of_decide_eq_true (by simpa only [okD] using h))
    exact ⟨by simp only [PyData.leavesShort, decide_eq_true_eq]; exact h1, by simp only [PyData.showable, decide_eq_true_eq]; exact h3⟩
  | .str x, h => ⟨by simp only [PyData.leavesShort]; simpa only [okD] using h, rfl⟩
  | .list xs, h => by
    obtain ⟨h1, h2⟩ := ok_shA xs (by simpa only [okD] using h)
    exact ⟨by simpa only [PyData.leavesShort] using h1, by simpa only [PyData.showable] using h2⟩
  | .tuple xs, h => by
    obtain ⟨h1, h2⟩ := ok_shA xs (by simpa only [okD] using h)
    exact ⟨by simpa only [PyData.leavesShort] using h1, by simpa only [PyData.showable] using h2⟩
  | .dict kvs, h => by
    obtain ⟨h1, h2⟩ := ok_shK kvs (by simpa only [okD] using h)
    exact ⟨by simpa only [PyData.leavesShort] using h1, by simpa only [PyData.showable] using h2⟩
theorem ok_shA : ∀ ds : List D, okA ds = true → PyData.leavesShortAll 256 ds = true ∧ PyData.showableAll ds = true
  | [], _ => ⟨rfl, rfl⟩
  | d :: ds, h => by
    simp only [okA, Bool.and_eq_true] at h
    obtain ⟨h1, h2⟩ := ok_sh d h.1
    obtain ⟨g1, g2⟩ := ok_shA ds h.2
    exact ⟨by simp only [PyData.leavesShortAll, h1, g1, Bool.and_self], by simp only [PyData.showableAll, h2, g2, Bool.and_self]⟩
theorem ok_shK : ∀ ds : List (D × D), okK ds = true → PyData.leavesShortKv 256 ds = true ∧ PyData.showableKv ds = true
  | [], _ => ⟨rfl, rfl⟩
  | (a, b) :: ds, h => by
    simp only [okK, Bool.and_eq_true] at h
    obtain ⟨h1, h2⟩ := ok_sh a h.1.1
    obtain ⟨k1, k2⟩ := ok_sh b h.1.2
    obtain ⟨g1, g2⟩ := ok_shK ds h.2
    exact ⟨by simp only [PyData.leavesShortKv, h1, k1, g1, Bool.and_self], by simp only [PyData.showableKv, h2, k2, g2, Bool.and_self]⟩
end
/-- short data: depth, weight -/
structure Short (n w : Nat) (d : D) : Prop where
  ok : okD d = true
  dp : d.depth ≤ n
  wt : d.weight ≤ w
theorem Short.show_ {n w : Nat} {d : D} (h : Short n w d) (hn : n ≤ 100) (hw : w ≤ 60000) : showOk d := by
  obtain ⟨h1, h2⟩ := ok_sh d h.ok
  have := PyData.shown_le 256 (by decide) d h1
  refine ⟨h2, Nat.le_trans h.dp hn, ?_⟩
  show d.shown.length ≤ 16777216
  have := h.wt
  omega
theorem Short.le {n w n' w' : Nat} {d : D} (h : Short n w d) (hn : n ≤ n') (hw : w ≤ w') : Short n' w' d := ⟨h.ok, Nat.le_trans h.dp hn, Nat.le_trans h.wt hw⟩
theorem Short.tup1 {n w : Nat} {d : D} (h : Short n w d) : Short (n + 1) (w + 3) (.tuple [d]) := by
  have := h.dp
  have := h.wt
  exact ⟨by simp only [okD, okA, h.ok, Bool.and_self], by simp only [PyData.depth, PyData.depthAll]; omega, by simp only [PyData.weight, PyData.weightAll]; omega⟩
theorem Short.lst1 {n w : Nat} {d : D} (h : Short n w d) : Short (n + 1) (w + 3) (.list [d]) := by
  have := h.dp
  have := h.wt
  exact ⟨by simp only [okD, okA, h.ok, Bool.and_self], by simp only [PyData.depth, PyData.depthAll]; omega, by simp only [PyData.weight, PyData.weightAll]; omega⟩
theorem Short.dic1 {n w : Nat} {d : D} {x : Str} (h : Short n w d) (hx : okD (.str x) = true) (hl : x.cps.size ≤ 1) : Short (n + 1) (w + 3) (.dict [(.str x, d)]) := by
  have := h.dp
  have := h.wt
  exact ⟨by simp only [okD, okK, h.ok, Bool.and_true]; simpa only [okD] using hx, by simp only [PyData.depth, PyData.depthKv]; omega, by simp only [PyData.weight, PyData.weightKv]; omega⟩
end QL

/-! QTr: tuple * 0, tuple * 1. -/
namespace L2
open PySem PySem.Spec PyProof.Rows
theorem tuple_mul1 (l : Addr) (items : Array Value) (n : Nat) (dd : Option Addr) (sl : Array (Option Value)) (u : Tok) :
    Meets (Builtin.«tuple.__mul__» ⟨[.ref l, .int 1 u], []⟩) (fun _ R s => s.heap.get? l = some { cls := .type "tuple", dict := dd, data := .seq items n, slots := sl } ∧
      R (.ok (.ret (Value.ref l))) s) :=
  .of_wp fun prog w A R s h => by
    obtain ⟨hp, g, d, tk, os⟩ := s
    obtain ⟨hl, h⟩ := h
    have f1 := AutoSeq1.idx_int
    have c1 : (items.isEmpty || (1 : Int) == 1) = true := by simp
    wp_walk using wpAny_loadPart' hl
    repeat (first
      | (refine wpAny_ite_false (decide_eq_false (by decide)) ?_; wp_walk using wpAny_loadPart' hl)
      | (refine wpAny_ite_true (decide_eq_true c1) ?_; wp_walk using wpAny_loadPart' hl))
    exact ⟨_, rfl, h⟩
theorem tuple_mul0 (l : Addr) (items : Array Value) (n : Nat) (dd : Option Addr) (sl : Array (Option Value)) (u : Tok) (hi : items.isEmpty = false) :
    Meets (Builtin.«tuple.__mul__» ⟨[.ref l, .int 0 u], []⟩) (fun _ R s => s.heap.get? l = some { cls := .type "tuple", dict := dd, data := .seq items n, slots := sl } ∧
      R (.ok (.ret (Value.ref s.heap.objs.size))) { s with heap := s.heap.push { cls := Value.type "tuple", data := Data.seq #[] }, toks := s.toks }) :=
  .of_wp fun prog w A R s h => by
    obtain ⟨hp, g, d, tk, os⟩ := s
    obtain ⟨hl, h⟩ := h
    have f1 := AutoSeq1.idx_int
    have c1 : (items.isEmpty || (0 : Int) == 1) = false := by rw [hi]; rfl
    have c2 : (decide ((0 : Int) ≤ 0) || items.isEmpty) = true := by simp
    wp_walk using wpAny_loadPart' hl
    repeat (first
      | (refine wpAny_ite_false (decide_eq_false (by decide)) ?_; wp_walk using wpAny_loadPart' hl)
      | (refine wpAny_ite_false (decide_eq_false (by rw [c1]; exact Bool.false_ne_true)) ?_; wp_walk using wpAny_loadPart' hl)
      | (refine wpAny_ite_true (decide_eq_true c2) ?_; wp_walk using wpAny_loadPart' hl))
    exact ⟨_, rfl, h⟩
def rRepT01 (K : PySem.W.Frag) : R2 := fun x y H Q => ∃ l k xs, x = .ref l ∧ y = .int k ∧ SqT K H l xs ∧ xs ≠ [] ∧ ((k = 1 ∧ Q (.ref l) H) ∨ (k = 0 ∧ ∀ p, H p = none → Q (.ref p) (upd H p (.tup []))))
section
variable {X : Cx}
theorem op_repT01 : OpR X (binaryOp .Mult) (rRepT01 X.K) := by
  intro pins s σ H x y v u Q I rx ry h
  obtain ⟨l, k, xs, rfl, rfl, hT, hne, q⟩ := h
  cases rx
  obtain ⟨t, rfl⟩ := ry
  obtain ⟨its, r, ⟨⟨cls, dd, data, sl⟩, ho, hc, n, hd⟩, hs⟩ := I.tuple hT
  simp only at hc hd
  subst hc hd
  have hle : its.length = xs.length := r.length.symm
  have hn : its ≠ [] := fun e => hne (by
    rw [e] at hle
    exact List.eq_nil_of_length_eq_zero hle.symm)
  have hi : its.toArray.isEmpty = false := by
    cases its with
    | nil => exact absurd rfl hn
    | cons a b => rfl
  rcases q with ⟨rfl, q⟩ | ⟨rfl, q⟩
  · exact wpAny_binaryOp_repeat_ref (T := "tuple") (U := "int") (by decide) ⟨_, ho, rfl⟩ (fun s' => typeIs_int s' 1 t) noFill_tuple_mul F.fills_int_mul F.slot_int_rmul repeat_tuple F.slot_int_index.lookup
      (call_meets F.slot_int_rmul (typeIs_int s 1 t) F.entry_int_rmul (F.args_int_rmul_2 _ _) (int_rmul_tuple 1 t l its.toArray n dd sl)
        ⟨ho, rfl, ⟨_, ho, rfl⟩, call_meets F.slot_tuple_mul ⟨_, ho, rfl⟩ F.entry_tuple_mul (F.args_tuple_mul_2 _ _) (tuple_mul1 l its.toArray n dd sl t) ⟨ho, ⟨.ref l, _, I, rfl, q⟩⟩⟩)
  · refine wpAny_binaryOp_repeat_ref (T := "tuple") (U := "int") (by decide) ⟨_, ho, rfl⟩ (fun s' => typeIs_int s' 0 t) noFill_tuple_mul F.fills_int_mul F.slot_int_rmul repeat_tuple F.slot_int_index.lookup
      (call_meets F.slot_int_rmul (typeIs_int s 0 t) F.entry_int_rmul (F.args_int_rmul_2 _ _) (int_rmul_tuple 0 t l its.toArray n dd sl)
        ⟨ho, rfl, ⟨_, ho, rfl⟩, call_meets F.slot_tuple_mul ⟨_, ho, rfl⟩ F.entry_tuple_mul (F.args_tuple_mul_2 _ _) (tuple_mul0 l its.toArray n dd sl t hi) ⟨ho, ?_⟩⟩)
    refine ⟨.ref s.heap.objs.size, _, I.laid (t' := s.toks) (o := .tup []) (fun b ob q => Heap.get?_push_of_some _ q) (Nat.le_refl _) ?_, rfl, q _ (I.hok.fresh (Nat.le_refl _))⟩
    exact ⟨by rw [sizeLine_eq]; exact Nat.zero_le _, _, .nil, IsTup.new _ _⟩
end
end L2
namespace QL
open PySem PySem.Spec PyProof.Rows L2
variable {X : Cx}
/-- tuple * n, n from 0 on -/
theorem dop_mulTn : DOp X (binaryOp .Mult) (fun d1 d2 k => match d1, d2 with
    | .tuple xs, .int n => xs ≠ [] ∧ xs.length ≤ 1000 ∧ 0 ≤ n ∧ n ≤ 1000 ∧ k (.va (.tuple (List.replicate n.toNat xs).flatten))
    | _, _ => False) := by
  intro pins s σ H F v1 v2 u1 u2 d1 d2 k I sF w1 w2 r1 r2 hg
  split at hg
  · rename_i xs n
    obtain ⟨hne, hl, h2, h3, hk⟩ := hg
    by_cases h4 : 2 ≤ n
    · exact dop_mulT pins s σ H F v1 v2 u1 u2 _ _ k I sF w1 w2 r1 r2 ⟨hne, hl, h4, h3, hk⟩
    · obtain ⟨p, vs, rfl, h1, q1⟩ := w1.tup
      cases w2.int
      refine op_repT01 pins s σ H _ _ u1 u2 _ I r1 r2 ⟨p, n, vs, rfl, rfl, SqT.of (sF _ _ h1), fun z => ?_, ?_⟩
      · subst z
        cases q1
        exact hne rfl
      · have : n = 0 ∨ n = 1 := by omega
        rcases this with z | z
        · subst z
          exact .inr ⟨rfl, fun p hp => NewV.tup sF .nil hp hk⟩
        · subst z
          refine .inl ⟨rfl, NewV.val sF (.tup h1 ?_) hk⟩
          show RpA F vs (List.replicate (1 : Int).toNat xs).flatten
          simpa using q1
  · exact hg.elim
end QL

namespace K10
open PySem PySem.Spec PyProof.Rows L2 QL
open LM
def Row (wd : Int) (ws : List Int) : Prop := ∀ x ∈ ws, 1 ≤ x ∧ x ≤ wd
theorem Row.snoc {wd x : Int} {ws : List Int} (h : Row wd ws) (h1 : 1 ≤ x) (h2 : x ≤ wd) : Row wd (ws ++ [x]) := fun y hy => (List.mem_append.mp hy).elim (h y) fun z => by rw [List.mem_singleton.mp z]; exact ⟨h1, h2⟩
theorem PotOk.le {n m a b c : Int} (h : PotOk n a b c) (l : n ≤ m) : PotOk m a b c := ⟨h.1, h.2.1, h.2.2.1, Int.le_trans h.2.2.2 l⟩
theorem flat_rep (n : Nat) (x : Int) : (List.replicate n [PyData.int x]).flatten = iDs (List.replicate n x) := by
  rw [iDs, List.map_replicate]
  simp
theorem big_show {c : Int} (h0 : 0 ≤ c) (h : c ≤ 2 ^ 300) : showOk (.list [.int c, .int c]) := by
  have hn : c.natAbs ≤ 2 ^ 300 := by
    have : ((c.natAbs : Nat) : Int) ≤ ((2 ^ 300 : Nat) : Int) := by rw [Int.natAbs_of_nonneg h0]; exact h
    exact Int.ofNat_le.mp this
  have b1 : (2 : Nat) ^ 300 < 10 ^ 100 := by decide +kernel
  have l1 : (Str.ofString (toString c)).length ≤ 101 := by
    have h1 : (Str.ofString (toString c)).length = (toString c).length := PySem.ofString_length _
    have h2 := int_text_length_le10 (a := c) (k := 100) (by decide) (by omega)
    omega
  have l2 : c.natAbs.log2 < 1920 := by
    by_cases e : c.natAbs = 0
    · rw [e]; decide
    · exact (Nat.log2_lt e).mpr (Nat.lt_of_le_of_lt hn (by decide +kernel))
  have l3 : (PyData.int c).weight ≤ 301 := by
    show (if c == 0 then 0 else c.natAbs.log2 + 1) ≤ 301
    split
    · decide
    · rename_i hz
      have e : c.natAbs ≠ 0 := fun z => hz (by rw [beq_iff_eq]; omega)
      have := (Nat.log2_lt e).mpr (Nat.lt_of_le_of_lt hn (by decide +kernel : (2 : Nat) ^ 300 < 2 ^ 301))
      omega
  have hs : PyData.leavesShort 256 (.list [.int c, .int c]) = true := by
    simp only [PyData.leavesShort, PyData.leavesShortAll, Bool.and_true, Bool.and_eq_true, decide_eq_true_eq]
    exact ⟨Nat.le_trans l1 (by decide), Nat.le_trans l1 (by decide)⟩
  have hw := PyData.shown_le 256 (by decide) (.list [.int c, .int c]) hs
  refine ⟨?_, by simp only [PyData.depth, PyData.depthAll]; decide, ?_⟩
  · simp only [PyData.showable, PyData.showableAll, Bool.and_true, Bool.and_eq_true, decide_eq_true_eq]
    exact ⟨l2, l2⟩
  · refine Nat.le_trans hw ?_
    have : (PyData.list [.int c, .int c]).weight ≤ 700 := by simp only [PyData.weight, PyData.weightAll] at l3 ⊢; omega
    have e : (256 + 2) * (PyData.list [.int c, .int c]).weight ≤ 258 * 700 := Nat.mul_le_mul_left _ this
    show _ ≤ 16777216
    omega
def spShort : Spc := fun ts QT _ => ∃ (p : Addr) (n a b c : Int), ts = [.lst p (potD a b c)] ∧ PotOk n a b c ∧ n ≤ 850000 ∧ ∀ a' b' c' wd ws, PotOk (n + 400) a' b' c' → Wd wd ws → 0 < ws.length → ws.length ≤ 300 → QT (.va (.tuple [.int wd, .tuple (iDs ws)])) [some (.lst p (potD a' b' c'))]
def spChoose : Spc := fun ts QT _ => ∃ m : Int, ts = [.va (.int m), .va (.int 2)] ∧ (0 ≤ m ∧ m ≤ 1000) ∧ QT (.va (.int (m * (m - 1) / 2))) [none, none]
def chF (m : Int) : Nat → Int
  | 0 => 1
  | 1 => m
  | _ => m * (m - 1) / 2
section
variable {P : Program} {w : World} {K : PySem.W.Frag} {mg : Str → Option Value} {base : Heap} {Tq : List (Addr × Str)}
abbrev N__law_short : List Str := ["_law_pot_here", "_law_wide", "_law_count", "_law_word", "_law_turn"]
theorem sc__law_short : FnScope N__law_short ["_law_pot_here"] (defScope (topS 16)) := ⟨rfl, rfl, rfl, by decide +kernel, rfl, by decide +kernel, by decide +kernel⟩
theorem g__law_short {f : Addr} {fd : FuncData} {k : Nat} (Fn : Fun K "_law_short" "_law_short" (topS 16) f fd) (G__law_of : Df P w K mg base Tq k "_law_of" ["_law_pot_here", "_law_some"] spOfI) (G__law_take : Df P w K mg base Tq k "_law_take" ["_law_pot_here", "_law_upto"] spTake) (m_min : mg "min" = none) (m_range : mg "range" = none) (m_tuple : mg "tuple" = none) : FnG P w K mg base Tq (k + 1) f fd ["_law_pot_here"] spShort := by
  refine fn_g Fn sc__law_short (fun ts Q E h => ?_) fun cdv A outer s H E Z ts QT ET hr hgd hp tk h => ?_
  · obtain ⟨p, n, a, b, c, rfl, hpot, hn, q⟩ := h; rfl
  · obtain ⟨p, n, a, b, c, rfl, hpot, hn, q⟩ := h
    -- line 133
    refine wss_cons (ws_set 1 (w_bin dop_add (w_int (w_fn G__law_take hr hgd ⟨rfl, (w_var 0 ⟨rfl, (w_int ⟨rfl, ⟨_, _, _, _, _, _, rfl, (by assumption), (by omega), ⟨by omega, by omega⟩, fun a1 b1 c1 d_1 hp_1 h0_1 h1_1 => ⟨rfl, rfl, ⟨rfl, rfl, ⟨Nat.lt_of_sub_eq_succ rfl, ?_⟩⟩⟩⟩⟩)⟩)⟩))) sc__law_short.nd)
    -- line 134
    refine wss_cons (ws_set 2 (w_bin dop_add (w_int (w_fn G__law_of hr hgd ⟨rfl, (w_var 0 ⟨rfl, (w_lst ⟨rfl, (w_fn G__law_take hr hgd ⟨rfl, (w_var 0 ⟨rfl, (w_int ⟨rfl, ⟨_, _, _, _, _, _, rfl, (by assumption), (by omega), ⟨by omega, by omega⟩, fun a2 b2 c2 d_2 hp_2 h0_2 h1_2 => ⟨rfl, rfl, ⟨rfl, (w_fn G__law_take hr hgd ⟨rfl, (w_var 0 ⟨rfl, (w_int ⟨rfl, ⟨_, _, _, _, _, _, rfl, (by assumption), (by omega), ⟨by omega, by omega⟩, fun a3 b3 c3 d_3 hp_3 h0_3 h1_3 => ⟨rfl, rfl, ⟨rfl, (w_int ⟨(by first | decide | (simp only [List.length_append, List.length_map, List.length_cons, List.length_nil, List.length_singleton, List.length_replicate, List.length_range, List.length_take, List.length_drop, List.length_dropLast, List.length_reverse, Bool.false_eq_true, eq_self, reduceIte, sizeLine_eq]; omega)), fun p1 => ⟨rfl, ⟨_, _, _, _, _, [d_2, d_3, 299], 0, 299, _, none, rfl, (.inl ⟨rfl, rfl⟩), (by assumption), (by omega), ⟨by simp, by simp⟩, (by simp only [List.mem_cons, List.not_mem_nil, or_false, forall_eq_or_imp, forall_eq]; omega), fun a4 b4 c4 d_4 hp_4 l4 u4 hm_4 => ⟨rfl, rfl, ⟨rfl, rfl, ⟨Nat.lt_of_sub_eq_succ rfl, ?_⟩⟩⟩⟩⟩⟩)⟩⟩⟩⟩)⟩)⟩)⟩⟩⟩⟩)⟩)⟩)⟩)⟩)⟩))) sc__law_short.nd)
    -- line 135
    refine wss_cons (ws_set 3 (w_bin dop_add (w_int (w_fn G__law_take hr hgd ⟨rfl, (w_var 0 ⟨rfl, (w_callB (dc_min2 rfl) m_min rfl ⟨rfl, (w_var 1 ⟨rfl, (w_int ⟨rfl, ⟨rfl, ⟨rfl, ⟨_, _, _, _, _, _, rfl, (by assumption), (by omega), ⟨by omega, by omega⟩, fun a5 b5 c5 d_5 hp_5 h0_5 h1_5 => ⟨rfl, rfl, ⟨rfl, rfl, ⟨Nat.lt_of_sub_eq_succ rfl, ?_⟩⟩⟩⟩⟩⟩⟩)⟩)⟩)⟩)⟩))) sc__law_short.nd)
    obtain ⟨wd, hwd⟩ : ∃ wd, wd = 2 + d_1 := ⟨_, rfl⟩
    obtain ⟨ct, hct⟩ : ∃ ct, ct = 1 + d_4 := ⟨_, rfl⟩
    obtain ⟨wo, hwo⟩ : ∃ wo, wo = 1 + d_5 := ⟨_, rfl⟩
    have w12 : 2 ≤ wd ∧ wd ≤ 30 := by omega
    have c12 : 1 ≤ ct ∧ ct ≤ 300 := by omega
    have o12 : 1 ≤ wo ∧ wo ≤ wd := by omega
    show WSs _ _ _ [some (.lst p (potD a5 b5 c5)), some (.va (.int (2 + d_1))), some (.va (.int (1 + d_4))), some (.va (.int (1 + d_5))), none] _
    rw [← hwd, ← hct, ← hwo]
    -- line 136
    refine wss_cons (ws_if (wt_cmp (dop_eq (room64 hr)) (w_fn G__law_take hr hgd ⟨rfl, (w_var 0 ⟨rfl, (w_int ⟨rfl, ⟨_, _, _, _, _, _, rfl, (by assumption), (by omega), ⟨by omega, by omega⟩, fun a6 b6 c6 d_6 hp_6 h0_6 h1_6 => ⟨rfl, rfl, (w_int ⟨rfl, rfl, _, rfl, ⟨fun h => ?_, fun h => ?_⟩⟩)⟩⟩⟩)⟩)⟩)))
    · skip
      -- line 137
      refine wss_one (ws_ret (w_tup ⟨rfl, (w_var 1 ⟨rfl, (w_callTy dc_tuple m_tuple rfl ⟨rfl, (w_lc (own := [("_law_turn", 4)]) rfl sc__law_short.nd (blkOk_by (N := N__law_short) (sc := defScope (topS 16)) (by decide +kernel)) (fun _ _ _ _ _ => pg_name (i := 4) sc__law_short.nd rfl (by first | exact Or.inl rfl | exact Or.inr rfl)) (gok_name 4) (by decide) (wi_range1 m_range ⟨rfl, (w_var 2 ⟨rfl, ⟨by omega, by omega⟩, ?lcA⟩)⟩))⟩)⟩)⟩))
      case lcA =>
        refine ⟨fun i acc e => ∃ x y z vs, PotOk (n + 6 + i) x y z ∧ acc = iDs vs ∧ vs.length = i ∧ Row 2 vs ∧ e = [some (.lst p (potD x y z)), some (.va (.int wd)), some (.va (.int ct)), some (.va (.int wo)), none], ⟨a6, b6, c6, [], hp_6.le (by omega), rfl, rfl, (fun _ z => (nomatch z)), rfl⟩, ?_, ?_⟩
        · rintro i dd acc e hd ⟨x, y, z, vs, hq, rfl, hl9, hr9, rfl⟩
          obtain ⟨rfl, hi9⟩ := rangeD_at hd
          have hi30 : i < 301 := by omega
          refine ⟨Nat.lt_of_sub_eq_succ rfl, fun _ => ?_, fun z => nomatch z⟩
          intro s2 H2 C cl fp
          refine w_bin dop_add (w_int (w_fn G__law_take hr hgd ⟨rfl, w_var 0 ⟨rfl, w_int ⟨rfl, ⟨p, _, x, y, z, 2, rfl, hq, by omega, ⟨by omega, by omega⟩, fun x' y' z' dd hq2 d0 d1 => ⟨rfl, rfl, rfl, rfl, ?_, x', y', z', vs ++ [1 + dd], hq2.le (by omega), ?_, by rw [List.length_append, hl9]; rfl, hr9.snoc (by omega) (by omega), rfl⟩⟩⟩⟩⟩))
          · rw [List.length_map, hl9, sizeLine_eq]; omega
          · simp [iDs]
        · rintro acc e ⟨x9, y9, z9, vs, hq9, rfl, hl9, hr9, rfl⟩ pv
          rw [rangeD_len] at hl9 hq9
          refine ⟨rfl, ?_⟩
          have hvl : vs.length = ct.toNat := hl9
          have W : Wd wd vs := ⟨by omega, by omega, by omega, fun x hx => by have := hr9 x hx; omega⟩
          exact ⟨Nat.le_of_lt (small2000 (n := 2) (by decide)), ⟨rfl, q _ _ _ wd vs (hq9.le (by omega)) W (by omega) (by omega)⟩⟩
    refine wss_nil ?_
    -- line 138
    refine wss_one (ws_ret (w_tup ⟨rfl, (w_var 1 ⟨rfl, (w_bin dop_mulTn (w_tup ⟨rfl, (w_var 3 ⟨(Nat.le_of_lt (small2000 (n := 1) (by decide))), (w_var 2 ⟨rfl, rfl, ⟨List.cons_ne_nil _ _, (by show 1 ≤ 1000; decide), by omega, by omega, ⟨(Nat.le_of_lt (small2000 (n := 2) (by decide))), ?_⟩⟩⟩)⟩)⟩))⟩)⟩))
    rw [flat_rep]
    have W : Wd wd (List.replicate ct.toNat wo) := ⟨by omega, by omega, by rw [List.length_replicate]; omega, fun x hx => by rw [(List.mem_replicate.mp hx).2]; exact o12⟩
    exact ⟨rfl, q _ _ _ wd _ (hp_6.le (by omega)) W (by rw [List.length_replicate]; omega) (by rw [List.length_replicate]; omega)⟩
abbrev N__law_choose : List Str := ["_law_many_here", "_law_some", "_law_found", "_law_at"]
theorem sc__law_choose : FnScope N__law_choose ["_law_many_here", "_law_some"] (defScope (topS 17)) := ⟨rfl, rfl, rfl, by decide +kernel, rfl, by decide +kernel, by decide +kernel⟩
theorem g__law_choose {f : Addr} {fd : FuncData} {k : Nat} (Fn : Fun K "_law_choose" "_law_choose" (topS 17) f fd) (m_range : mg "range" = none) : FnG P w K mg base Tq (k + 1) f fd ["_law_many_here", "_law_some"] spChoose := by
  refine fn_g Fn sc__law_choose (fun ts Q E h => ?_) fun cdv A outer s H E Z ts QT ET hr hgd hp tk h => ?_
  · obtain ⟨m, rfl, ⟨m0, m1⟩, q⟩ := h; rfl
  · obtain ⟨m, rfl, ⟨m0, m1⟩, q⟩ := h
    -- line 140
    refine wss_cons (ws_set 2 (w_int ⟨Nat.lt_of_sub_eq_succ rfl, ?_⟩) sc__law_choose.nd)
    -- line 141
    refine wss_cons (ws_for hp rfl (pg_name (i := 3) sc__law_choose.nd rfl (by first | exact Or.inl rfl | exact Or.inr rfl)) (gok_name 3) (wi_range1 m_range ⟨rfl, (w_var 1 ⟨rfl, ⟨by omega, by omega⟩, ?_⟩)⟩))
    refine ⟨fun k e => k ≤ 2 ∧ ∃ o3, e = [some (.va (.int m)), some (.va (.int 2)), some (.va (.int (chF m k))), o3], ⟨by omega, none, rfl⟩, ?_, ?_⟩
    · rintro k dd e hd ⟨hk, o3, rfl⟩
      obtain ⟨rfl, hj⟩ := rangeD_at hd
      have hk2 : k < 2 := hj
      refine ⟨Nat.lt_of_sub_eq_succ rfl, ?_⟩
      -- line 142
      refine wss_one (ws_set 2 (w_bin dop_fdiv (w_bin dop_mul (w_var 2 (w_bin dop_sub (w_var 0 (w_var 3 ⟨rfl, rfl, ⟨rfl, rfl, (cmul_r (by omega) (by omega)), (w_bin dop_add (w_var 3 (w_int ⟨rfl, rfl, ⟨rfl, rfl, ⟨by omega, by omega⟩, ⟨Nat.lt_of_sub_eq_succ rfl, ?_⟩⟩⟩)))⟩⟩)))))) sc__law_choose.nd)
      refine ⟨by omega, some (.va (.int (0 + (k : Int)))), ?_⟩
      rcases k with _ | _ | k
      · have e1 : 1 * (m - (0 + ((0 : Nat) : Int))) / ((0 + ((0 : Nat) : Int)) + 1) = m := by rw [Int.one_mul]; simp
        show [_, _, some (T.va (.int (1 * (m - (0 + ((0 : Nat) : Int))) / ((0 + ((0 : Nat) : Int)) + 1)))), _] = _
        rw [e1]; rfl
      · rfl
      · omega
    · rintro e ⟨hk, o3, rfl⟩
      show WSs _ _ _ [some (.va (.int m)), some (.va (.int 2)), some (.va (.int (m * (m - 1) / 2))), o3] _
      -- line 143
      refine wss_one (ws_ret (w_var 2 ?_))
      exact q
end
end K10

namespace K10
open PySem PySem.Spec PyProof.Rows L2 QL
open LM
def spRight : Spc := fun ts QT _ => ∃ (p : Addr) (n a b c : Int), ts = [.lst p (potD a b c)] ∧ PotOk n a b c ∧ n ≤ 800000 ∧ ∀ a' b' c', PotOk (n + 2000) a' b' c' → QT (.va (.bool true)) [some (.lst p (potD a' b' c'))]
def spLaw (K : PySem.W.Frag) : Spc := fun ts QT _ => ∃ (a : Addr) (ns : List Int), ts = [scT K a ns] ∧ ns.length ≤ 63 ∧ QT (.va (.bool true)) [some (scT K a ns)]
section
variable {P : Program} {w : World} {K : PySem.W.Frag} {mg : Str → Option Value} {base : Heap} {Tq : List (Addr × Str)}
abbrev N__law_right : List Str := ["_law_pot_here", "_law_turn", "_law_wide", "_law_row_here", "_law_many_here"]
theorem sc__law_right : FnScope N__law_right ["_law_pot_here"] (defScope (topS 18)) := ⟨rfl, rfl, rfl, by decide +kernel, rfl, by decide +kernel, by decide +kernel⟩
theorem g__law_right {f : Addr} {fd : FuncData} {k : Nat} (Fn : Fun K "_law_right" "_law_right" (topS 18) f fd) (G__law_choose : Df P w K mg base Tq k "_law_choose" ["_law_many_here", "_law_some"] spChoose) (G__law_many : Df P w K mg base Tq k "_law_many" ["_law_wide", "_law_row_here"] spMany) (G__law_short : Df P w K mg base Tq k "_law_short" ["_law_pot_here"] spShort) (G__law_take : Df P w K mg base Tq k "_law_take" ["_law_pot_here", "_law_upto"] spTake) (G_count_best : Df P w K mg base Tq k "count_best" ["width", "text"] spCount) (K_count_best : Dk P w K mg base Tq k "count_best" ["width", "text"] ["text", "width"] [1, 0] spCount) (m_range : mg "range" = none) (m_repr : mg "repr" = none) : FnG P w K mg base Tq (k + 1) f fd ["_law_pot_here"] spRight := by
  refine fn_g Fn sc__law_right (fun ts Q E h => ?_) fun cdv A outer s H E Z ts QT ET hr hgd hp tk h => ?_
  · obtain ⟨pt, n, a, b, c, rfl, hpot, hn, q⟩ := h; rfl
  · obtain ⟨pt, n, a, b, c, rfl, hpot, hn, q⟩ := h
    have hu := room110 hr
    -- line 145
    refine wss_cons (ws_for hp rfl (pg_name (i := 1) sc__law_right.nd rfl (by first | exact Or.inl rfl | exact Or.inr rfl)) (gok_name 1) (wi_range1 m_range ⟨rfl, (w_int ⟨rfl, ⟨by omega, by omega⟩, ?_⟩)⟩))
    refine ⟨fun k e => ∃ x y z o1 o2 o3, PotOk (n + 400 * k) x y z ∧ e = [some (.lst pt (potD x y z)), o1, o2, o3, none], ⟨a, b, c, none, none, none, hpot.le (by omega), rfl⟩, ?_, ?_⟩
    · rintro k dd e hd ⟨x, y, z, o1, o2, o3, hq, rfl⟩
      obtain ⟨rfl, hk⟩ := rangeD_at hd
      have hk4 : k < 4 := hk
      refine ⟨Nat.lt_of_sub_eq_succ rfl, ?_⟩
      -- line 146
      refine wss_cons (ws_asg (pg_tup (by rfl) (pgs_cons (pg_name (i := 2) sc__law_right.nd rfl (by first | exact Or.inl rfl | exact Or.inr rfl)) (pgs_cons (pg_name (i := 3) sc__law_right.nd rfl (by first | exact Or.inl rfl | exact Or.inr rfl)) (pgs_nil)))) (gok_tup (gsok_cons (gok_name 2) (gsok_cons (gok_name 3) (gsok_nil)))) (w_fn G__law_short hr hgd ⟨rfl, (w_var 0 ⟨rfl, ⟨_, _, _, _, _, rfl, hq, (by omega), fun a1 b1 c1 wd ws hp_1 W h0 hl => ⟨rfl, rfl, ⟨_, rfl, rfl, ⟨Nat.lt_of_sub_eq_succ rfl, ⟨Nat.lt_of_sub_eq_succ rfl, ⟨rfl, ?_⟩⟩⟩⟩⟩⟩⟩)⟩))
      have hb := wyN_bd W ws.length (Nat.le_refl _)
      rw [← cntB_eq] at hb
      have hp2 : (2 : Int) ^ ws.length ≤ 2 ^ 300 := by
        have h := Nat.pow_le_pow_right (show 0 < 2 by decide) hl
        have h2 : ((2 ^ ws.length : Nat) : Int) ≤ ((2 ^ 300 : Nat) : Int) := Int.ofNat_le.mpr h
        rw [Int.natCast_pow, Int.natCast_pow] at h2
        exact h2
      have hsw := big_show hb.1 (Int.le_trans hb.2 hp2)
      -- line 147
      refine wss_one (ws_if (wt_cmp (dop_ne (room64 hr)) (w_callB (dc_reprD hgd hu) m_repr rfl ⟨rfl, (w_lst ⟨rfl, (w_fn G_count_best hr hgd ⟨rfl, (w_var 2 ⟨rfl, (w_var 3 ⟨wd, ws, rfl, W, ⟨rfl, (w_fnK K_count_best hr hgd (w_var 3 (w_var 2 ⟨rfl, ⟨wd, ws, rfl, W, ⟨(Nat.le_of_lt (small2000 (n := 2) (by decide))), fun p1 => ⟨rfl, ⟨_, rfl, hsw, (w_callB (dc_reprD hgd hu) m_repr rfl ⟨rfl, (w_bin dop_mul (w_lst ⟨rfl, (w_fn G__law_many hr hgd ⟨rfl, (w_var 2 ⟨rfl, (w_var 3 ⟨wd, ws, rfl, W, h0, ⟨(Nat.le_of_lt (small2000 (n := 1) (by decide))), fun p2 => (w_int ⟨rfl, rfl, ⟨by decide, by decide, by rw [sizeLine_eq]; show 1 * 2 ≤ _; decide⟩, fun p3 => ⟨rfl, ⟨_, rfl, hsw, ⟨rfl, rfl, _, rfl, ⟨fun h => ?_, fun h => ?_⟩⟩⟩⟩⟩)⟩⟩)⟩)⟩)⟩))⟩)⟩⟩⟩⟩⟩)))⟩⟩)⟩)⟩)⟩)⟩)))
      · exact absurd h (by simp)
      exact wss_nil ⟨_, _, _, _, _, _, hp_1.le (by omega), rfl⟩
    · rintro e ⟨x, y, z, o1, o2, o3, hq, rfl⟩
      have hq : PotOk (n + 1600) x y z := hq.le (by rw [rangeD_len]; have : ((4 : Int) - 0).toNat = 4 := rfl; omega)
      -- line 149
      refine wss_cons (ws_set 4 (w_bin dop_add (w_int (w_fn G__law_take hr hgd ⟨rfl, (w_var 0 ⟨rfl, (w_int ⟨rfl, ⟨_, _, _, _, _, _, rfl, hq, (by omega), ⟨by omega, by omega⟩, fun a2 b2 c2 d_2 hp_2 h0_2 h1_2 => ⟨rfl, rfl, ⟨rfl, rfl, ⟨Nat.lt_of_sub_eq_succ rfl, ?_⟩⟩⟩⟩⟩)⟩)⟩))) sc__law_right.nd)
      obtain ⟨m, hm⟩ : ∃ m : Nat, (m : Int) = 1 + d_2 := ⟨(1 + d_2).toNat, by omega⟩
      rw [← hm]
      have m12 : 1 ≤ m ∧ m ≤ 90 := by omega
      have cA : cntB 6 (onesT (3 * m + 2)) = (m : Int) + 1 := by rw [on_cnt (by omega)]; exact (on_way (by omega) m).2.2 (Nat.le_refl _)
      have cB : cntB 6 (onesT (3 * m + 1)) = ((m : Int) + 1) * (((m : Int) + 1) - 1) / 2 := by
        rw [on_cnt (by omega)]
        have h := (on_way (k := 3 * m + 1) (by omega) m).2.1 (Nat.le_refl _)
        rw [if_neg (by omega)] at h
        rw [Int.add_sub_cancel, Int.mul_comm, ← h]
        omega
      have tA : (3 * (m : Int) + 2).toNat = 3 * m + 2 := by omega
      have tB : (3 * (m : Int) + 1).toNat = 3 * m + 1 := by omega
      have eA : (List.replicate (3 * (m : Int) + 2).toNat [PyData.int 1]).flatten ++ [PyData.int 6] = iDs (onesT (3 * m + 2)) := by rw [tA, flat_rep]; simp [iDs]
      have eB : (List.replicate (3 * (m : Int) + 1).toNat [PyData.int 1]).flatten ++ [PyData.int 6] = iDs (onesT (3 * m + 1)) := by rw [tB, flat_rep]; simp [iDs]
      have lA : (List.replicate (3 * (m : Int) + 2).toNat [PyData.int 1]).flatten.length = 3 * m + 2 := by rw [tA, flat_rep]; simp
      have lB : (List.replicate (3 * (m : Int) + 1).toNat [PyData.int 1]).flatten.length = 3 * m + 1 := by rw [tB, flat_rep]; simp
      -- line 150
      refine wss_cons (ws_if (wt_cmp (dop_ne (room64 hr)) (w_fn G_count_best hr hgd ⟨rfl, (w_int ⟨rfl, (w_bin dop_add (w_bin dop_mulTn (w_tup ⟨rfl, (w_int ⟨(Nat.le_of_lt (small2000 (n := 1) (by decide))), (w_bin dop_add (w_bin dop_mul (w_int (w_var 4 ⟨rfl, rfl, (by first | exact cmul_l (by omega) (by omega) | exact cmul_r (by omega) (by omega)), (w_int ⟨rfl, rfl, ⟨rfl, rfl, ⟨List.cons_ne_nil _ _, (by show 1 ≤ 1000; decide), by omega, by omega, (w_tup ⟨rfl, (w_int ⟨(Nat.le_of_lt (small2000 (n := 1) (by decide))), ⟨rfl, rfl, (by rw [lA, sizeLine_eq]; simp only [List.length_singleton]; omega), ⟨6, onesT (3 * m + 2), (congrArg (fun z => [T.va (.int 6), T.va (.tuple z)]) eA), (on_W (by omega)), (w_bin dop_add (w_var 4 (w_int ⟨rfl, rfl, ⟨rfl, rfl, _, rfl, ⟨fun h => ?_, fun h => ?_⟩⟩⟩)))⟩⟩⟩)⟩)⟩⟩⟩)⟩))))⟩)⟩)))⟩)⟩)))
      · exact absurd h (by rw [cA]; simp)
      refine wss_nil ?_
      -- line 152
      refine wss_one (ws_ret (w_cmp (dop_eq (room64 hr)) (w_fn G_count_best hr hgd ⟨rfl, (w_int ⟨rfl, (w_bin dop_add (w_bin dop_mulTn (w_tup ⟨rfl, (w_int ⟨(Nat.le_of_lt (small2000 (n := 1) (by decide))), (w_bin dop_add (w_bin dop_mul (w_int (w_var 4 ⟨rfl, rfl, (by first | exact cmul_l (by omega) (by omega) | exact cmul_r (by omega) (by omega)), (w_int ⟨rfl, rfl, ⟨rfl, rfl, ⟨List.cons_ne_nil _ _, (by show 1 ≤ 1000; decide), by omega, by omega, (w_tup ⟨rfl, (w_int ⟨(Nat.le_of_lt (small2000 (n := 1) (by decide))), ⟨rfl, rfl, (by rw [lB, sizeLine_eq]; simp only [List.length_singleton]; omega), ⟨6, onesT (3 * m + 1), (congrArg (fun z => [T.va (.int 6), T.va (.tuple z)]) eB), (on_W (by omega)), (w_fn G__law_choose hr hgd ⟨rfl, (w_bin dop_add (w_var 4 (w_int ⟨rfl, rfl, ⟨rfl, (w_int ⟨(m : Int) + 1, rfl, ⟨by omega, by omega⟩, ⟨rfl, rfl, ?_⟩⟩)⟩⟩)))⟩)⟩⟩⟩)⟩)⟩⟩⟩)⟩))))⟩)⟩)))⟩)⟩)))
      rw [cB]
      show back _ _ (QT (.va (.bool (decide (_ = _)))))
      rw [decide_eq_true rfl]
      exact ⟨rfl, q _ _ _ (hp_2.le (by omega))⟩
end
section
variable {P : Program} {w : World} {K : PySem.W.Frag} {mg : Str → Option Value} {base : Heap} {Tq : List (Addr × Str)}
abbrev N_law : List Str := ["_law_script", "_law_spot", "_law_pot_here", "_law_turn"]
theorem sc_law : FnScope N_law ["_law_script"] (defScope (topS 19)) := ⟨rfl, rfl, rfl, by decide +kernel, rfl, by decide +kernel, by decide +kernel⟩
theorem g_law {f : Addr} {fd : FuncData} {k : Nat} (Fn : Fun K "law" "law" (topS 19) f fd) (G__law_pot : Df P w K mg base Tq k "_law_pot" ["_law_script", "_law_spot"] (spPot K)) (G__law_right : Df P w K mg base Tq k "_law_right" ["_law_pot_here"] spRight) (m_all : mg "all" = none) (m_len : mg "len" = none) (m_max : mg "max" = none) (m_min : mg "min" = none) (m_range : mg "range" = none) : FnG P w K mg base Tq (k + 1) f fd ["_law_script"] (spLaw K) := by
  refine fn_g Fn sc_law (fun ts Q E h => ?_) fun cdv A outer s H E Z ts QT ET hr hgd hp tk h => ?_
  · obtain ⟨a, ns, rfl, hl, q⟩ := h; rfl
  · obtain ⟨a, ns, rfl, hl, q⟩ := h
    refine wss_cons (ws_for hp rfl (pg_name (i := 1) sc_law.nd rfl (.inl rfl)) (gok_name 1) (wi_range1 m_range ⟨rfl, w_callB (dc_max2 rfl) m_max rfl ⟨rfl, w_int ⟨rfl, w_callB (dc_min2 rfl) m_min rfl ⟨rfl, w_int ⟨rfl, w_scLen 0 m_len rfl ⟨rfl, rfl, ⟨rfl, rfl, ⟨rfl, ⟨by omega, by omega⟩, ?_⟩⟩⟩⟩⟩⟩⟩⟩))
    refine ⟨fun j e => ∃ o1 o2, e = [some (scT K a ns), o1, o2, none], ⟨none, none, rfl⟩, ?_, ?_⟩
    · rintro j d e hd ⟨o1, o2, rfl⟩
      obtain ⟨rfl, hj⟩ := rangeD_at hd
      refine ⟨Nat.lt_of_sub_eq_succ rfl, ?_⟩
      -- line 155
      refine wss_cons (ws_set 2 (w_fn G__law_pot hr hgd ⟨rfl, (w_var 0 ⟨rfl, (w_var 1 ⟨rfl, ⟨_, _, _, rfl, ⟨by omega, by omega⟩, (by first | assumption | omega | decide), fun p_1 x_1 y_1 hp_1 => ⟨rfl, rfl, ⟨Nat.lt_of_sub_eq_succ rfl, ?_⟩⟩⟩⟩)⟩)⟩) sc_law.nd)
      -- line 156
      refine wss_one (ws_if (wt_not (wt_val (w_callB (dc_all rfl) m_all rfl ⟨rfl, (w_lc (own := [("_law_turn", 3)]) rfl sc_law.nd (blkOk_by (N := N_law) (sc := defScope (topS 19)) (by decide +kernel)) (fun _ _ _ _ _ => pg_name (i := 3) sc_law.nd rfl (by first | exact Or.inl rfl | exact Or.inr rfl)) (gok_name 3) (by decide) (wi_range1 m_range ⟨rfl, (w_int ⟨rfl, ⟨by omega, by omega⟩, ?lc⟩)⟩))⟩))))
      case lc =>
        refine ⟨fun i acc e => ∃ x y z, PotOk (2000 * i) x y z ∧ acc = (List.replicate i true).map PyData.bool ∧ e = [some (scT K a ns), some (.va (.int (0 + (j : Int)))), some (.lst p_1 (potD x y z)), none], ⟨x_1, y_1, 0, hp_1.le (by omega), rfl, rfl⟩, ?_, ?_⟩
        · rintro i d acc e hd ⟨x, y, z, hp1, rfl, rfl⟩
          obtain ⟨rfl, hi⟩ := rangeD_at hd
          have hi5 : i < 1 := hi
          refine ⟨Nat.lt_of_sub_eq_succ rfl, fun _ => ?_, fun z => nomatch z⟩
          intro s2 H2 C cl fp
          refine w_fn G__law_right hr hgd ⟨rfl, w_var 2 ⟨rfl, p_1, _, x, y, z, rfl, hp1, by omega, fun x' y' z' hp2 => ⟨rfl, rfl, ?_, x', y', z', hp2.le (by omega), ?_, rfl⟩⟩⟩
          · rw [List.length_map, List.length_replicate, sizeLine_eq]; omega
          · rw [List.replicate_succ', List.map_append]; rfl
        · rintro acc e ⟨x, y, z, hp1, rfl, rfl⟩ p2
          refine ⟨rfl, _, rfl, ⟨_, rfl, ⟨fun h => ?_, fun h => wss_nil ⟨_, _, rfl⟩⟩⟩⟩
          exact absurd h (by simp)
    · rintro e ⟨o1, o2, rfl⟩
      exact wss_one (ws_ret (w_bl ⟨rfl, q⟩))
end
end K10

namespace K10
open PySem PySem.Spec PyProof.Rows L2 QL
theorem all_mk {l : PySem.W.OpenLaw} {w : World} {K : PySem.W.Frag} {h : Heap} {mg : Str → Option Value} {fa : Addr} (X : K.In h) (G : h.Ns mainGlobals mg) (hfa : mg "law" = some (.ref fa))
    {f0 : Addr} {od0 an0 : Option Addr} {sl0 : Array (Option Value)} {oc0 kV0 dc0 pm0 cd0 ct0 : Value}
    {f1 : Addr} {od1 an1 : Option Addr} {sl1 : Array (Option Value)} {oc1 kV1 dc1 pm1 cd1 ct1 : Value}
    {f2 : Addr} {od2 an2 : Option Addr} {sl2 : Array (Option Value)} {oc2 kV2 dc2 pm2 cd2 ct2 : Value}
    {f3 : Addr} {od3 an3 : Option Addr} {sl3 : Array (Option Value)} {oc3 kV3 dc3 pm3 cd3 ct3 : Value}
    {f4 : Addr} {od4 an4 : Option Addr} {sl4 : Array (Option Value)} {oc4 kV4 dc4 pm4 cd4 ct4 : Value}
    {f5 : Addr} {od5 an5 : Option Addr} {sl5 : Array (Option Value)} {oc5 kV5 dc5 pm5 cd5 ct5 : Value}
    {f6 : Addr} {od6 an6 : Option Addr} {sl6 : Array (Option Value)} {oc6 kV6 dc6 pm6 cd6 ct6 : Value}
    {f7 : Addr} {od7 an7 : Option Addr} {sl7 : Array (Option Value)} {oc7 kV7 dc7 pm7 cd7 ct7 : Value}
    {f8 : Addr} {od8 an8 : Option Addr} {sl8 : Array (Option Value)} {oc8 kV8 dc8 pm8 cd8 ct8 : Value}
    {f9 : Addr} {od9 an9 : Option Addr} {sl9 : Array (Option Value)} {oc9 kV9 dc9 pm9 cd9 ct9 : Value}
    {f10 : Addr} {od10 an10 : Option Addr} {sl10 : Array (Option Value)} {oc10 kV10 dc10 pm10 cd10 ct10 : Value}
    {f11 : Addr} {od11 an11 : Option Addr} {sl11 : Array (Option Value)} {oc11 kV11 dc11 pm11 cd11 ct11 : Value}
    {f12 : Addr} {od12 an12 : Option Addr} {sl12 : Array (Option Value)} {oc12 kV12 dc12 pm12 cd12 ct12 : Value}
    {f13 : Addr} {od13 an13 : Option Addr} {sl13 : Array (Option Value)} {oc13 kV13 dc13 pm13 cd13 ct13 : Value}
    {f14 : Addr} {od14 an14 : Option Addr} {sl14 : Array (Option Value)} {oc14 kV14 dc14 pm14 cd14 ct14 : Value}
    {f15 : Addr} {od15 an15 : Option Addr} {sl15 : Array (Option Value)} {oc15 kV15 dc15 pm15 cd15 ct15 : Value}
    {f16 : Addr} {od16 an16 : Option Addr} {sl16 : Array (Option Value)} {oc16 kV16 dc16 pm16 cd16 ct16 : Value}
    {f17 : Addr} {od17 an17 : Option Addr} {sl17 : Array (Option Value)} {oc17 kV17 dc17 pm17 cd17 ct17 : Value}
    {f18 : Addr} {od18 an18 : Option Addr} {sl18 : Array (Option Value)} {oc18 kV18 dc18 pm18 cd18 ct18 : Value}
    {aChoices : Addr}
    {aTable : Addr}
    (aaChoices : PySem.W.nsIn K mainGlobals "Choices" = some (some (.ref aChoices))) (pgChoices : PySem.W.plainGet K aChoices Str.empty = true) (hdChoices : PySem.W.hasDictIn K aChoices = true) (poChoices : PySem.W.plainOver K aChoices = true) (saChoices : PySem.W.findIn K (.ref aChoices) "__setattr__" = some (some (.builtin "object.__setattr__"))) (mkChoices : PySem.W.makesIn K aChoices = true) (kcChoices : PySem.W.keepIn K (.ref aChoices) = true)
    (nChoices_count : PySem.W.findIn K (.ref aChoices) "count" = some none)
    (nChoices_begins_of : PySem.W.findIn K (.ref aChoices) "begins_of" = some none)
    (aaTable : PySem.W.nsIn K mainGlobals "Table" = some (some (.ref aTable))) (pgTable : PySem.W.plainGet K aTable Str.empty = true) (hdTable : PySem.W.hasDictIn K aTable = true) (poTable : PySem.W.plainOver K aTable = true) (saTable : PySem.W.findIn K (.ref aTable) "__setattr__" = some (some (.builtin "object.__setattr__"))) (mkTable : PySem.W.makesIn K aTable = true) (kcTable : PySem.W.keepIn K (.ref aTable) = true)
    (nTable_wide : PySem.W.findIn K (.ref aTable) "wide" = some none)
    (nTable_sums : PySem.W.findIn K (.ref aTable) "sums" = some none)
    (nTable_costs : PySem.W.findIn K (.ref aTable) "costs" = some none)
    (nTable_befores : PySem.W.findIn K (.ref aTable) "befores" = some none)
    (a0 : PySem.W.nsIn K mainGlobals "sums_of" = some (some (.ref f0)))
    (l0 : K.lookup f0 = some ⟨oc0, od0, .func (PySem.W.fnOf "sums_of" "sums_of" (defArgs (topS 2)) (defBody (topS 2)) (defScope (topS 2)) .none kV0 dc0 pm0 an0 cd0 ct0), sl0⟩) (c0 : PySem.W.codeIn K cd0 "sums_of" = true) (k0 : PySem.W.keepIn K (.ref f0) = true)
    (a1 : PySem.W.nsIn K mainGlobals "length_by" = some (some (.ref f1)))
    (l1 : K.lookup f1 = some ⟨oc1, od1, .func (PySem.W.fnOf "length_by" "length_by" (defArgs (topS 3)) (defBody (topS 3)) (defScope (topS 3)) .none kV1 dc1 pm1 an1 cd1 ct1), sl1⟩) (c1 : PySem.W.codeIn K cd1 "length_by" = true) (k1 : PySem.W.keepIn K (.ref f1) = true)
    (a2 : PySem.W.findIn K (.ref aTable) "begins" = some (some (.ref f2))) (i2 : PySem.W.isFn K (.ref f2) = true)
    (l2 : K.lookup f2 = some ⟨oc2, od2, .func (PySem.W.fnOf "begins" "Table.begins" (defArgs (inClass (topS 5) 1)) (defBody (inClass (topS 5) 1)) (defScope (inClass (topS 5) 1)) .none kV2 dc2 pm2 an2 cd2 ct2), sl2⟩) (c2 : PySem.W.codeIn K cd2 "Table.begins" = true) (k2 : PySem.W.keepIn K (.ref f2) = true)
    (a3 : PySem.W.findIn K (.ref aTable) "square" = some (some (.ref f3))) (i3 : PySem.W.isFn K (.ref f3) = true)
    (l3 : K.lookup f3 = some ⟨oc3, od3, .func (PySem.W.fnOf "square" "Table.square" (defArgs (inClass (topS 5) 2)) (defBody (inClass (topS 5) 2)) (defScope (inClass (topS 5) 2)) .none kV3 dc3 pm3 an3 cd3 ct3), sl3⟩) (c3 : PySem.W.codeIn K cd3 "Table.square" = true) (k3 : PySem.W.keepIn K (.ref f3) = true)
    (a4 : PySem.W.findIn K (.ref aTable) "last_start" = some (some (.ref f4))) (i4 : PySem.W.isFn K (.ref f4) = true)
    (l4 : K.lookup f4 = some ⟨oc4, od4, .func (PySem.W.fnOf "last_start" "Table.last_start" (defArgs (inClass (topS 5) 4)) (defBody (inClass (topS 5) 4)) (defScope (inClass (topS 5) 4)) .none kV4 dc4 pm4 an4 cd4 ct4), sl4⟩) (c4 : PySem.W.codeIn K cd4 "Table.last_start" = true) (k4 : PySem.W.keepIn K (.ref f4) = true)
    (a5 : PySem.W.findIn K (.ref aTable) "__init__" = some (some (.ref f5))) (i5 : PySem.W.isFn K (.ref f5) = true)
    (l5 : K.lookup f5 = some ⟨oc5, od5, .func (PySem.W.fnOf "__init__" "Table.__init__" (defArgs (inClass (topS 5) 0)) (defBody (inClass (topS 5) 0)) (defScope (inClass (topS 5) 0)) .none kV5 dc5 pm5 an5 cd5 ct5), sl5⟩) (c5 : PySem.W.codeIn K cd5 "Table.__init__" = true) (k5 : PySem.W.keepIn K (.ref f5) = true)
    (a6 : PySem.W.nsIn K mainGlobals "_law_pot" = some (some (.ref f6)))
    (l6 : K.lookup f6 = some ⟨oc6, od6, .func (PySem.W.fnOf "_law_pot" "_law_pot" (defArgs (topS 9)) (defBody (topS 9)) (defScope (topS 9)) .none kV6 dc6 pm6 an6 cd6 ct6), sl6⟩) (c6 : PySem.W.codeIn K cd6 "_law_pot" = true) (k6 : PySem.W.keepIn K (.ref f6) = true)
    (a7 : PySem.W.nsIn K mainGlobals "_law_take" = some (some (.ref f7)))
    (l7 : K.lookup f7 = some ⟨oc7, od7, .func (PySem.W.fnOf "_law_take" "_law_take" (defArgs (topS 10)) (defBody (topS 10)) (defScope (topS 10)) .none kV7 dc7 pm7 an7 cd7 ct7), sl7⟩) (c7 : PySem.W.codeIn K cd7 "_law_take" = true) (k7 : PySem.W.keepIn K (.ref f7) = true)
    (a8 : PySem.W.nsIn K mainGlobals "_law_of" = some (some (.ref f8)))
    (l8 : K.lookup f8 = some ⟨oc8, od8, .func (PySem.W.fnOf "_law_of" "_law_of" (defArgs (topS 11)) (defBody (topS 11)) (defScope (topS 11)) .none kV8 dc8 pm8 an8 cd8 ct8), sl8⟩) (c8 : PySem.W.codeIn K cd8 "_law_of" = true) (k8 : PySem.W.keepIn K (.ref f8) = true)
    (a9 : PySem.W.findIn K (.ref aChoices) "__init__" = some (some (.ref f9))) (i9 : PySem.W.isFn K (.ref f9) = true)
    (l9 : K.lookup f9 = some ⟨oc9, od9, .func (PySem.W.fnOf "__init__" "Choices.__init__" (defArgs (inClass (topS 6) 0)) (defBody (inClass (topS 6) 0)) (defScope (inClass (topS 6) 0)) .none kV9 dc9 pm9 an9 cd9 ct9), sl9⟩) (c9 : PySem.W.codeIn K cd9 "Choices.__init__" = true) (k9 : PySem.W.keepIn K (.ref f9) = true)
    (a10 : PySem.W.findIn K (.ref aChoices) "ways" = some (some (.ref f10))) (i10 : PySem.W.isFn K (.ref f10) = true)
    (l10 : K.lookup f10 = some ⟨oc10, od10, .func (PySem.W.fnOf "ways" "Choices.ways" (defArgs (inClass (topS 6) 1)) (defBody (inClass (topS 6) 1)) (defScope (inClass (topS 6) 1)) .none kV10 dc10 pm10 an10 cd10 ct10), sl10⟩) (c10 : PySem.W.codeIn K cd10 "Choices.ways" = true) (k10 : PySem.W.keepIn K (.ref f10) = true)
    (a11 : PySem.W.nsIn K mainGlobals "count_best" = some (some (.ref f11)))
    (l11 : K.lookup f11 = some ⟨oc11, od11, .func (PySem.W.fnOf "count_best" "count_best" (defArgs (topS 7)) (defBody (topS 7)) (defScope (topS 7)) .none kV11 dc11 pm11 an11 cd11 ct11), sl11⟩) (c11 : PySem.W.codeIn K cd11 "count_best" = true) (k11 : PySem.W.keepIn K (.ref f11) = true)
    (a12 : PySem.W.nsIn K mainGlobals "_law_costs" = some (some (.ref f12)))
    (l12 : K.lookup f12 = some ⟨oc12, od12, .func (PySem.W.fnOf "_law_costs" "_law_costs" (defArgs (topS 13)) (defBody (topS 13)) (defScope (topS 13)) .none kV12 dc12 pm12 an12 cd12 ct12), sl12⟩) (c12 : PySem.W.codeIn K cd12 "_law_costs" = true) (k12 : PySem.W.keepIn K (.ref f12) = true)
    (a13 : PySem.W.nsIn K mainGlobals "_law_last" = some (some (.ref f13)))
    (l13 : K.lookup f13 = some ⟨oc13, od13, .func (PySem.W.fnOf "_law_last" "_law_last" (defArgs (topS 14)) (defBody (topS 14)) (defScope (topS 14)) .none kV13 dc13 pm13 an13 cd13 ct13), sl13⟩) (c13 : PySem.W.codeIn K cd13 "_law_last" = true) (k13 : PySem.W.keepIn K (.ref f13) = true)
    (a14 : PySem.W.nsIn K mainGlobals "_law_many" = some (some (.ref f14)))
    (l14 : K.lookup f14 = some ⟨oc14, od14, .func (PySem.W.fnOf "_law_many" "_law_many" (defArgs (topS 15)) (defBody (topS 15)) (defScope (topS 15)) .none kV14 dc14 pm14 an14 cd14 ct14), sl14⟩) (c14 : PySem.W.codeIn K cd14 "_law_many" = true) (k14 : PySem.W.keepIn K (.ref f14) = true)
    (a15 : PySem.W.nsIn K mainGlobals "_law_short" = some (some (.ref f15)))
    (l15 : K.lookup f15 = some ⟨oc15, od15, .func (PySem.W.fnOf "_law_short" "_law_short" (defArgs (topS 16)) (defBody (topS 16)) (defScope (topS 16)) .none kV15 dc15 pm15 an15 cd15 ct15), sl15⟩) (c15 : PySem.W.codeIn K cd15 "_law_short" = true) (k15 : PySem.W.keepIn K (.ref f15) = true)
    (a16 : PySem.W.nsIn K mainGlobals "_law_choose" = some (some (.ref f16)))
    (l16 : K.lookup f16 = some ⟨oc16, od16, .func (PySem.W.fnOf "_law_choose" "_law_choose" (defArgs (topS 17)) (defBody (topS 17)) (defScope (topS 17)) .none kV16 dc16 pm16 an16 cd16 ct16), sl16⟩) (c16 : PySem.W.codeIn K cd16 "_law_choose" = true) (k16 : PySem.W.keepIn K (.ref f16) = true)
    (a17 : PySem.W.nsIn K mainGlobals "_law_right" = some (some (.ref f17)))
    (l17 : K.lookup f17 = some ⟨oc17, od17, .func (PySem.W.fnOf "_law_right" "_law_right" (defArgs (topS 18)) (defBody (topS 18)) (defScope (topS 18)) .none kV17 dc17 pm17 an17 cd17 ct17), sl17⟩) (c17 : PySem.W.codeIn K cd17 "_law_right" = true) (k17 : PySem.W.keepIn K (.ref f17) = true)
    (a18 : PySem.W.nsIn K mainGlobals "law" = some (some (.ref f18)))
    (l18 : K.lookup f18 = some ⟨oc18, od18, .func (PySem.W.fnOf "law" "law" (defArgs (topS 19)) (defBody (topS 19)) (defScope (topS 19)) .none kV18 dc18 pm18 an18 cd18 ct18), sl18⟩) (c18 : PySem.W.codeIn K cd18 "law" = true) (k18 : PySem.W.keepIn K (.ref f18) = true)
    (z0 : PySem.W.nsIn K mainGlobals "abs" = some none)
    (z1 : PySem.W.nsIn K mainGlobals "all" = some none)
    (z2 : PySem.W.nsIn K mainGlobals "int" = some none)
    (z3 : PySem.W.nsIn K mainGlobals "len" = some none)
    (z4 : PySem.W.nsIn K mainGlobals "max" = some none)
    (z5 : PySem.W.nsIn K mainGlobals "min" = some none)
    (z6 : PySem.W.nsIn K mainGlobals "range" = some none)
    (z7 : PySem.W.nsIn K mainGlobals "repr" = some none)
    (z8 : PySem.W.nsIn K mainGlobals "sum" = some none)
    (z9 : PySem.W.nsIn K mainGlobals "tuple" = some none)
    : ∃ fd : FuncData, (∀ (s : Shared) (v : Value), BindsTo s fd ⟨[v], []⟩ [("_law_script", v)]) ∧ ∀ base : Heap, K.In base → base.Ns mainGlobals mg → (∀ p ∈ ([] : Cs), LamX.TabB base mg p.1 p.2.1) → FnG l.prog w K mg base (Cs.tq []) 9 fa fd ["_law_script"] (spLaw K) := by
  have e := hfa.symm.trans (PySem.W.mg_of X G a18)
  cases e
  have F0 := fun_mk (st := topS 2) l0 c0 k0
  have F1 := fun_mk (st := topS 3) l1 c1 k1
  have F2 := fun_mk (st := inClass (topS 5) 1) l2 c2 k2
  have F3 := fun_mk (st := inClass (topS 5) 2) l3 c3 k3
  have F4 := fun_mk (st := inClass (topS 5) 4) l4 c4 k4
  have F5 := fun_mk (st := inClass (topS 5) 0) l5 c5 k5
  have F6 := fun_mk (st := topS 9) l6 c6 k6
  have F7 := fun_mk (st := topS 10) l7 c7 k7
  have F8 := fun_mk (st := topS 11) l8 c8 k8
  have F9 := fun_mk (st := inClass (topS 6) 0) l9 c9 k9
  have F10 := fun_mk (st := inClass (topS 6) 1) l10 c10 k10
  have F11 := fun_mk (st := topS 7) l11 c11 k11
  have F12 := fun_mk (st := topS 13) l12 c12 k12
  have F13 := fun_mk (st := topS 14) l13 c13 k13
  have F14 := fun_mk (st := topS 15) l14 c14 k14
  have F15 := fun_mk (st := topS 16) l15 c15 k15
  have F16 := fun_mk (st := topS 17) l16 c16 k16
  have F17 := fun_mk (st := topS 18) l17 c17 k17
  have F18 := fun_mk (st := topS 19) l18 c18 k18
  have b0 := F0.binds (ps := ["text"]) fun _ _ _ _ _ _ us hl => match us, hl with | [_], _ => rfl
  have b1 := F1.binds (ps := ["sums", "begin", "end"]) fun _ _ _ _ _ _ us hl => match us, hl with | [_, _, _], _ => rfl
  have b2 := F2.binds (ps := ["self", "end"]) fun _ _ _ _ _ _ us hl => match us, hl with | [_, _], _ => rfl
  have b3 := F3.binds (ps := ["self", "begin", "end"]) fun _ _ _ _ _ _ us hl => match us, hl with | [_, _, _], _ => rfl
  have b4 := F4.binds (ps := ["self"]) fun _ _ _ _ _ _ us hl => match us, hl with | [_], _ => rfl
  have b5 := F5.binds (ps := ["self", "width", "text"]) fun _ _ _ _ _ _ us hl => match us, hl with | [_, _, _], _ => rfl
  have b6 := F6.binds (ps := ["_law_script", "_law_spot"]) fun _ _ _ _ _ _ us hl => match us, hl with | [_, _], _ => rfl
  have b7 := F7.binds (ps := ["_law_pot_here", "_law_upto"]) fun _ _ _ _ _ _ us hl => match us, hl with | [_, _], _ => rfl
  have b8 := F8.binds (ps := ["_law_pot_here", "_law_some"]) fun _ _ _ _ _ _ us hl => match us, hl with | [_, _], _ => rfl
  have b9 := F9.binds (ps := ["self", "width", "text"]) fun _ _ _ _ _ _ us hl => match us, hl with | [_, _, _], _ => rfl
  have b10 := F10.binds (ps := ["self"]) fun _ _ _ _ _ _ us hl => match us, hl with | [_], _ => rfl
  have b11 := F11.binds (ps := ["width", "text"]) fun _ _ _ _ _ _ us hl => match us, hl with | [_, _], _ => rfl
  have b12 := F12.binds (ps := ["_law_wide", "_law_row_here"]) fun _ _ _ _ _ _ us hl => match us, hl with | [_, _], _ => rfl
  have b13 := F13.binds (ps := ["_law_wide", "_law_row_here", "_law_low_costs"]) fun _ _ _ _ _ _ us hl => match us, hl with | [_, _, _], _ => rfl
  have b14 := F14.binds (ps := ["_law_wide", "_law_row_here"]) fun _ _ _ _ _ _ us hl => match us, hl with | [_, _], _ => rfl
  have b15 := F15.binds (ps := ["_law_pot_here"]) fun _ _ _ _ _ _ us hl => match us, hl with | [_], _ => rfl
  have b16 := F16.binds (ps := ["_law_many_here", "_law_some"]) fun _ _ _ _ _ _ us hl => match us, hl with | [_, _], _ => rfl
  have b17 := F17.binds (ps := ["_law_pot_here"]) fun _ _ _ _ _ _ us hl => match us, hl with | [_], _ => rfl
  have w11_10 : KwOk K _ ["width", "text"] ["text", "width"] [1, 0] := fun_kws F11 fun _ _ _ _ _ _ us hl => match us, hl with | [_, _], _ => rfl
  have Babs := PySem.W.mg_none_of X G z0
  have Ball := PySem.W.mg_none_of X G z1
  have Bint := PySem.W.mg_none_of X G z2
  have Blen := PySem.W.mg_none_of X G z3
  have Bmax := PySem.W.mg_none_of X G z4
  have Bmin := PySem.W.mg_none_of X G z5
  have Brange := PySem.W.mg_none_of X G z6
  have Brepr := PySem.W.mg_none_of X G z7
  have Bsum := PySem.W.mg_none_of X G z8
  have Btuple := PySem.W.mg_none_of X G z9
  have m0 := PySem.W.mg_of X G a0
  have m1 := PySem.W.mg_of X G a1
  have m6 := PySem.W.mg_of X G a6
  have m7 := PySem.W.mg_of X G a7
  have m8 := PySem.W.mg_of X G a8
  have m11 := PySem.W.mg_of X G a11
  have m12 := PySem.W.mg_of X G a12
  have m13 := PySem.W.mg_of X G a13
  have m14 := PySem.W.mg_of X G a14
  have m15 := PySem.W.mg_of X G a15
  have m16 := PySem.W.mg_of X G a16
  have m17 := PySem.W.mg_of X G a17
  have clChoices : Cls K aChoices := ⟨pgChoices, hdChoices, poChoices, saChoices⟩
  have mChoices := PySem.W.mg_of X G aaChoices
  have TChoices : Txt_Choices K aChoices := ⟨clChoices, nChoices_count, nChoices_begins_of⟩
  have clTable : Cls K aTable := ⟨pgTable, hdTable, poTable, saTable⟩
  have mTable := PySem.W.mg_of X G aaTable
  have TTable : Txt_Table K aTable := ⟨clTable, nTable_wide, nTable_sums, nTable_costs, nTable_befores⟩
  refine ⟨PySem.W.fnOf "law" "law" (defArgs (topS 19)) (defBody (topS 19)) (defScope (topS 19)) .none kV18 dc18 pm18 an18 cd18 ct18, fun s v => .of_eq rfl, fun base _ _ tbs => ?_⟩
  have hTq : Cs.tq [] = [] := rfl
  rw [hTq]
  have D0 : Df l.prog w K mg base [] 1 "sums_of" ["text"] spSums := ⟨_, _, g_sums_of (k := 0) F0 Btuple, m0, k0, b0⟩
  have D1 : Df l.prog w K mg base [] 1 "length_by" ["sums", "begin", "end"] spLenBy := ⟨_, _, g_length_by (k := 0) F1 , m1, k1, b1⟩
  have D2 : Mf l.prog w K mg base [] 2 aTable "begins" ["self", "end"] (spBegins aTable) := ⟨_, _, g_Table_begins (k := 1) F2 TTable (D1.mono (by decide : 1 ≤ 1)), clTable, ⟨a2, i2, k2⟩, b2⟩
  have D3 : Mf l.prog w K mg base [] 2 aTable "square" ["self", "begin", "end"] (spSquare aTable) := ⟨_, _, g_Table_square (k := 1) F3 TTable (D1.mono (by decide : 1 ≤ 1)), clTable, ⟨a3, i3, k3⟩, b3⟩
  have D4 : Mf l.prog w K mg base [] 3 aTable "last_start" ["self"] (spLast aTable) := ⟨_, _, g_Table_last_start (k := 2) F4 TTable (D2.mono (by decide : 2 ≤ 2)) Blen Bmin, clTable, ⟨a4, i4, k4⟩, b4⟩
  have C_Table : Ck l.prog w K mg base [] 3 "Table" aTable ["self", "width", "text"] (spInit aTable) := ⟨_, _, g_Table___init__ (k := 2) F5 TTable (D0.mono (by decide : 1 ≤ 2)) (D2.mono (by decide : 2 ≤ 2)) (D3.mono (by decide : 2 ≤ 2)) Blen Bmin Brange, ⟨mkTable, a5, i5, kcTable⟩, mTable, b5⟩
  have D6 : Df l.prog w K mg base [] 1 "_law_pot" ["_law_script", "_law_spot"] (spPot K) := ⟨_, _, g_pot (k := 0) F6 Blen Babs Bint, m6, k6, b6⟩
  have D7 : Df l.prog w K mg base [] 1 "_law_take" ["_law_pot_here", "_law_upto"] spTake := ⟨_, _, g_take (k := 0) F7 , m7, k7, b7⟩
  have D8 : Df l.prog w K mg base [] 2 "_law_of" ["_law_pot_here", "_law_some"] spOfI := ⟨_, _, g_ofI (k := 0) F8 (D7.mono (by decide : 1 ≤ 1)) Blen, m8, k8, b8⟩
  have C_Choices : Ck l.prog w K mg base [] 5 "Choices" aChoices ["self", "width", "text"] (spChInit aChoices) := ⟨_, _, g_Choices___init__ (k := 3) F9 TTable TChoices (D2.mono (by decide : 2 ≤ 3)) (D4.mono (by decide : 3 ≤ 3)) (D3.mono (by decide : 2 ≤ 3)) (C_Table.mono (by decide : 3 ≤ 3)) Blen Brange, ⟨mkChoices, a9, i9, kcChoices⟩, mChoices, b9⟩
  have D10 : Mf l.prog w K mg base [] 1 aChoices "ways" ["self"] (spWays aChoices) := ⟨_, _, g_Choices_ways (k := 0) F10 TChoices Brange Bsum, clChoices, ⟨a10, i10, k10⟩, b10⟩
  have D11 : Df l.prog w K mg base [] 7 "count_best" ["width", "text"] spCount := ⟨_, _, g_count_best (k := 5) F11 (D10.mono (by decide : 1 ≤ 5)) (C_Choices.mono (by decide : 5 ≤ 5)), m11, k11, b11⟩
  have E11_10 : Dk l.prog w K mg base [] 7 "count_best" ["width", "text"] ["text", "width"] [1, 0] spCount := ⟨_, _, g_count_best (k := 5) F11 (D10.mono (by decide : 1 ≤ 5)) (C_Choices.mono (by decide : 5 ≤ 5)), m11, k11, w11_10⟩
  have D12 : Df l.prog w K mg base [] 1 "_law_costs" ["_law_wide", "_law_row_here"] spTab := ⟨_, _, g__law_costs (k := 0) F12 Blen Brange, m12, k12, b12⟩
  have D13 : Df l.prog w K mg base [] 1 "_law_last" ["_law_wide", "_law_row_here", "_law_low_costs"] spLast9 := ⟨_, _, g__law_last (k := 0) F13 Blen, m13, k13, b13⟩
  have D14 : Df l.prog w K mg base [] 2 "_law_many" ["_law_wide", "_law_row_here"] spMany := ⟨_, _, g__law_many (k := 1) F14 (D12.mono (by decide : 1 ≤ 1)) (D13.mono (by decide : 1 ≤ 1)) Bint Blen Brange, m14, k14, b14⟩
  have D15 : Df l.prog w K mg base [] 3 "_law_short" ["_law_pot_here"] spShort := ⟨_, _, g__law_short (k := 2) F15 (D8.mono (by decide : 2 ≤ 2)) (D7.mono (by decide : 1 ≤ 2)) Bmin Brange Btuple, m15, k15, b15⟩
  have D16 : Df l.prog w K mg base [] 1 "_law_choose" ["_law_many_here", "_law_some"] spChoose := ⟨_, _, g__law_choose (k := 0) F16 Brange, m16, k16, b16⟩
  have D17 : Df l.prog w K mg base [] 8 "_law_right" ["_law_pot_here"] spRight := ⟨_, _, g__law_right (k := 7) F17 (D16.mono (by decide : 1 ≤ 7)) (D14.mono (by decide : 2 ≤ 7)) (D15.mono (by decide : 3 ≤ 7)) (D7.mono (by decide : 1 ≤ 7)) (D11.mono (by decide : 7 ≤ 7)) (E11_10.mono (by decide : 7 ≤ 7)) Brange Brepr, m17, k17, b17⟩
  exact g_law (k := 8) F18 (D6.mono (by decide : 1 ≤ 8)) (D17.mono (by decide : 8 ≤ 8)) Ball Blen Bmax Bmin Brange
end K10
open PySem PySem.W PyProof.Rows
set_option maxHeartbeats 0 in
theorem PySem.Challenge.cw_settledlines_k10_many_best_layouts_count_holds : PySem.Challenge.rw_settledlines_k10_many_best_layouts_count.Holds := by
  w_on; o_law; k_head; (case hw => w_witness2)
  k_fill
  refine QL.walk_gT (l := PySem.Challenge.rw_settledlines_k10_many_best_layouts_count) (n := 63) (k := 9) (x := "_law_script") (sp := fun w => K10.spLaw _) (cs := fun _ => []) rfl (by decide) rfl ⟨rfl, by decide, by decide⟩ (fun w h Y => PySem.W.kIn_of Y) (fun _ _ _ _ => .nil) ?F (fun w a ns hl => ⟨a, ns, rfl, hl, rfl⟩)
  case F =>
    intro w mg fa h KX G hmg
    refine' K10.all_mk KX G hmg ?aaChoices ?pgChoices ?hdChoices ?poChoices ?saChoices ?mkChoices ?kcChoices ?nChoices_count ?nChoices_begins_of ?aaTable ?pgTable ?hdTable ?poTable ?saTable ?mkTable ?kcTable ?nTable_wide ?nTable_sums ?nTable_costs ?nTable_befores ?a0 ?l0 ?c0 ?k0 ?a1 ?l1 ?c1 ?k1 ?a2 ?i2 ?l2 ?c2 ?k2 ?a3 ?i3 ?l3 ?c3 ?k3 ?a4 ?i4 ?l4 ?c4 ?k4 ?a5 ?i5 ?l5 ?c5 ?k5 ?a6 ?l6 ?c6 ?k6 ?a7 ?l7 ?c7 ?k7 ?a8 ?l8 ?c8 ?k8 ?a9 ?i9 ?l9 ?c9 ?k9 ?a10 ?i10 ?l10 ?c10 ?k10 ?a11 ?l11 ?c11 ?k11 ?a12 ?l12 ?c12 ?k12 ?a13 ?l13 ?c13 ?k13 ?a14 ?l14 ?c14 ?k14 ?a15 ?l15 ?c15 ?k15 ?a16 ?l16 ?c16 ?k16 ?a17 ?l17 ?c17 ?k17 ?a18 ?l18 ?c18 ?k18 ?z0 ?z1 ?z2 ?z3 ?z4 ?z5 ?z6 ?z7 ?z8 ?z9
    (case aaChoices => k_is); (case pgChoices => k_is); (case hdChoices => k_is); (case poChoices => k_is); (case saChoices => k_is); (case mkChoices => k_is); (case kcChoices => k_is); (case nChoices_count => k_is); (case nChoices_begins_of => k_is); (case aaTable => k_is); (case pgTable => k_is); (case hdTable => k_is); (case poTable => k_is); (case saTable => k_is); (case mkTable => k_is); (case kcTable => k_is); (case nTable_wide => k_is); (case nTable_sums => k_is); (case nTable_costs => k_is); (case nTable_befores => k_is); (case a0 => k_is); (case l0 => k_is); (case c0 => k_is); (case k0 => k_is); (case a1 => k_is); (case l1 => k_is); (case c1 => k_is); (case k1 => k_is); (case a2 => k_is); (case i2 => k_is); (case l2 => k_is); (case c2 => k_is); (case k2 => k_is); (case a3 => k_is); (case i3 => k_is); (case l3 => k_is); (case c3 => k_is); (case k3 => k_is); (case a4 => k_is); (case i4 => k_is); (case l4 => k_is); (case c4 => k_is); (case k4 => k_is); (case a5 => k_is); (case i5 => k_is); (case l5 => k_is); (case c5 => k_is); (case k5 => k_is); (case a6 => k_is); (case l6 => k_is); (case c6 => k_is); (case k6 => k_is); (case a7 => k_is); (case l7 => k_is); (case c7 => k_is); (case k7 => k_is); (case a8 => k_is); (case l8 => k_is); (case c8 => k_is); (case k8 => k_is); (case a9 => k_is); (case i9 => k_is); (case l9 => k_is); (case c9 => k_is); (case k9 => k_is); (case a10 => k_is); (case i10 => k_is); (case l10 => k_is); (case c10 => k_is); (case k10 => k_is); (case a11 => k_is); (case l11 => k_is); (case c11 => k_is); (case k11 => k_is); (case a12 => k_is); (case l12 => k_is); (case c12 => k_is); (case k12 => k_is); (case a13 => k_is); (case l13 => k_is); (case c13 => k_is); (case k13 => k_is); (case a14 => k_is); (case l14 => k_is); (case c14 => k_is); (case k14 => k_is); (case a15 => k_is); (case l15 => k_is); (case c15 => k_is); (case k15 => k_is); (case a16 => k_is); (case l16 => k_is); (case c16 => k_is); (case k16 => k_is); (case a17 => k_is); (case l17 => k_is); (case c17 => k_is); (case k17 => k_is); (case a18 => k_is); (case l18 => k_is); (case c18 => k_is); (case k18 => k_is); (case z0 => k_is); (case z1 => k_is); (case z2 => k_is); (case z3 => k_is); (case z4 => k_is); (case z5 => k_is); (case z6 => k_is); (case z7 => k_is); (case z8 => k_is); (case z9 => k_is)
