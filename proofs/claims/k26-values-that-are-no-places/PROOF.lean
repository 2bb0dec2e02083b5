import PyProof.Rows.All
import HandS.ForMost
import HandS.Lambda
import HandS.TupAny
import HandS.Wide
import HandS.Exc
import HandS.WordsExc
import HandS.TupMul
import HandS.IsInst
import HandS.Dict
import PyProof.ReprRoads
import HandS.Star
import HandS.Zip
import KE.KTupSum
import HandS.RevTup
import PyProof.ListNew
import PyProof.TupleOfGen
import KE.KDictZip
import HandS.EndTab
import KE.KNest
import KE.KNestM
import HandS.Rev
import KE.DataMinMax
import KE.SortData
import HandS.Style
import KE.KRevSl
import HandS.Conv
import HandS.DictComp
import HandS.SetBool
import HandS.Strs
import HandS.Set
import HandS.SetFor
import HandS.More
import PyProof.ReprLen
import PyProof.FitsInt
import PyProof.Rows.StrJoinMade
import PyProof.Rows.StrDigitsNeg
import HandS.SortKw
import HandS.Iter
import HandS.Deep
import KE.GoesEnum
import HandS.TupLe
import HandS.MethStar
import HandS.ExcField
import HandS.ExcIs
import HandS.ExcValue
import KE.KIsAll
import HandS.ExcInit
import HandS.ClsMeth
import HandS.Defaults
import HandS.Head0
import HandS.Head1
import HandS.Head2
import HandS.HeadHook1
import HandS.HeadHook4
import HandS.GenList
import Wide.BridgeG
import HandS.GenCall
import PySem.Challenge.RW_settledlines_k26_values_that_are_no_plac
set_option Elab.async false
set_option linter.all false
set_option maxRecDepth 100000
set_option maxHeartbeats 4000000
/-! QA: data without heap: what a value stands for (Rp), what a thing that one name alone holds stands for (Ow), a frame's slots (OwE), what a step leaves (Frm). -/
namespace QL
open PySem PySem.Spec PyProof.Rows L2

abbrev D := PyData
def kD : Key → D
  | .inl i => .int i
  | .inr x => .str x

mutual
/-- the value v stands for the data d, read in the heap part F that never changes -/
inductive Rp (F : Hp) : V → D → Prop
  | non : Rp F .non .none
  | bl (b : Bool) : Rp F (.bl b) (.bool b)
  | int (i : Int) : Rp F (.int i) (.int i)
  | str (x : Str) : Rp F (.str x) (.str x)
  | lst {a : Addr} {xs : List V} {ds : List D} : F a = some (.lst xs) → RpA F xs ds → Rp F (.ref a) (.list ds)
  | tup {a : Addr} {xs : List V} {ds : List D} : Rd F a (.tup xs) → RpA F xs ds → Rp F (.ref a) (.tuple ds)
  | dic {a : Addr} {kvs : List (Key × V)} {ds : List (D × D)} : Rd F a (.dK kvs) → RpK F kvs ds → Rp F (.ref a) (.dict ds)
inductive RpA (F : Hp) : List V → List D → Prop
  | nil : RpA F [] []
  | cons {v : V} {vs : List V} {d : D} {ds : List D} : Rp F v d → RpA F vs ds → RpA F (v :: vs) (d :: ds)
inductive RpK (F : Hp) : List (Key × V) → List (D × D) → Prop
  | nil : RpK F [] []
  | cons {k : Key} {v : V} {vs : List (Key × V)} {d : D} {ds : List (D × D)} : Rp F v d → RpK F vs ds → RpK F ((k, v) :: vs) ((kD k, d) :: ds)
end

theorem rd_mono {F F' : Hp} (s : Same F F') {a : Addr} {u : HO} (h : Rd F a u) : Rd F' a u := by
  rcases h with h | ⟨o, h⟩
  · exact .inl (s _ _ h)
  · exact .inr ⟨o, s _ _ h⟩
mutual
theorem Rp.mono {F F' : Hp} (s : Same F F') : ∀ {v : V} {d : D}, Rp F v d → Rp F' v d
  | _, _, .non => .non
  | _, _, .bl b => .bl b
  | _, _, .int i => .int i
  | _, _, .str x => .str x
  | _, _, .lst h r => .lst (s _ _ h) (RpA.mono s r)
  | _, _, .tup h r => .tup (rd_mono s h) (RpA.mono s r)
  | _, _, .dic h r => .dic (rd_mono s h) (RpK.mono s r)
theorem RpA.mono {F F' : Hp} (s : Same F F') : ∀ {v : List V} {d : List D}, RpA F v d → RpA F' v d
  | _, _, .nil => .nil
  | _, _, .cons h r => .cons (Rp.mono s h) (RpA.mono s r)
theorem RpK.mono {F F' : Hp} (s : Same F F') : ∀ {v : List (Key × V)} {d : List (D × D)}, RpK F v d → RpK F' v d
  | _, _, .nil => .nil
  | _, _, .cons h r => .cons (Rp.mono s h) (RpK.mono s r)
end

/-- what a name of a frame, or a field of an object that one name alone holds, stands for -/
inductive T
  | va (d : D)
  | lst (a : Addr) (ds : List D)
  | dic (a : Addr) (kvs : List (Key × D))
  | fdc (a : Addr) (kvs : List (Key × D))
  | ins (a C : Addr) (fs : List (Str × T))
  | hole (a : Addr)
  | ob (a : Option Addr) (φ : Hp → Hp → List Addr → V → Prop)

def T.addr : T → Option Addr
  | .va _ => none
  | .lst a _ => some a
  | .dic a _ => some a
  | .fdc a _ => some a
  | .ins a _ _ => some a
  | .hole a => some a
  | .ob a _ => a

/-- what stands there is no table of code objects -/
def Held (H : Hp) (a : Addr) : Prop := ∃ o, H a = some o ∧ ∀ ps, o ≠ .tbl ps
theorem Held.ne {H : Hp} {a : Addr} (h : Held H a) : H a ≠ none := by
  obtain ⟨o, e, _⟩ := h
  rw [e]; exact fun z => nomatch z
/-- a thing of another kind stays when its own objects and what is frozen stay -/
structure Stab (a : Option Addr) (φ : Hp → Hp → List Addr → V → Prop) : Prop where
  stay : ∀ F H F' H' O v, φ F H O v → Same F F' → (∀ b ∈ O, H' b = H b) → φ F' H' O v
  held : ∀ F H O v, φ F H O v → ∀ b ∈ O, Held H b
  at_ : ∀ F H O v b, φ F H O v → a = some b → v = .ref b

inductive RpT (F : Hp) : List (Key × V) → List (Key × D) → Prop
  | nil : RpT F [] []
  | cons {k : Key} {v : V} {vs : List (Key × V)} {d : D} {ds : List (Key × D)} : Rp F v d → RpT F vs ds → RpT F ((k, v) :: vs) ((k, d) :: ds)
theorem RpT.mono {F F' : Hp} (s : Same F F') : ∀ {v : List (Key × V)} {d : List (Key × D)}, RpT F v d → RpT F' v d
  | _, _, .nil => .nil
  | _, _, .cons h r => .cons (h.mono s) (RpT.mono s r)

mutual
inductive Ow (F H : Hp) : List Addr → V → T → Prop
  | va {v : V} {d : D} : Rp F v d → Ow F H [] v (.va d)
  | lst {a : Addr} {xs : List V} {ds : List D} : H a = some (.lst xs) → RpA F xs ds → Ow F H [a] (.ref a) (.lst a ds)
  | dic {a : Addr} {kvs : List (Key × V)} {ds : List (Key × D)} : H a = some (.dK kvs) → RpT F kvs ds → Ow F H [a] (.ref a) (.dic a ds)
  | fdc {a : Addr} {o : Obj} {kvs : List (Key × V)} {ds : List (Key × D)} : F a = some (.frz o (.dK kvs)) → RpT F kvs ds → Ow F H [] (.ref a) (.fdc a ds)
  | ins {a dx C : Addr} {vs : List (Str × V)} {fs : List (Str × T)} {O : List Addr} : H a = some (.ins C dx vs) → H dx = some (.own a) → OwF F H O vs fs → Ow F H (a :: dx :: O) (.ref a) (.ins a C fs)
  | hole {a : Addr} : Ow F H [] (.ref a) (.hole a)
  | ob {a : Option Addr} {φ : Hp → Hp → List Addr → V → Prop} {O : List Addr} {v : V} : φ F H O v → Stab a φ → Ow F H O v (.ob a φ)
inductive OwF (F H : Hp) : List Addr → List (Str × V) → List (Str × T) → Prop
  | nil : OwF F H [] [] []
  | cons {n : Str} {v : V} {t : T} {vs : List (Str × V)} {ts : List (Str × T)} {O1 O2 : List Addr} : Ow F H O1 v t → OwF F H O2 vs ts → OwF F H (O1 ++ O2) ((n, v) :: vs) ((n, t) :: ts)
end

mutual
theorem Ow.stay {F H F' H' : Hp} (s : Same F F') : ∀ {O : List Addr} {v : V} {t : T}, Ow F H O v t → (∀ a ∈ O, H' a = H a) → Ow F' H' O v t
  | _, _, _, .va r, _ => .va (r.mono s)
  | _, _, _, .lst h r, k => .lst ((k _ (List.mem_singleton.mpr rfl)).trans h) (r.mono s)
  | _, _, _, .dic h r, k => .dic ((k _ (List.mem_singleton.mpr rfl)).trans h) (r.mono s)
  | _, _, _, .fdc h r, k => .fdc (s _ _ h) (r.mono s)
  | _, _, _, .ins h1 h2 r, k => .ins ((k _ List.mem_cons_self).trans h1) ((k _ (List.mem_cons_of_mem _ List.mem_cons_self)).trans h2)
      (OwF.stay s r fun a ha => k a (List.mem_cons_of_mem _ (List.mem_cons_of_mem _ ha)))
  | _, _, _, .hole, _ => .hole
  | _, _, _, .ob h st, k => .ob (st.stay _ _ _ _ _ _ h s k) st
theorem OwF.stay {F H F' H' : Hp} (s : Same F F') : ∀ {O : List Addr} {v : List (Str × V)} {t : List (Str × T)}, OwF F H O v t → (∀ a ∈ O, H' a = H a) → OwF F' H' O v t
  | _, _, _, .nil, _ => .nil
  | _, _, _, .cons h r, k => .cons (Ow.stay s h fun a ha => k a (List.mem_append_left _ ha)) (OwF.stay s r fun a ha => k a (List.mem_append_right _ ha))
end
mutual
theorem Ow.held {F H : Hp} : ∀ {O : List Addr} {v : V} {t : T}, Ow F H O v t → ∀ a ∈ O, Held H a
  | _, _, _, .va r, a, ha => nomatch ha
  | _, _, _, .lst h r, a, ha => by rw [List.mem_singleton.mp ha]; exact ⟨_, h, fun _ z => nomatch z⟩
  | _, _, _, .dic h r, a, ha => by rw [List.mem_singleton.mp ha]; exact ⟨_, h, fun _ z => nomatch z⟩
  | _, _, _, .fdc h r, a, ha => nomatch ha
  | _, _, _, .ins h1 h2 r, a, ha => by
    rcases List.mem_cons.mp ha with rfl | ha
    · exact ⟨_, h1, fun _ z => nomatch z⟩
    rcases List.mem_cons.mp ha with rfl | ha
    · exact ⟨_, h2, fun _ z => nomatch z⟩
    · exact OwF.held r a ha
  | _, _, _, .hole, a, ha => nomatch ha
  | _, _, _, .ob h st, a, ha => st.held _ _ _ _ h a ha
theorem OwF.held {F H : Hp} : ∀ {O : List Addr} {v : List (Str × V)} {t : List (Str × T)}, OwF F H O v t → ∀ a ∈ O, Held H a
  | _, _, _, .nil, a, ha => nomatch ha
  | _, _, _, .cons h r, a, ha => (List.mem_append.mp ha).elim (Ow.held h a) (OwF.held r a)
end
theorem Ow.there {F H : Hp} {O : List Addr} {v : V} {t : T} (h : Ow F H O v t) (a : Addr) (ha : a ∈ O) : H a ≠ none := (h.held a ha).ne
theorem OwF.there {F H : Hp} {O : List Addr} {v : List (Str × V)} {t : List (Str × T)} (h : OwF F H O v t) (a : Addr) (ha : a ∈ O) : H a ≠ none := (h.held a ha).ne
theorem Ow.ref {F H : Hp} {O : List Addr} {v : V} {t : T} {a : Addr} (h : Ow F H O v t) (e : t.addr = some a) : v = .ref a := by
  cases h with
  | va r => cases e
  | lst h r => cases e; rfl
  | dic h r => cases e; rfl
  | fdc h r => cases e; rfl
  | ins h1 h2 r => cases e; rfl
  | hole => cases e; rfl
  | ob h st => exact st.at_ _ _ _ _ _ h e

abbrev Env := List (Option T)
inductive OwE (F H : Hp) : List Addr → L2.St → Env → Prop
  | nil : OwE F H [] [] []
  | un {O : List Addr} {σ : L2.St} {e : Env} {x : Option V} : OwE F H O σ e → OwE F H O (x :: σ) (none :: e)
  | so {O1 O2 : List Addr} {σ : L2.St} {e : Env} {v : V} {t : T} : Ow F H O1 v t → OwE F H O2 σ e → OwE F H (O1 ++ O2) (some v :: σ) (some t :: e)
theorem OwE.stay {F H F' H' : Hp} (s : Same F F') : ∀ {O : List Addr} {σ : L2.St} {e : Env}, OwE F H O σ e → (∀ a ∈ O, H' a = H a) → OwE F' H' O σ e
  | _, _, _, .nil, _ => .nil
  | _, _, _, .un r, k => .un (OwE.stay s r k)
  | _, _, _, .so h r, k => .so (h.stay s fun a ha => k a (List.mem_append_left _ ha)) (OwE.stay s r fun a ha => k a (List.mem_append_right _ ha))
theorem OwE.held {F H : Hp} : ∀ {O : List Addr} {σ : L2.St} {e : Env}, OwE F H O σ e → ∀ a ∈ O, Held H a
  | _, _, _, .nil, a, ha => nomatch ha
  | _, _, _, .un r, a, ha => OwE.held r a ha
  | _, _, _, .so h r, a, ha => (List.mem_append.mp ha).elim (Ow.held h a) (OwE.held r a)
theorem OwE.there {F H : Hp} {O : List Addr} {σ : L2.St} {e : Env} (h : OwE F H O σ e) (a : Addr) (ha : a ∈ O) : H a ≠ none := (h.held a ha).ne
theorem OwE.len {F H : Hp} : ∀ {O : List Addr} {σ : L2.St} {e : Env}, OwE F H O σ e → σ.length = e.length
  | _, _, _, .nil => rfl
  | _, _, _, .un r => congrArg (· + 1) (OwE.len r)
  | _, _, _, .so _ r => congrArg (· + 1) (OwE.len r)

/-! ### places within a thing -/
def getT : List Str → T → Option T
  | [], t => some t
  | f :: p, .ins _ _ fs => match fs.lookup f with
    | some t => getT p t
    | none => none
  | _ :: _, _ => none
/-- the first field of that name, replaced -/
def repF (f : Str) (u : T) : List (Str × T) → List (Str × T)
  | [] => []
  | (n, t) :: r => if f == n then (n, u) :: r else (n, t) :: repF f u r
theorem repF_hit {f n : Str} {u t : T} {r : List (Str × T)} (h : (f == n) = true) : repF f u ((n, t) :: r) = (n, u) :: r := by unfold repF; rw [if_pos h]
theorem repF_miss {f n : Str} {u t : T} {r : List (Str × T)} (h : (f == n) = false) : repF f u ((n, t) :: r) = (n, t) :: repF f u r := by
  conv => lhs; unfold repF
  rw [if_neg (by rw [h]; exact Bool.false_ne_true)]
def setT : List Str → T → T → T
  | [], u, _ => u
  | f :: p, u, .ins a C fs => match fs.lookup f with
    | some t => .ins a C (repF f (setT p u t) fs)
    | none => .ins a C fs
  | _ :: _, _, t => t
def getP (i : Nat) (p : List Str) (env : Env) : Option T := match env[i]? with
  | some (some t) => getT p t
  | _ => none
def setO (p : List Str) (u : T) : Option T → Option T
  | some t => some (setT p u t)
  | none => none
def setP : Nat → List Str → T → Env → Env
  | _, _, _, [] => []
  | 0, p, u, o :: e => setO p u o :: e
  | i + 1, p, u, o :: e => o :: setP i p u e
theorem setP_eq {p : List Str} {u t : T} : ∀ {i : Nat} {env : Env}, env[i]? = some (some t) → setP i p u env = env.set i (some (setT p u t))
  | _, [], h => nomatch h
  | 0, o :: e, h => by cases h; rfl
  | i + 1, o :: e, h => congrArg (o :: ·) (setP_eq (i := i) (env := e) h)

/-- a part of a thing is taken out, and another one put there -/
def Hung (F H : Hp) (O : List Addr) (w : V) (u : T) (R : Hp → Hp → List Addr → T → Prop) : Prop :=
  ∃ Oj O', Ow F H Oj w u ∧ O.Perm (Oj ++ O') ∧ ∀ F' H' Oj' u', Same F F' → (∀ a ∈ O', H' a = H a) → Ow F' H' Oj' w u' → ∃ O'', R F' H' O'' u' ∧ O''.Perm (Oj' ++ O')

theorem perm_mid {α : Type} {A B C E : List α} (h : B.Perm (C ++ E)) : (A ++ B).Perm (C ++ (A ++ E)) :=
  (h.append_left A).trans (by rw [← List.append_assoc, ← List.append_assoc]; exact (List.perm_append_comm).append_right E)

theorem OwF.focus {F H : Hp} {f : Str} : ∀ {fs : List (Str × T)} {vs : List (Str × V)} {O : List Addr} {t : T}, OwF F H O vs fs → fs.lookup f = some t →
    ∃ w, Hung F H O w t (fun F' H' O'' u' => OwF F' H' O'' vs (repF f u' fs))
  | [], _, _, _, _, e => nomatch e
  | (n, t0) :: fs, _, _, t, .cons (O1 := O1) (O2 := O2) h r, e => by
    rw [List.lookup_cons] at e
    cases hb : f == n with
    | true =>
      rw [hb] at e
      cases e
      refine ⟨_, O1, O2, h, List.Perm.refl _, fun F' H' Oj' u' s k h' => ⟨Oj' ++ O2, ?_, List.Perm.refl _⟩⟩
      show OwF _ _ _ _ (repF f u' ((n, t0) :: fs))
      rw [repF_hit hb]
      exact .cons h' (r.stay s k)
    | false =>
      rw [hb] at e
      obtain ⟨w, Oj, O', h1, h2, h3⟩ := OwF.focus r e
      refine ⟨w, Oj, O1 ++ O', h1, perm_mid h2, fun F' H' Oj' u' s k h' => ?_⟩
      obtain ⟨O'', q1, q2⟩ := h3 F' H' Oj' u' s (fun a ha => k a (List.mem_append_right _ ha)) h'
      refine ⟨O1 ++ O'', ?_, perm_mid q2⟩
      show OwF _ _ _ _ (repF f u' ((n, t0) :: fs))
      rw [repF_miss hb]
      exact .cons (h.stay s fun a ha => k a (List.mem_append_left _ ha)) q1

theorem Ow.focus {F H : Hp} : ∀ {p : List Str} {t u : T} {O : List Addr} {v : V}, Ow F H O v t → getT p t = some u →
    ∃ w, Hung F H O w u (fun F' H' O'' u' => Ow F' H' O'' v (setT p u' t)) ∧ (p = [] → w = v)
  | [], t, u, O, v, h, e => by
    cases e
    exact ⟨v, ⟨O, [], h, by rw [List.append_nil], fun F' H' Oj' u' _ _ h' => ⟨Oj', h', by rw [List.append_nil]⟩⟩, fun _ => rfl⟩
  | f :: p, t, u, O, v, h, e => by
    cases t with
    | ins a C fs =>
      cases h with
      | ins h1 h2 r =>
        rename_i dx vs Of
        unfold getT at e
        cases hl : fs.lookup f with
        | none => rw [hl] at e; cases e
        | some t1 =>
          rw [hl] at e
          obtain ⟨w1, Oj1, O1', g1, g2, g3⟩ := OwF.focus r hl
          obtain ⟨w, ⟨Oj, O', k1, k2, k3⟩, _⟩ := Ow.focus (p := p) g1 e
          refine ⟨w, ⟨Oj, a :: dx :: (O' ++ O1'), k1, ?_, fun F' H' Oj' u' s k h' => ?_⟩, fun z => nomatch z⟩
          · have e1 : Of.Perm (Oj ++ (O' ++ O1')) := g2.trans (by rw [← List.append_assoc]; exact k2.append_right O1')
            exact perm_mid (A := [a, dx]) e1
          · obtain ⟨O2, q1, q2⟩ := k3 F' H' Oj' u' s (fun b hb => k b (List.mem_cons_of_mem _ (List.mem_cons_of_mem _ (List.mem_append_left _ hb)))) h'
            obtain ⟨O3, q3, q4⟩ := g3 F' H' O2 _ s (fun b hb => k b (List.mem_cons_of_mem _ (List.mem_cons_of_mem _ (List.mem_append_right _ hb)))) q1
            refine ⟨a :: dx :: O3, ?_, ?_⟩
            · unfold setT
              rw [hl]
              exact .ins ((k _ List.mem_cons_self).trans h1) ((k _ (List.mem_cons_of_mem _ List.mem_cons_self)).trans h2) q3
            · have e1 : O3.Perm (Oj' ++ (O' ++ O1')) := q4.trans (by rw [← List.append_assoc]; exact q2.append_right O1')
              exact perm_mid (A := [a, dx]) e1
    | va d => cases e
    | lst a ds => cases e
    | dic a ds => cases e
    | fdc a ds => cases e
    | hole a => cases e
    | ob a φ => cases e

theorem OwE.focusI {F H : Hp} : ∀ {env : Env} {σ : L2.St} {O : List Addr} {i : Nat} {t : T}, OwE F H O σ env → env[i]? = some (some t) →
    ∃ w, σ[i]? = some (some w) ∧ Hung F H O w t (fun F' H' O'' u' => OwE F' H' O'' σ (env.set i (some u')))
  | _, _, _, _, _, .nil, e => nomatch e
  | _, _, _, 0, t, .un r, e => by cases e
  | _, _, _, i + 1, t, .un r, e => by
    obtain ⟨w, g, Oj, O', h1, h2, h3⟩ := OwE.focusI r (i := i) e
    refine ⟨w, g, Oj, O', h1, h2, fun F' H' Oj' u' s k h' => ?_⟩
    obtain ⟨O'', q1, q2⟩ := h3 F' H' Oj' u' s k h'
    exact ⟨O'', .un q1, q2⟩
  | _, _, _, 0, t, .so (O1 := O1) (O2 := O2) h r, e => by
    cases e
    refine ⟨_, rfl, O1, O2, h, List.Perm.refl _, fun F' H' Oj' u' s k h' => ⟨Oj' ++ O2, .so h' (r.stay s k), List.Perm.refl _⟩⟩
  | _, _, _, i + 1, t, .so (O1 := O1) (O2 := O2) h r, e => by
    obtain ⟨w, g, Oj, O', h1, h2, h3⟩ := OwE.focusI r (i := i) e
    refine ⟨w, g, Oj, O1 ++ O', h1, perm_mid h2, fun F' H' Oj' u' s k h' => ?_⟩
    obtain ⟨O'', q1, q2⟩ := h3 F' H' Oj' u' s (fun a ha => k a (List.mem_append_right _ ha)) h'
    exact ⟨O1 ++ O'', .so (h.stay s fun a ha => k a (List.mem_append_left _ ha)) q1, perm_mid q2⟩

theorem OwE.focus {F H : Hp} {env : Env} {σ : L2.St} {O : List Addr} {i : Nat} {p : List Str} {u : T} (h : OwE F H O σ env) (e : getP i p env = some u) :
    ∃ w, Hung F H O w u (fun F' H' O'' u' => OwE F' H' O'' σ (setP i p u' env)) ∧ (p = [] → σ[i]? = some (some w)) := by
  unfold getP at e
  cases hi : env[i]? with
  | none => rw [hi] at e; cases e
  | some o =>
    cases o with
    | none => rw [hi] at e; cases e
    | some t =>
      rw [hi] at e
      obtain ⟨w0, g0, Oj0, O0', h1, h2, h3⟩ := OwE.focusI h hi
      obtain ⟨w, ⟨Oj, O', k1, k2, k3⟩, k4⟩ := h1.focus e
      refine ⟨w, ⟨Oj, O' ++ O0', k1, h2.trans (by rw [← List.append_assoc]; exact k2.append_right O0'), fun F' H' Oj' u' s k h' => ?_⟩, fun z => by rw [k4 z]; exact g0⟩
      obtain ⟨O2, q1, q2⟩ := k3 F' H' Oj' u' s (fun b hb => k b (List.mem_append_left _ hb)) h'
      obtain ⟨O3, q3, q4⟩ := h3 F' H' O2 _ s (fun b hb => k b (List.mem_append_right _ hb)) q1
      refine ⟨O3, ?_, q4.trans (by rw [← List.append_assoc]; exact q2.append_right O0')⟩
      show OwE F' H' O3 σ (setP i p u' env)
      rw [setP_eq hi]
      exact q3

/-! ### the state -/
/-- the table at p tells the code object at c -/
def Told (H : Hp) (p c : Addr) : Prop := ∃ (ps : Array Value) (pos : Pos), H p = some (.tbl ps) ∧ codeAmong pos ps.toList = some (.ref c)
theorem Told.code {H : Hp} {p c : Addr} {q : Str} (t : Told H p c) (s : LamX.TabS H p q) : H c = some (LamX.CodeO c q) := by
  obtain ⟨ps, pos, h1, h2⟩ := t
  obtain ⟨ps', g1, _, g3⟩ := s
  rw [h1] at g1
  cases g1
  obtain ⟨c', e1, e2⟩ := g3 pos _ h2
  cases e1
  exact e2
/-- the tables grow alone -/
def TabM (Tq : List (Addr × Str)) (H0 H : Hp) : Prop := ∀ p ∈ Tq, LamX.TabS H0 p.1 p.2 → LamX.TabS H p.1 p.2 ∧ ∀ c, Told H0 p.1 c → Told H p.1 c
theorem TabM.refl {Tq : List (Addr × Str)} (H : Hp) : TabM Tq H H := fun _ _ h => ⟨h, fun _ z => z⟩
theorem TabM.trans {Tq : List (Addr × Str)} {H0 H1 H2 : Hp} (a : TabM Tq H0 H1) (b : TabM Tq H1 H2) : TabM Tq H0 H2 := fun p m t => ⟨(b p m (a p m t).1).1, fun c z => (b p m (a p m t).1).2 c ((a p m t).2 c z)⟩
/-- what a step leaves -/
structure Frm (Tq : List (Addr × Str)) (H0 F0 : Hp) (O0 : List Addr) (H F : Hp) (O : List Addr) : Prop where
  fz : Same F0 F
  out : ∀ a o, H0 a = some o → (∀ ps, o ≠ .tbl ps) → a ∉ O0 → H a = some o
  al : ∀ a, H0 a ≠ none → H a ≠ none
  newF : ∀ a, F a ≠ none → F0 a ≠ none ∨ H0 a = none ∨ a ∈ O0
  newO : ∀ a ∈ O, a ∈ O0 ∨ H0 a = none
  tb : TabM Tq H0 H
theorem Frm.refl {Tq : List (Addr × Str)} (H F : Hp) (O : List Addr) : Frm Tq H F O H F O := ⟨Same.refl _, fun _ _ h _ _ => h, fun _ h => h, fun _ h => .inl h, fun _ h => .inl h, TabM.refl _⟩
/-- one object is written: no table, no code object of a table -/
theorem tab_upd {Tq : List (Addr × Str)} {H : Hp} {a : Addr} {x : HO} (h : ∀ o, H a = some o → (∀ ps, o ≠ .tbl ps) ∧ ∀ q, o ≠ LamX.CodeO a q) : TabM Tq H (upd H a x) := fun p m t => by
  obtain ⟨ps, h1, h2, h3⟩ := t
  have k : upd H a x p.1 = H p.1 := upd_ne fun z => by rw [z] at h1; exact (h _ h1).1 _ rfl
  refine ⟨⟨ps, k.trans h1, h2, fun pos cv hc => ?_⟩, fun c ⟨ps', pos, g1, g2⟩ => ⟨ps', pos, k.trans g1, g2⟩⟩
  obtain ⟨c, e1, e2⟩ := h3 pos cv hc
  exact ⟨c, e1, by rw [upd_ne fun z => by subst z; exact (h _ e2).2 _ rfl]; exact e2⟩
theorem tab_own {Tq : List (Addr × Str)} {H : Hp} {a : Addr} {o x : HO} (h : H a = some o) (nt : ∀ ps, o ≠ .tbl ps := by intro _ z; nomatch z) (nc : ∀ q, o ≠ LamX.CodeO a q := by intro _ z; nomatch z) : TabM Tq H (upd H a x) := tab_upd fun o' e => by rw [h] at e; cases e; exact ⟨nt, nc⟩
theorem tab_new {Tq : List (Addr × Str)} {H : Hp} {a : Addr} {x : HO} (h : H a = none) : TabM Tq H (upd H a x) := tab_upd fun o e => by rw [h] at e; cases e
theorem tab_same {Tq : List (Addr × Str)} {H H' : Hp} (s : Same H H') : TabM Tq H H' := fun p m t => ⟨t.ext s, fun c ⟨ps, pos, g1, g2⟩ => ⟨ps, pos, s _ _ g1, g2⟩⟩
/-- the tables: no part of what is frozen or held -/
structure TabZ (Tq : List (Addr × Str)) (H F : Hp) (O : List Addr) : Prop where
  tabs : ∀ p ∈ Tq, p.2 ≠ "()" → LamX.TabS H p.1 p.2
  tn : ∀ p ∈ Tq, p.2 ≠ "()" → F p.1 = none
  to : ∀ p ∈ Tq, p.2 ≠ "()" → p.1 ∉ O
  em : ∀ p ∈ Tq, p.2 = "()" → Rd F p.1 (.tup [])
theorem Frm.trans {Tq : List (Addr × Str)} {H0 F0 H1 F1 H2 F2 : Hp} {O0 O1 O2 : List Addr} (a : Frm Tq H0 F0 O0 H1 F1 O1) (b : Frm Tq H1 F1 O1 H2 F2 O2) : Frm Tq H0 F0 O0 H2 F2 O2 where
  fz := a.fz.trans b.fz
  out := fun c o h nt n => b.out c o (a.out c o h nt n) nt fun z => (a.newO c z).elim n fun q => by rw [q] at h; cases h
  tb := a.tb.trans b.tb
  al := fun c h => b.al c (a.al c h)
  newF := fun c h => by
    rcases b.newF c h with z | z | z
    · exact a.newF c z
    · refine .inr (.inl ?_)
      cases q : H0 c with
      | none => rfl
      | some o => exact absurd z (a.al c (by rw [q]; exact fun z => nomatch z))
    · exact (a.newO c z).elim (fun q => .inr (.inr q)) fun q => .inr (.inl q)
  newO := fun c h => by
    rcases b.newO c h with z | z
    · exact a.newO c z
    · refine .inr ?_
      cases q : H0 c with
      | none => rfl
      | some o => exact absurd z (a.al c (by rw [q]; exact fun z => nomatch z))
/-- only the list of the held objects is written otherwise -/
theorem Frm.perm {Tq : List (Addr × Str)} {H0 F0 H F : Hp} {O0 O0' O O' : List Addr} (a : Frm Tq H0 F0 O0 H F O) (h0 : ∀ b, b ∈ O0 ↔ b ∈ O0') (h : ∀ b ∈ O', b ∈ O) : Frm Tq H0 F0 O0' H F O' :=
  ⟨a.fz, fun c o e nt n => a.out c o e nt fun z => n ((h0 c).mp z), a.al, fun c e => (a.newF c e).imp_right (·.imp_right (h0 c).mp), fun c e => (a.newO c (h c e)).imp_left (h0 c).mp, a.tb⟩
/-- a step of a part, the other held objects aside -/
theorem Frm.frame {Tq : List (Addr × Str)} {H0 F0 H F : Hp} {O0 O R : List Addr} (a : Frm Tq H0 F0 O0 H F O) : Frm Tq H0 F0 (O0 ++ R) H F (O ++ R) where
  fz := a.fz
  out := fun c o e nt n => a.out c o e nt fun z => n (List.mem_append_left _ z)
  tb := a.tb
  al := a.al
  newF := fun c e => (a.newF c e).imp_right (·.imp_right (List.mem_append_left _))
  newO := fun c e => (List.mem_append.mp e).elim (fun z => (a.newO c z).imp_left (List.mem_append_left _)) fun z => .inl (List.mem_append_right _ z)
/-- the state at a def's entry; Tq: the tables of code objects that are known -/
structure Zb (Tq : List (Addr × Str)) where
  H : Hp
  F : Hp
  O : List Addr
  tb : TabZ Tq H F O
/-- F never changes; O are the objects that are held by one name alone; Z: the entry -/
structure Bas {Tq : List (Addr × Str)} (Z : Zb Tq) (F H : Hp) (O : List Addr) : Prop where
  sub : Same F H
  nd : O.Nodup
  dis : ∀ a ∈ O, F a = none
  abs : Frm Tq Z.H Z.F Z.O H F O
/-- the other held objects stand as they were -/
theorem Frm.rest {Tq : List (Addr × Str)} {H0 F0 H F : Hp} {O0 O R : List Addr} (a : Frm Tq H0 F0 O0 H F O) (nd : (O0 ++ R).Nodup) (ex : ∀ b ∈ R, Held H0 b) : ∀ b ∈ R, H b = H0 b := fun b hb => by
  obtain ⟨o, q, nt⟩ := ex b hb
  rw [q]
  exact a.out b o q nt fun z => (List.nodup_append.mp nd).2.2 b z b hb rfl
theorem Bas.frame {Tq : List (Addr × Str)} {Z Z' : Zb Tq} {H0 F0 H F : Hp} {O0 O R : List Addr} (a : Frm Tq H0 F0 O0 H F O) (b0 : Bas Z F0 H0 (O0 ++ R)) (b : Bas Z' F H O) (ex : ∀ c ∈ R, Held H0 c) : Bas Z F H (O ++ R) := by
  refine ⟨b.sub, List.nodup_append.mpr ⟨b.nd, (List.nodup_append.mp b0.nd).2.1, fun x hx y hy e => ?_⟩, fun c hc => ?_, b0.abs.trans a.frame⟩
  · subst e
    rcases a.newO x hx with z | z
    · exact (List.nodup_append.mp b0.nd).2.2 x z x hy rfl
    · exact (ex x hy).ne z
  · rcases List.mem_append.mp hc with z | z
    · exact b.dis c z
    · cases q : F c with
      | none => rfl
      | some o =>
        rcases a.newF c (by rw [q]; exact fun z => nomatch z) with r | r | r
        · exact absurd (b0.dis c (List.mem_append_right _ z)) r
        · exact absurd r (ex c z).ne
        · exact absurd rfl ((List.nodup_append.mp b0.nd).2.2 c r c z)
theorem Bas.perm {Tq : List (Addr × Str)} {Z : Zb Tq} {F H : Hp} {O O' : List Addr} (b : Bas Z F H O) (p : O.Perm O') : Bas Z F H O' := ⟨b.sub, p.nodup b.nd, fun a ha => b.dis a (p.mem_iff.mpr ha), b.abs.perm (fun _ => Iff.rfl) fun c hc => p.mem_iff.mpr hc⟩
theorem Bas.left {Tq : List (Addr × Str)} {Z : Zb Tq} {F H : Hp} {O R : List Addr} (b : Bas Z F H (O ++ R)) : Bas Z F H O := ⟨b.sub, (List.nodup_append.mp b.nd).1, fun a ha => b.dis a (List.mem_append_left _ ha), b.abs.perm (fun _ => Iff.rfl) fun c hc => List.mem_append_left _ hc⟩
theorem Bas.right {Tq : List (Addr × Str)} {Z : Zb Tq} {F H : Hp} {O R : List Addr} (b : Bas Z F H (O ++ R)) : Bas Z F H R := ⟨b.sub, (List.nodup_append.mp b.nd).2.1, fun a ha => b.dis a (List.mem_append_right _ ha), b.abs.perm (fun _ => Iff.rfl) fun c hc => List.mem_append_right _ hc⟩
theorem Bas.tabs {F H : Hp} {O : List Addr} {Tq : List (Addr × Str)} {Z : Zb Tq} (b : Bas Z F H O) : TabZ Tq H F O :=
  have no : ∀ p ∈ Tq, p.2 ≠ "()" → Z.H p.1 ≠ none := fun p hp ne z => by
    obtain ⟨ps, h, _⟩ := Z.tb.tabs p hp ne
    rw [z] at h
    cases h
  ⟨fun p hp ne => (b.abs.tb p hp (Z.tb.tabs p hp ne)).1, fun p hp ne => by
    cases q : F p.1 with
    | none => rfl
    | some x =>
      rcases b.abs.newF p.1 (by rw [q]; exact fun z => nomatch z) with y | y | y
      · exact absurd (Z.tb.tn p hp ne) y
      · exact absurd y (no p hp ne)
      · exact absurd y (Z.tb.to p hp ne), fun p hp ne z => (b.abs.newO p.1 z).elim (Z.tb.to p hp ne) (no p hp ne), fun p hp e => rd_mono b.abs.fz (Z.tb.em p hp e)⟩
theorem Bas.entry {F H : Hp} {O : List Addr} {Tq : List (Addr × Str)} {Z : Zb Tq} (b : Bas Z F H O) : Bas ⟨H, F, O, b.tabs⟩ F H O := ⟨b.sub, b.nd, b.dis, Frm.refl _ _ _⟩
end QL

/-! QB: what an expression gives, over data: WE (a result), WA (an argument), WAs, WT (a test); WS, WSs (statements). -/
namespace QL
open PySem PySem.Spec PyProof.Rows L2

/-- a result: a thing of its own, or what stands at a place of a name (an object that this name holds) -/
inductive R
  | t (t : T)
  | bor (a : Addr) (i : Nat) (p : List Str)
/-- an argument -/
inductive A
  | va (d : D)
  | bor (a : Addr) (i : Nat) (p : List Str)

def frzT : T → Option D
  | .va d => some d
  | .lst _ ds => some (.list ds)
  | .dic _ kvs => some (.dict (kvs.map fun p => (kD p.1, p.2)))
  | .fdc _ kvs => some (.dict (kvs.map fun p => (kD p.1, p.2)))
  | _ => none
def toA (r : R) (k : A → Prop) : Prop := match r with
  | .bor a i p => k (.bor a i p)
  | .t t => match frzT t with
    | some d => k (.va d)
    | none => False

def StR (F H : Hp) (O : List Addr) (σ : L2.St) (env : Env) (v : V) : R → Prop
  | .t t => ∃ O1 O2, O = O1 ++ O2 ∧ OwE F H O1 σ env ∧ Ow F H O2 v t
  | .bor a _ _ => OwE F H O σ env ∧ v = .ref a
def StA (F : Hp) (v : V) : A → Prop
  | .va d => Rp F v d
  | .bor a _ _ => v = .ref a
theorem StA.mono {F F' : Hp} (s : Same F F') {v : V} {a : A} (h : StA F v a) : StA F' v a := by
  cases a with
  | va d => exact Rp.mono s h
  | bor a i p => exact h
inductive StAs (F : Hp) : List V → List A → Prop
  | nil : StAs F [] []
  | cons {v : V} {vs : List V} {a : A} {as : List A} : StA F v a → StAs F vs as → StAs F (v :: vs) (a :: as)
theorem StAs.mono {F F' : Hp} (s : Same F F') : ∀ {v : List V} {a : List A}, StAs F v a → StAs F' v a
  | _, _, .nil => .nil
  | _, _, .cons h r => .cons (h.mono s) (StAs.mono s r)

/-! ### freezing -/
def frzF (F H : Hp) (O : List Addr) : Hp := fun a => if a ∈ O then H a else F a
theorem frzF_in {F H : Hp} {O : List Addr} {a : Addr} (h : a ∈ O) : frzF F H O a = H a := by unfold frzF; rw [if_pos h]
theorem frzF_out {F H : Hp} {O : List Addr} {a : Addr} (h : a ∉ O) : frzF F H O a = F a := by unfold frzF; rw [if_neg h]
theorem frzF_from {F H : Hp} {O : List Addr} (d : ∀ a ∈ O, F a = none) : Same F (frzF F H O) := fun b o e => by
  by_cases h : b ∈ O
  · rw [d b h] at e; cases e
  · rw [frzF_out h]; exact e
theorem frzF_to {F H : Hp} {O : List Addr} (s : Same F H) : Same (frzF F H O) H := fun b o e => by
  by_cases h : b ∈ O
  · rw [frzF_in h] at e; exact e
  · rw [frzF_out h] at e; exact s b o e
theorem RpT.rpk {F : Hp} : ∀ {vs : List (Key × V)} {ds : List (Key × D)}, RpT F vs ds → RpK F vs (ds.map fun p => (kD p.1, p.2))
  | _, _, .nil => .nil
  | _, _, .cons h r => .cons h r.rpk
theorem Ow.frz {F H F' : Hp} {O : List Addr} {v : V} {t : T} {d : D} (h : Ow F H O v t) (s : Same F F') (k : ∀ a ∈ O, F' a = H a) (f : frzT t = some d) : Rp F' v d := by
  cases h with
  | va r => cases f; exact r.mono s
  | lst h r => cases f; exact .lst ((k _ (List.mem_singleton.mpr rfl)).trans h) (r.mono s)
  | dic h r => cases f; exact .dic (.inl ((k _ (List.mem_singleton.mpr rfl)).trans h)) (r.rpk.mono s)
  | fdc h r => cases f; exact .dic (.inr ⟨_, s _ _ h⟩) (r.rpk.mono s)
  | ins h1 h2 r => cases f
  | hole => cases f
  | ob h st => cases f
/-- a part of what is held is held no more: it never changes from now on -/
theorem Bas.freeze {Tq : List (Addr × Str)} {Z : Zb Tq} {F H : Hp} {O1 O2 : List Addr} (b : Bas Z F H (O1 ++ O2)) : Bas Z (frzF F H O2) H O1 ∧ Same F (frzF F H O2) ∧ (∀ a ∈ O2, frzF F H O2 a = H a) ∧ Frm Tq H F (O1 ++ O2) H (frzF F H O2) O1 := by
  have s : Same F (frzF F H O2) := frzF_from b.right.dis
  have fr : Frm Tq H F (O1 ++ O2) H (frzF F H O2) O1 := ⟨s, fun _ _ h _ _ => h, fun _ h => h, fun a h => by
    by_cases q : a ∈ O2
    · exact .inr (.inr (List.mem_append_right _ q))
    · rw [frzF_out q] at h
      exact .inl h, fun a ha => .inl (List.mem_append_left _ ha), TabM.refl _⟩
  refine ⟨⟨frzF_to b.sub, b.left.nd, fun a ha => ?_, b.abs.trans fr⟩, s, fun a ha => frzF_in ha, fr⟩
  rw [frzF_out fun z => (List.nodup_append.mp b.nd).2.2 a ha a z rfl]
  exact b.left.dis a ha

/-! ### expressions -/
def Post {Tq : List (Addr × Str)} (Z : Zb Tq) (σ : L2.St) (H0 F0 : Hp) (O0 : List Addr) (P : R → Env → Prop) : VK := fun v H => ∃ F O r env, Bas Z F H O ∧ StR F H O σ env v r ∧ Frm Tq H0 F0 O0 H F O ∧ P r env
def PostA {Tq : List (Addr × Str)} (Z : Zb Tq) (σ : L2.St) (H0 F0 : Hp) (O0 : List Addr) (P : A → Env → Prop) : VK := fun v H => ∃ F O a env, Bas Z F H O ∧ OwE F H O σ env ∧ StA F v a ∧ Frm Tq H0 F0 O0 H F O ∧ P a env
def PostAs {Tq : List (Addr × Str)} (Z : Zb Tq) (σ : L2.St) (H0 F0 : Hp) (O0 : List Addr) (P : List A → Env → Prop) : List V → Hp → Prop := fun vs H => ∃ F O as env, Bas Z F H O ∧ OwE F H O σ env ∧ StAs F vs as ∧ Frm Tq H0 F0 O0 H F O ∧ P as env
def PostT {Tq : List (Addr × Str)} (Z : Zb Tq) (σ : L2.St) (H0 F0 : Hp) (O0 : List Addr) (P : Bool → Env → Prop) : Bool → Hp → Prop := fun b H => ∃ F O env, Bas Z F H O ∧ OwE F H O σ env ∧ Frm Tq H0 F0 O0 H F O ∧ P b env

def WE {Tq : List (Addr × Str)} (Z : Zb Tq) (X : Cx) (e : Expr) (env : Env) (P : R → Env → Prop) : Prop :=
  ∀ (pins : List (Addr × Obj)) (s : Shared) (σ : L2.St) (H F : Hp) (O : List Addr), Inv X pins σ H s → Bas Z F H O → OwE F H O σ env →
    wpAny (model X.prog X.w) X.A (eval e X.env) (EP X pins σ (Post Z σ H F O P)) X.xe s
def WA {Tq : List (Addr × Str)} (Z : Zb Tq) (X : Cx) (e : Expr) (env : Env) (P : A → Env → Prop) : Prop := WE Z X e env fun r env' => toA r fun a => P a env'
def WT {Tq : List (Addr × Str)} (Z : Zb Tq) (X : Cx) (e : Expr) (env : Env) (P : Bool → Env → Prop) : Prop :=
  ∀ (pins : List (Addr × Obj)) (s : Shared) (σ : L2.St) (H F : Hp) (O : List Addr), Inv X pins σ H s → Bas Z F H O → OwE F H O σ env →
    wpAny (model X.prog X.w) X.A (isTrue e X.env (eval e X.env)) (TP X pins σ (PostT Z σ H F O P)) X.xe s
/-- a test, whatever its value is taken from -/
def WW {Tq : List (Addr × Str)} (Z : Zb Tq) (X : Cx) (e : Expr) (env : Env) (P : Bool → Env → Prop) : Prop :=
  ∀ (whole : Sem Value) (pins : List (Addr × Obj)) (s : Shared) (σ : L2.St) (H F : Hp) (O : List Addr), Inv X pins σ H s → Bas Z F H O → OwE F H O σ env →
    wpAny (model X.prog X.w) X.A (isTrue e X.env whole) (TP X pins σ (PostT Z σ H F O P)) X.xe s
theorem WW.t {Tq : List (Addr × Str)} {Z : Zb Tq} {X : Cx} {e : Expr} {env : Env} {P : Bool → Env → Prop} (h : WW Z X e env P) : WT Z X e env P := h _

section
variable {Tq : List (Addr × Str)} {Z : Zb Tq} {X : Cx} {e a b : Expr} {env : Env} {pins : List (Addr × Obj)} {s : Shared} {σ : L2.St} {H F : Hp} {O : List Addr}
theorem EP.imp {Q Q' : VK} (h : ∀ v H', Q v H' → Q' v H') : ∀ u s', EP X pins σ Q u s' → EP X pins σ Q' u s' := fun _ _ ⟨v, H', I, r, q⟩ => ⟨v, H', I, r, h v H' q⟩
theorem Post.toA {H0 F0 : Hp} {O0 : List Addr} {P : A → Env → Prop} {v : V} (h : Post Z σ H0 F0 O0 (fun r env' => QL.toA r fun a => P a env') v H) : PostA Z σ H0 F0 O0 P v H := by
  obtain ⟨F, O, r, env, b, st, fr, p⟩ := h
  cases r with
  | bor a i pp => exact ⟨F, O, .bor a i pp, env, b, st.1, st.2, fr, p⟩
  | t t =>
    obtain ⟨O1, O2, rfl, e, o⟩ := st
    cases hf : frzT t with
    | none => unfold QL.toA at p; simp only [hf] at p
    | some d =>
      unfold QL.toA at p
      simp only [hf] at p
      obtain ⟨b', s, k, fr'⟩ := b.freeze
      exact ⟨_, O1, .va d, env, b', e.stay s fun _ _ => rfl, o.frz s k hf, fr.trans fr', p⟩
theorem Post.imp {H0 F0 : Hp} {O0 : List Addr} {P P' : R → Env → Prop} (hp : ∀ r env, P r env → P' r env) {v : V} (h : Post Z σ H0 F0 O0 P v H) : Post Z σ H0 F0 O0 P' v H := by
  obtain ⟨F, O, r, env, b, st, fr, p⟩ := h
  exact ⟨F, O, r, env, b, st, fr, hp _ _ p⟩
theorem Post.from {H0 F0 H1 F1 : Hp} {O0 O1 : List Addr} {P : R → Env → Prop} (fr : Frm Tq H0 F0 O0 H1 F1 O1) {v : V} (h : Post Z σ H1 F1 O1 P v H) : Post Z σ H0 F0 O0 P v H := by
  obtain ⟨F, O, r, env, b, st, fr', p⟩ := h
  exact ⟨F, O, r, env, b, st, fr.trans fr', p⟩
theorem PostA.from {H0 F0 H1 F1 : Hp} {O0 O1 : List Addr} {P : A → Env → Prop} (fr : Frm Tq H0 F0 O0 H1 F1 O1) {v : V} (h : PostA Z σ H1 F1 O1 P v H) : PostA Z σ H0 F0 O0 P v H := by
  obtain ⟨F, O, r, env, b, e, st, fr', p⟩ := h
  exact ⟨F, O, r, env, b, e, st, fr.trans fr', p⟩
theorem PostT.from {H0 F0 H1 F1 : Hp} {O0 O1 : List Addr} {P : Bool → Env → Prop} (fr : Frm Tq H0 F0 O0 H1 F1 O1) {v : Bool} (h : PostT Z σ H1 F1 O1 P v H) : PostT Z σ H0 F0 O0 P v H := by
  obtain ⟨F, O, r, b, e, fr', p⟩ := h
  exact ⟨F, O, r, b, e, fr.trans fr', p⟩
theorem WE.imp {P P' : R → Env → Prop} (h : WE Z X e env P) (hp : ∀ r env, P r env → P' r env) : WE Z X e env P' := fun pins s σ H F O I b o => thn (h pins s σ H F O I b o) (EP.imp fun _ _ => Post.imp hp)
theorem WT.imp {P P' : Bool → Env → Prop} (h : WT Z X e env P) (hp : ∀ r env, P r env → P' r env) : WT Z X e env P' := fun pins s σ H F O I b o =>
  thn (h pins s σ H F O I b o) fun _ _ ⟨H', I', F, O, r, b, e, fr, p⟩ => ⟨H', I', F, O, r, b, e, fr, hp _ _ p⟩
theorem WA.run {P : A → Env → Prop} (h : WA Z X e env P) (I : Inv X pins σ H s) (b : Bas Z F H O) (o : OwE F H O σ env) :
    wpAny (model X.prog X.w) X.A (eval e X.env) (EP X pins σ (PostA Z σ H F O P)) X.xe s := thn (h pins s σ H F O I b o) (EP.imp fun _ _ => Post.toA)

/-- readings of the hand layer made of these -/
def tE {Tq : List (Addr × Str)} (Z : Zb Tq) (X : Cx) (e : Expr) : TE := fun σ H Q => ∃ env F O P, Bas Z F H O ∧ OwE F H O σ env ∧ WE Z X e env P ∧ ∀ v H', Post Z σ H F O P v H' → Q v H'
def tA {Tq : List (Addr × Str)} (Z : Zb Tq) (X : Cx) (e : Expr) : TE := fun σ H Q => ∃ env F O P, Bas Z F H O ∧ OwE F H O σ env ∧ WA Z X e env P ∧ ∀ v H', PostA Z σ H F O P v H' → Q v H'
def tT {Tq : List (Addr × Str)} (Z : Zb Tq) (X : Cx) (e : Expr) : TT := fun σ H Q => ∃ env F O P, Bas Z F H O ∧ OwE F H O σ env ∧ WT Z X e env P ∧ ∀ v H', PostT Z σ H F O P v H' → Q v H'
theorem pe_E : PE X e (tE Z X e) := ⟨fun pins s σ H Q I ⟨env, F, O, P, b, o, w, q⟩ => thn (w pins s σ H F O I b o) (EP.imp q)⟩
theorem pe_A : PE X e (tA Z X e) := ⟨fun pins s σ H Q I ⟨env, F, O, P, b, o, w, q⟩ => thn (w.run I b o) (EP.imp q)⟩
theorem pt_T : PT X e (tT Z X e) := ⟨fun pins s σ H Q I ⟨env, F, O, P, b, o, w, q⟩ => thn (w pins s σ H F O I b o) fun _ _ ⟨H', I', p⟩ => ⟨H', I', q _ _ p⟩⟩
/-- from the hand layer -/
theorem we_of {t : TE} {P : R → Env → Prop} (h : PE X e t) (w : ∀ σ H F O, Bas Z F H O → OwE F H O σ env → t σ H (Post Z σ H F O P)) : WE Z X e env P := fun pins s σ H F O I b o => h.run pins s σ H _ I (w σ H F O b o)
theorem wt_of {t : TT} {P : Bool → Env → Prop} (h : PT X e t) (w : ∀ σ H F O, Bas Z F H O → OwE F H O σ env → t σ H (PostT Z σ H F O P)) : WT Z X e env P := fun pins s σ H F O I b o => h.run pins s σ H _ I (w σ H F O b o)

/-! ### arguments -/
def WAs {Tq : List (Addr × Str)} (Z : Zb Tq) (X : Cx) : List Expr → Env → (List A → Env → Prop) → Prop
  | [], env, P => P [] env
  | e :: es, env, P => (starEach (e :: es) X.env = (false, eval e X.env) :: starEach es X.env) ∧ WA Z X e env fun a env1 => WAs Z X es env1 fun as env2 => P (a :: as) env2
def tAs {Tq : List (Addr × Str)} (Z : Zb Tq) (X : Cx) (es : List Expr) : TA := fun σ H Q => ∃ env F O P, Bas Z F H O ∧ OwE F H O σ env ∧ WAs Z X es env P ∧ ∀ v H', PostAs Z σ H F O P v H' → Q v H'
theorem pa_As : ∀ {es : List Expr}, PA X es (tAs Z X es)
  | [] => ⟨fun pos pins s σ H Q I ⟨env, F, O, P, b, o, w, q⟩ => pa_nil.run pos pins s σ H Q I (q [] H ⟨F, O, [], env, b, o, .nil, Frm.refl _ _ _, w⟩)⟩
  | e :: es => ⟨fun pos pins s σ H Q I ⟨env, F, O, P, b, o, w, q⟩ => by
    have hp := pa_cons (X := X) (pe_A (Z := Z) (e := e)) (pa_As (es := es)) w.1
    refine hp.run pos pins s σ H Q I ⟨env, F, O, _, b, o, w.2, ?_⟩
    rintro v1 H1 ⟨F1, O1, a1, env1, b1, o1, st1, fr1, w1⟩
    refine ⟨env1, F1, O1, _, b1, o1, w1, ?_⟩
    rintro vs H2 ⟨F2, O2, as, env2, b2, o2, st2, fr2, w2⟩
    exact q _ _ ⟨F2, O2, a1 :: as, env2, b2, o2, .cons (st1.mono fr2.fz) st2, fr1.trans fr2, w2⟩⟩
/-- the same with named arguments -/
def WKs {Tq : List (Addr × Str)} (Z : Zb Tq) (X : Cx) : List Keyword → Env → (List A → Env → Prop) → Prop
  | [], env, P => P [] env
  | k :: ks, env, P => WA Z X k.value env fun a env1 => WKs Z X ks env1 fun as env2 => P (a :: as) env2
/-! ### what an argument is seen as -/
inductive Vw (F H : Hp) : V → D → Prop
  | pure {v : V} {d : D} : Rp F v d → Vw F H v d
  | lst {a : Addr} {xs : List V} {ds : List D} : H a = some (.lst xs) → RpA F xs ds → Vw F H (.ref a) (.list ds)
  | dic {a : Addr} {kvs : List (Key × V)} {ds : List (D × D)} : H a = some (.dK kvs) → RpK F kvs ds → Vw F H (.ref a) (.dict ds)
theorem Vw.rp {v : V} {d : D} (h : Vw F H v d) (s : Same F H) : Rp H v d := by
  cases h with
  | pure r => exact r.mono s
  | lst h r => exact .lst h (r.mono s)
  | dic h r => exact .dic (.inl h) (r.mono s)
def View (a : A) (env : Env) (k : D → Prop) : Prop := match a with
  | .va d => () = () ∧ k d
  | .bor a i p => match getP i p env with
    | some (.lst a' ds) => a' = a ∧ k (.list ds)
    | some (.dic a' kvs) => a' = a ∧ k (.dict (kvs.map fun p => (kD p.1, p.2)))
    | some (.fdc a' kvs) => a' = a ∧ k (.dict (kvs.map fun p => (kD p.1, p.2)))
    | _ => False
theorem View.vw {v : V} {a : A} {k : D → Prop} (h : View a env k) (o : OwE F H O σ env) (st : StA F v a) : ∃ d, Vw F H v d ∧ k d := by
  cases a with
  | va d => exact ⟨d, .pure st, h.2⟩
  | bor a i p =>
    unfold View at h
    simp only at h
    cases hg : getP i p env with
    | none => rw [hg] at h; exact h.elim
    | some u =>
      rw [hg] at h
      obtain ⟨w, ⟨Oj, O', h1, _, _⟩, _⟩ := o.focus hg
      have st : v = .ref a := st
      subst st
      cases h1 with
      | va r => exact h.elim
      | lst h1 r => obtain ⟨rfl, h⟩ := h; exact ⟨_, .lst h1 r, h⟩
      | dic h1 r => obtain ⟨rfl, h⟩ := h; exact ⟨_, .dic h1 r.rpk, h⟩
      | fdc h1 r => obtain ⟨rfl, h⟩ := h; exact ⟨_, .pure (.dic (.inr ⟨_, h1⟩) r.rpk), h⟩
      | ins h1 h2 r => exact h.elim
      | hole => exact h.elim
      | ob h1 st => exact h.elim

/-! ### something new is made; all that was there stays -/
def NewV (F H : Hp) (k : T → Prop) : VK := fun v H' => ∃ F' O' t, Same F F' ∧ Same H H' ∧ Same F' H' ∧ (∀ a, F' a ≠ none → F a ≠ none ∨ H a = none) ∧ O'.Nodup ∧ (∀ a ∈ O', H a = none ∧ F' a = none) ∧ Ow F' H' O' v t ∧ k t
theorem NewV.val {k : T → Prop} {v : V} {d : D} (b : Same F H) (r : Rp F v d) (h : k (.va d)) : NewV F H k v H :=
  ⟨F, [], _, Same.refl _, Same.refl _, b, fun _ z => .inl z, List.nodup_nil, fun _ z => (nomatch z), .va r, h⟩
theorem same_new {H : Hp} {p : Addr} {o : HO} (h : H p = none) : Same H (upd H p o) := fun b x e => by rw [upd_ne (ne_of_none e h)]; exact e
theorem same_upd2 {F H : Hp} (s : Same F H) {p : Addr} {o : HO} : Same (upd F p o) (upd H p o) := fun b x e => by
  by_cases h : b = p
  · subst h; rw [upd_same] at e ⊢; exact e
  · rw [upd_ne h] at e ⊢; exact s b x e
theorem NewV.lst {k : T → Prop} {p : Addr} {xs : List V} {ds : List D} (b : Same F H) (r : RpA F xs ds) (n : H p = none) (h : k (.lst p ds)) : NewV F H k (.ref p) (upd H p (.lst xs)) := by
  refine ⟨F, [p], .lst p ds, Same.refl _, same_new n, b.trans (same_new n), fun _ z => .inl z, List.nodup_cons.mpr ⟨fun z => (nomatch z), List.nodup_nil⟩, fun a ha => ?_, .lst upd_same r, h⟩
  rw [List.mem_singleton.mp ha]
  exact ⟨n, b.free n⟩
theorem NewV.tup {k : T → Prop} {p : Addr} {xs : List V} {ds : List D} (b : Same F H) (r : RpA F xs ds) (n : H p = none) (h : k (.va (.tuple ds))) : NewV F H k (.ref p) (upd H p (.tup xs)) := by
  have nf : F p = none := b.free n
  refine ⟨upd F p (.tup xs), [], .va (.tuple ds), same_new nf, same_new n, same_upd2 b, fun a z => ?_, List.nodup_nil, fun _ z => (nomatch z), .va (.tup (.inl upd_same) (r.mono (same_new nf))), h⟩
  by_cases e : a = p
  · subst e; exact .inr n
  · rw [upd_ne e] at z; exact .inl z
theorem NewV.post {k : T → Prop} {v : V} {H' : Hp} {P : R → Env → Prop} (h : NewV F H k v H') (b : Bas Z F H O) (o : OwE F H O σ env) (hp : ∀ t, k t → P (.t t) env) : Post Z σ H F O P v H' := by
  obtain ⟨F', O', t, s1, s2, s3, nf, nd, no, ow, p⟩ := h
  have keep : ∀ a ∈ O, H' a = H a := fun a ha => by
    cases q : H a with
    | none => exact absurd q (o.there a ha)
    | some x => exact s2 a x q
  have fr : Frm Tq H F O H' F' (O ++ O') := ⟨s1, fun a x e _ _ => s2 a x e, (fun a e => by
      cases q : H a with
      | none => exact absurd q e
      | some x => rw [s2 a x q]; exact fun z => nomatch z), fun a e => (nf a e).imp_right .inl, fun a ha => (List.mem_append.mp ha).imp_right fun z => (no a z).1, tab_same s2⟩
  refine ⟨F', O ++ O', .t t, env, ⟨s3, List.nodup_append.mpr ⟨b.nd, nd, fun x hx y hy e => ?_⟩, fun a ha => ?_, b.abs.trans fr⟩, ⟨O, O', rfl, o.stay s1 keep, ow⟩, fr, hp t p⟩
  · subst e; exact o.there x hx (no x hy).1
  · rcases List.mem_append.mp ha with ha | ha
    · cases q : F' a with
      | none => rfl
      | some x =>
        rcases nf a (by rw [q]; exact fun z => nomatch z) with z | z
        · exact absurd (b.dis a ha) z
        · exact absurd z (o.there a ha)
    · exact (no a ha).2
end
end QL

/-! QC: rules of expressions. -/
namespace QL
open PySem PySem.Spec PyProof.Rows L2

/-! ### lists of data -/
section
variable {F H : Hp}
theorem RpA.len : ∀ {vs : List V} {ds : List D}, RpA F vs ds → vs.length = ds.length
  | _, _, .nil => rfl
  | _, _, .cons _ r => congrArg (· + 1) r.len
theorem RpA.app : ∀ {vs us : List V} {ds es : List D}, RpA F vs ds → RpA F us es → RpA F (vs ++ us) (ds ++ es)
  | _, _, _, _, .nil, r => r
  | _, _, _, _, .cons h r, r' => .cons h (r.app r')
theorem RpA.get : ∀ {vs : List V} {ds : List D} {i : Nat} {v : V}, RpA F vs ds → vs[i]? = some v → ∃ d, ds[i]? = some d ∧ Rp F v d
  | _, _, _, _, .nil, e => nomatch e
  | _, _, 0, _, .cons h r, e => by cases e; exact ⟨_, rfl, h⟩
  | _, _, i + 1, _, .cons h r, e => r.get (i := i) e
theorem RpA.get' : ∀ {vs : List V} {ds : List D} {i : Nat} {d : D}, RpA F vs ds → ds[i]? = some d → ∃ v, vs[i]? = some v ∧ Rp F v d
  | _, _, _, _, .nil, e => nomatch e
  | _, _, 0, _, .cons h r, e => by cases e; exact ⟨_, rfl, h⟩
  | _, _, i + 1, _, .cons h r, e => r.get' (i := i) e
theorem RpA.take : ∀ {vs : List V} {ds : List D} (n : Nat), RpA F vs ds → RpA F (vs.take n) (ds.take n)
  | _, _, 0, _ => .nil
  | _, _, _ + 1, .nil => .nil
  | _, _, n + 1, .cons h r => .cons h (r.take n)
theorem RpA.drop : ∀ {vs : List V} {ds : List D} (n : Nat), RpA F vs ds → RpA F (vs.drop n) (ds.drop n)
  | _, _, 0, r => r
  | _, _, _ + 1, .nil => .nil
  | _, _, n + 1, .cons _ r => r.drop n
theorem RpA.set {v : V} {d : D} (h : Rp F v d) : ∀ {vs : List V} {ds : List D} (i : Nat), RpA F vs ds → RpA F (vs.set i v) (ds.set i d)
  | _, _, _, .nil => .nil
  | _, _, 0, .cons _ r => .cons h r
  | _, _, i + 1, .cons q r => .cons q (r.set h i)
theorem RpA.rep {vs : List V} {ds : List D} (r : RpA F vs ds) : ∀ k : Nat, RpA F (List.replicate k vs).flatten (List.replicate k ds).flatten
  | 0 => .nil
  | k + 1 => by rw [List.replicate_succ, List.replicate_succ, List.flatten_cons, List.flatten_cons]; exact r.app (r.rep k)
theorem RpA.rev {vs : List V} {ds : List D} (r : RpA F vs ds) : RpA F vs.reverse ds.reverse := by
  induction vs generalizing ds with
  | nil => cases r; exact .nil
  | cons v vs ih => cases r with
    | cons h r => rw [List.reverse_cons, List.reverse_cons]; exact (ih r).app (.cons h .nil)
theorem RpA.ints : ∀ {ns : List Int} {vs : List V}, RpA F vs (ns.map PyData.int) → vs = ns.map V.int
  | [], _, .nil => rfl
  | n :: ns, _, .cons h r => by cases h; rw [r.ints]; rfl
theorem RpA.bls : ∀ {ns : List Bool} {vs : List V}, RpA F vs (ns.map PyData.bool) → vs = ns.map V.bl
  | [], _, .nil => rfl
  | n :: ns, _, .cons h r => by cases h; rw [r.bls]; rfl
theorem Vw.int {v : V} {i : Int} (h : Vw F H v (.int i)) : v = .int i := by cases h with | pure r => cases r; rfl
theorem Vw.str {v : V} {i : Str} (h : Vw F H v (.str i)) : v = .str i := by cases h with | pure r => cases r; rfl
theorem Vw.bl {v : V} {i : Bool} (h : Vw F H v (.bool i)) : v = .bl i := by cases h with | pure r => cases r; rfl
theorem Vw.non {v : V} (h : Vw F H v .none) : v = .non := by cases h with | pure r => cases r; rfl
theorem Vw.tup {v : V} {ds : List D} (h : Vw F H v (.tuple ds)) : ∃ a xs, v = .ref a ∧ Rd F a (.tup xs) ∧ RpA F xs ds := by
  cases h with | pure r => cases r with | tup h r => exact ⟨_, _, rfl, h, r⟩
theorem Vw.lst' {v : V} {ds : List D} (h : Vw F H v (.list ds)) (s : Same F H) : ∃ a xs, v = .ref a ∧ H a = some (.lst xs) ∧ RpA F xs ds := by
  cases h with
  | pure r => cases r with | lst h r => exact ⟨_, _, rfl, s _ _ h, r⟩
  | lst h r => exact ⟨_, _, rfl, h, r⟩
end

/-! ### names, constants, displays -/
section
variable {Tq : List (Addr × Str)} {Z : Zb Tq} {X : Cx} {e a b c : Expr} {es : List Expr} {env : Env} {pos : Pos} {P : R → Env → Prop}

def varR (env : Env) (i : Nat) (k : R → Prop) : Prop := match env[i]? with
  | some (some (.va d)) => k (.t (.va d))
  | some (some t) => match t.addr with
    | some a => k (.bor a i [])
    | none => False
  | _ => False
theorem w_var (i : Nat) {x : Str} (h : varR env i fun r => P r env) (hN : X.N[i]? = some x := by rfl) (hv : Vis X.env.scope x := by first | exact Or.inl rfl | exact Or.inr (Or.inl rfl) | exact Or.inr (Or.inr rfl))
    (hd : (x == ("__debug__" : Str)) = false := by decide) (hcd : (x == ("__classdict__" : Str)) = false := by decide) : WE Z X (.Name x pos) env P := we_of (pe_var hN hv hd hcd) fun σ H F O b o => by
  unfold varR at h
  cases hi : env[i]? with
  | none => rw [hi] at h; exact h.elim
  | some q =>
    cases q with
    | none => rw [hi] at h; exact h.elim
    | some t =>
      rw [hi] at h
      obtain ⟨w, hw, Oj, O', h1, h2, h3⟩ := o.focusI hi
      refine ⟨w, hw, ?_⟩
      have owned : ∀ a, t.addr = some a → P (.bor a i []) env → Post Z σ H F O P w H := fun a ha p => ⟨F, O, .bor a i [], env, b, ⟨o, h1.ref ha⟩, Frm.refl _ _ _, p⟩
      cases t with
      | va d =>
        cases h1 with
        | va r => exact ⟨F, O, .t _, env, b, ⟨O, [], (List.append_nil O).symm, o, .va r⟩, Frm.refl _ _ _, h⟩
      | lst a ds => exact owned a rfl h
      | dic a ds => exact owned a rfl h
      | fdc a ds => exact owned a rfl h
      | ins a C fs => exact owned a rfl h
      | hole a => exact owned a rfl h
      | ob a φ =>
        cases a with
        | none => exact h.elim
        | some a => exact owned a rfl h
theorem post_val {σ : L2.St} {H F : Hp} {O : List Addr} {v : V} {d : D} (b : Bas Z F H O) (o : OwE F H O σ env) (r : Rp F v d) (h : P (.t (.va d)) env) : Post Z σ H F O P v H :=
  ⟨F, O, .t _, env, b, ⟨O, [], (List.append_nil O).symm, o, .va r⟩, Frm.refl _ _ _, h⟩
theorem w_int {i : Int} {j : Nat} (h : P (.t (.va (.int i))) env) : WE Z X (.Constant (.int i) j pos) env P := we_of pe_int fun σ H F O b o => post_val b o (.int i) h
theorem w_bl {i : Bool} {j : Nat} (h : P (.t (.va (.bool i))) env) : WE Z X (.Constant (.bool i) j pos) env P := we_of pe_bl fun σ H F O b o => post_val b o (.bl i) h
theorem w_str {i : Str} {j : Nat} (h : P (.t (.va (.str i))) env) : WE Z X (.Constant (.str i) j pos) env P := we_of pe_str fun σ H F O b o => post_val b o (.str i) h
theorem w_non {j : Nat} (h : P (.t (.va .none)) env) : WE Z X (.Constant .none j pos) env P := we_of pe_non fun σ H F O b o => post_val b o .non h
/-- a module's constant -/
theorem w_glob {x : Str} {v : V} {u : Value} {d : D} (hm : X.mg x = some u) (r : RelV v u) (q : ∀ F : Hp, Rp F v d) (h : P (.t (.va d)) env) (hg : Gl X x := by rfl) (hd : (x == ("__debug__" : Str)) = false := by decide) : WE Z X (.Name x pos) env P :=
  we_of (pe_glob hg hm r hd) fun σ H F O b o => post_val b o (q F) h

/-- what stands in a display: what a name held is from then on frozen there -/
def absorb : List A → Env → (List D → Env → Prop) → Prop
  | [], env, k => k [] env
  | .va d :: as, env, k => absorb as env fun ds env' => k (d :: ds) env'
  | .bor a i p :: as, env, k => match getP i p env with
    | some t => t.addr = some a ∧ match frzT t with
      | some d => absorb as (setP i p (.va d) env) fun ds env' => k (d :: ds) env'
      | none => False
    | none => False
theorem absorb_ok {Tq : List (Addr × Str)} {Z : Zb Tq} {σ : L2.St} {H : Hp} : ∀ {as : List A} {vs : List V} {F : Hp} {O : List Addr} {env : Env} {k : List D → Env → Prop}, StAs F vs as → Bas Z F H O → OwE F H O σ env → absorb as env k →
    ∃ F' O' ds env', Bas Z F' H O' ∧ OwE F' H O' σ env' ∧ RpA F' vs ds ∧ Frm Tq H F O H F' O' ∧ k ds env'
  | [], _, F, O, env, k, .nil, b, o, h => ⟨F, O, [], env, b, o, .nil, Frm.refl _ _ _, h⟩
  | .va d :: as, _, F, O, env, k, .cons st r, b, o, h => by
    obtain ⟨F', O', ds, env', b', o', r', fr, q⟩ := absorb_ok r b o h
    exact ⟨F', O', d :: ds, env', b', o', .cons (Rp.mono fr.fz st) r', fr, q⟩
  | .bor a i p :: as, _, F, O, env, k, .cons st r, b, o, h => by
    unfold absorb at h
    cases hg : getP i p env with
    | none => rw [hg] at h; exact h.elim
    | some t =>
      rw [hg] at h
      obtain ⟨ha, h⟩ := h
      cases hf : frzT t with
      | none => rw [hf] at h; exact h.elim
      | some d =>
        rw [hf] at h
        obtain ⟨w, ⟨Oj, O', h1, h2, h3⟩, _⟩ := o.focus hg
        have hw := h1.ref ha
        have st : _ = V.ref a := st
        subst st hw
        have b2 : Bas Z F H (O' ++ Oj) := b.perm (h2.trans List.perm_append_comm)
        obtain ⟨b3, s3, k3, fr3⟩ := b2.freeze
        have rp := h1.frz s3 k3 hf
        obtain ⟨O'', q1, q2⟩ := h3 _ H [] (.va d) s3 (fun _ _ => rfl) (.va rp)
        have b4 : Bas Z (frzF F H Oj) H O'' := b3.perm q2.symm
        have fr4 : Frm Tq H F O H (frzF F H Oj) O'' := fr3.perm (fun c => (h2.trans List.perm_append_comm).symm.mem_iff) fun c hc => q2.mem_iff.mp hc
        obtain ⟨F5, O5, ds, env5, b5, o5, r5, fr5, q5⟩ := absorb_ok (r.mono s3) b4 q1 h
        exact ⟨F5, O5, d :: ds, env5, b5, o5, .cons (rp.mono fr5.fz) r5, fr4.trans fr5, q5⟩
theorem w_tup {x1 : _} (h : WAs Z X es env fun as env1 => absorb as env1 fun ds env2 => ds.length ≤ sizeLine ∧ P (.t (.va (.tuple ds))) env2) : WE Z X (.Tuple es x1 pos) env P :=
  we_of (pe_tup pa_As) fun σ H F O b o => ⟨env, F, O, _, b, o, h, fun vs H1 ⟨F1, O1, as, env1, b1, o1, st1, fr1, h1⟩ => by
    obtain ⟨F2, O2, ds, env2, b2, o2, r2, fr2, z, q⟩ := absorb_ok st1 b1 o1 h1
    refine ⟨by rw [r2.len]; exact z, fun p hp => ?_⟩
    exact ((NewV.tup b2.sub r2 hp (k := fun t => t = .va (.tuple ds)) rfl).post b2 o2 (fun t e => by subst e; exact q)).from (fr1.trans fr2)⟩
theorem w_lst (h : WAs Z X es env fun as env1 => absorb as env1 fun ds env2 => ds.length ≤ sizeLine ∧ ∀ p, P (.t (.lst p ds)) env2) : WE Z X (.List es pos) env P :=
  we_of (pe_lst pa_As) fun σ H F O b o => ⟨env, F, O, _, b, o, h, fun vs H1 ⟨F1, O1, as, env1, b1, o1, st1, fr1, h1⟩ => by
    obtain ⟨F2, O2, ds, env2, b2, o2, r2, fr2, z, q⟩ := absorb_ok st1 b1 o1 h1
    refine ⟨by rw [r2.len]; exact z, fun p hp => ?_⟩
    exact ((NewV.lst b2.sub r2 hp (k := fun t => t = .lst p ds) rfl).post b2 o2 (fun t e => by subst e; exact q p)).from (fr1.trans fr2)⟩

/-! ### operators -/
def DOp (X : Cx) (f : Value → Value → Sem Value) (g : D → D → (T → Prop) → Prop) : Prop :=
  ∀ (pins : List (Addr × Obj)) (s : Shared) (σ : L2.St) (H F : Hp) (v1 v2 : V) (u1 u2 : Value) (d1 d2 : D) (k : T → Prop), Inv X pins σ H s → Same F H → Vw F H v1 d1 → Vw F H v2 d2 → RelV v1 u1 → RelV v2 u2 → g d1 d2 k →
    wpAny (model X.prog X.w) X.A (f u1 u2) (EP X pins σ (NewV F H k)) X.xe s
def rD (g : D → D → (T → Prop) → Prop) : R2 := fun x y H Q => ∃ F d1 d2 k, Same F H ∧ Vw F H x d1 ∧ Vw F H y d2 ∧ g d1 d2 k ∧ ∀ v H', NewV F H k v H' → Q v H'
theorem DOp.r {f : Value → Value → Sem Value} {g : D → D → (T → Prop) → Prop} (h : DOp X f g) : OpR X f (rD g) := fun pins s σ H x y v u Q I rx ry ⟨F, d1, d2, k, sF, h1, h2, hg, q⟩ =>
  thn (h pins s σ H F x y v u d1 d2 k I sF h1 h2 rx ry hg) (EP.imp q)
/-- two arguments, then an operation by values -/
def W2 {Tq : List (Addr × Str)} (Z : Zb Tq) (X : Cx) (a b : Expr) (env : Env) (k : D → D → Env → Prop) : Prop := WA Z X a env fun a1 e1 => WA Z X b e1 fun a2 e2 => View a1 e2 fun d1 => View a2 e2 fun d2 => k d1 d2 e2
theorem w2_run {g : D → D → (T → Prop) → Prop} {σ : L2.St} {H F : Hp} {O : List Addr} (b0 : Bas Z F H O) (o : OwE F H O σ env) (h : W2 Z X a b env fun d1 d2 e2 => g d1 d2 fun t => P (.t t) e2) :
    tOp (rD g) (tA Z X a) (tA Z X b) σ H (Post Z σ H F O P) := by
  refine ⟨env, F, O, _, b0, o, h, fun v1 H1 ⟨F1, O1, a1, env1, b1, o1, st1, fr1, h1⟩ => ?_⟩
  refine ⟨env1, F1, O1, _, b1, o1, h1, fun v2 H2 ⟨F2, O2, a2, env2, b2, o2, st2, fr2, h2⟩ => ?_⟩
  obtain ⟨d1, w1, h3⟩ := View.vw h2 o2 (st1.mono fr2.fz)
  obtain ⟨d2, w2, h4⟩ := View.vw h3 o2 st2
  exact ⟨F2, d1, d2, _, b2.sub, w1, w2, h4, fun v H' n => (n.post b2 o2 fun t q => q).from (fr1.trans fr2)⟩
theorem w_bin {op : Operator} {g : D → D → (T → Prop) → Prop} (ho : DOp X (binaryOp op) g) (h : W2 Z X a b env fun d1 d2 e2 => g d1 d2 fun t => P (.t t) e2) : WE Z X (.BinOp a op b pos) env P :=
  we_of (pe_op ho.r pe_A pe_A) fun σ H F O b0 o => w2_run b0 o h
theorem w_cmp {op : CmpOp} {g : D → D → (T → Prop) → Prop} (ho : DOp X (compareOp op) g) (h : W2 Z X a b env fun d1 d2 e2 => g d1 d2 fun t => P (.t t) e2) (hm : behindInMarks op b = false := by first | exact nomark _ | rfl) :
    WE Z X (.Compare a [op] [b] pos) env P := we_of (pe_cmpR ho.r pe_A pe_A hm) fun σ H F O b0 o => w2_run b0 o h
theorem post_bool {σ : L2.St} {H F0 H0 : Hp} {O0 : List Addr} {K : Bool → Env → Prop} {v : V} (h : Post Z σ H0 F0 O0 (fun r e1 => ∃ k, r = .t (.va (.bool k)) ∧ K k e1) v H) : ∃ k F O env, v = .bl k ∧ Bas Z F H O ∧ OwE F H O σ env ∧ Frm Tq H0 F0 O0 H F O ∧ K k env := by
  obtain ⟨F1, O1, r, env1, b1, st, fr1, k, e1, h1⟩ := h
  subst e1
  obtain ⟨O1', O2, rfl, o1, ow⟩ := st
  cases ow with
  | va r =>
    cases r with
    | bl k =>
      rw [List.append_nil] at b1 fr1
      exact ⟨k, F1, O1', env1, rfl, b1, o1, fr1, h1⟩
theorem wt_cmp {op : CmpOp} {g : D → D → (T → Prop) → Prop} {P : Bool → Env → Prop} (ho : DOp X (compareOp op) g) (h : W2 Z X a b env fun d1 d2 e2 => g d1 d2 fun t => ∃ k, t = .va (.bool k) ∧ P k e2) (hm : behindInMarks op b = false := by first | exact nomark _ | rfl) :
    WT Z X (.Compare a [op] [b] pos) env P := wt_of (pt_cmpR ho.r pe_A pe_A hm) fun σ H F O b0 o => by
  refine ⟨env, F, O, _, b0, o, h, fun v1 H1 ⟨F1, O1, a1, env1, b1, o1, st1, fr1, h1⟩ => ?_⟩
  refine ⟨env1, F1, O1, _, b1, o1, h1, fun v2 H2 ⟨F2, O2, a2, env2, b2, o2, st2, fr2, h2⟩ => ?_⟩
  obtain ⟨d1, w1, h3⟩ := View.vw h2 o2 (st1.mono fr2.fz)
  obtain ⟨d2, w2, h4⟩ := View.vw h3 o2 st2
  refine ⟨F2, d1, d2, _, b2.sub, w1, w2, h4, fun v H' n => ?_⟩
  obtain ⟨k, F3, O3, env3, rfl, b3, o3, fr3, p⟩ := post_bool (K := P) (n.post b2 o2 (P := fun r e1 => ∃ k, r = .t (.va (.bool k)) ∧ P k e1) fun t ⟨k, e, q⟩ => ⟨k, by rw [e], q⟩)
  exact ⟨k, rfl, F3, O3, env3, b3, o3, (fr1.trans fr2).trans fr3, p⟩

/-! #### the operations -/
def intD (C : Int → Int → Prop) (f : Int → Int → Int) (d1 d2 : D) (k : T → Prop) : Prop := match d1, d2 with
  | .int i, .int j => C i j ∧ k (.va (.int (f i j)))
  | _, _ => False
theorem dop_int {f : Value → Value → Sem Value} {C : Int → Int → Prop} {g : Int → Int → Int} (h : OpR X f (rI C fun i j => .int (g i j))) : DOp X f (intD C g) := by
  intro pins s σ H F v1 v2 u1 u2 d1 d2 k I sF w1 w2 r1 r2 hg
  cases d1 with
  | int i =>
    cases d2 with
    | int j =>
      cases w1.int
      cases w2.int
      exact h pins s σ H _ _ u1 u2 _ I r1 r2 ⟨i, j, rfl, rfl, hg.1, NewV.val sF (.int _) hg.2⟩
    | _ => exact hg.elim
  | _ => exact hg.elim
def subD : D → D → (T → Prop) → Prop := fun d1 d2 k => match d1, d2 with
  | .int i, .int j => k (.va (.int (i - j)))
  | _, _ => False
theorem dop_sub : DOp X (binaryOp .Sub) subD := by
  intro pins s σ H F v1 v2 u1 u2 d1 d2 k I sF w1 w2 r1 r2 hg
  cases d1 with
  | int i =>
    cases d2 with
    | int j =>
      cases w1.int
      cases w2.int
      exact op_sub pins s σ H _ _ u1 u2 _ I r1 r2 ⟨i, j, rfl, rfl, NewV.val sF (.int _) hg⟩
    | _ => exact hg.elim
  | _ => exact hg.elim
def addD : D → D → (T → Prop) → Prop := fun d1 d2 k => match d1, d2 with
  | .int i, .int j => k (.va (.int (i + j)))
  | .int i, .bool j => k (.va (.int (i + b2i j)))
  | .str x, .str y => x.length + y.length ≤ sizeLine ∧ k (.va (.str (x ++ y)))
  | .tuple xs, .tuple ys => xs.length + ys.length ≤ sizeLine ∧ k (.va (.tuple (xs ++ ys)))
  | .list xs, .list ys => xs.length + ys.length ≤ sizeLine ∧ ∀ p, k (.lst p (xs ++ ys))
  | _, _ => False
theorem dop_add : DOp X (binaryOp .Add) addD := by
  intro pins s σ H F v1 v2 u1 u2 d1 d2 k I sF w1 w2 r1 r2 hg
  cases d1 with
  | int i =>
    cases d2 with
    | int j =>
      cases w1.int
      cases w2.int
      exact op_add pins s σ H _ _ u1 u2 _ I r1 r2 ⟨i, j, rfl, rfl, NewV.val sF (.int _) hg⟩
    | bool j =>
      cases w1.int
      cases w2.bl
      exact op_add_ib pins s σ H _ _ u1 u2 _ I r1 r2 ⟨i, j, rfl, rfl, NewV.val sF (.int _) hg⟩
    | _ => exact hg.elim
  | str i =>
    cases d2 with
    | str j =>
      cases w1.str
      cases w2.str
      exact op_add_str pins s σ H _ _ u1 u2 _ I r1 r2 ⟨i, j, rfl, rfl, hg.1, NewV.val sF (.str _) hg.2⟩
    | _ => exact hg.elim
  | tuple xs =>
    cases d2 with
    | tuple ys =>
      obtain ⟨a, vs, rfl, h1, q1⟩ := w1.tup
      obtain ⟨b, us, rfl, h2, q2⟩ := w2.tup
      refine op_catA pins s σ H _ _ u1 u2 _ I r1 r2 ⟨a, b, vs, us, rfl, rfl, .inl (rd_mono sF h1), .inl (rd_mono sF h2), by rw [q1.len, q2.len]; exact hg.1, fun e => ?_, fun _ e => ?_, fun _ _ p hp => ?_⟩
      · subst e
        cases q1
        exact NewV.val sF (.tup h2 q2) hg.2
      · subst e
        cases q2
        refine NewV.val sF (.tup h1 ?_) hg.2
        rw [List.append_nil]
        exact q1
      · exact NewV.tup sF (q1.app q2) hp hg.2
    | _ => exact hg.elim
  | list xs =>
    cases d2 with
    | list ys =>
      obtain ⟨a, vs, rfl, h1, q1⟩ := w1.lst' sF
      obtain ⟨b, us, rfl, h2, q2⟩ := w2.lst' sF
      exact op_cat pins s σ H _ _ u1 u2 _ I r1 r2 ⟨a, b, vs, us, rfl, rfl, h1, h2, by rw [q1.len, q2.len]; exact hg.1, fun p hp => NewV.lst sF (q1.app q2) hp (hg.2 p)⟩
    | _ => exact hg.elim
  | _ => exact hg.elim
/-- * : one factor below 2^64, or both small enough -/
def CMulQ (i j : Int) : Prop := CMul i j ∨ CMulW i j
theorem CMulQ.ok {i j : Int} (h : CMulQ i j) : IntMulOk i j := h.elim CMul.ok CMulW.ok
theorem cmul_l {i j : Int} (h1 : -18446744073709551616 < i) (h2 : i < 18446744073709551616) : CMulQ i j := .inl (.inl ⟨h1, h2⟩)
theorem cmul_r {i j : Int} (h1 : -18446744073709551616 < j) (h2 : j < 18446744073709551616) : CMulQ i j := .inl (.inr ⟨h1, h2⟩)
def mulD : D → D → (T → Prop) → Prop := fun d1 d2 k => match d1, d2 with
  | .int i, .int j => CMulQ i j ∧ k (.va (.int (i * j)))
  | .list xs, .int n => (-(2 ^ 63) ≤ n ∧ n < 2 ^ 63 ∧ xs.length * n.toNat ≤ sizeLine) ∧ ∀ p, k (.lst p (List.replicate n.toNat xs).flatten)
  | _, _ => False
theorem dop_mul : DOp X (binaryOp .Mult) mulD := by
  intro pins s σ H F v1 v2 u1 u2 d1 d2 k I sF w1 w2 r1 r2 hg
  cases d1 with
  | int i =>
    cases d2 with
    | int j =>
      cases w1.int
      cases w2.int
      exact (opI (C := CMulQ) (g := fun i j => i * j) fun _ _ _ _ _ _ _ hc q => mul_int q hc.ok) pins s σ H _ _ u1 u2 _ I r1 r2 ⟨i, j, rfl, rfl, hg.1, NewV.val sF (.int _) hg.2⟩
    | _ => exact hg.elim
  | list xs =>
    cases d2 with
    | int n =>
      cases w2.int
      obtain ⟨a, vs, rfl, h1, q1⟩ := w1.lst' sF
      exact op_rep pins s σ H _ _ u1 u2 _ I r1 r2 ⟨a, n, vs, rfl, rfl, h1, hg.1.1, hg.1.2.1, by rw [q1.len]; exact hg.1.2.2, fun p hp => NewV.lst sF (q1.rep _) hp (hg.2 p)⟩
    | _ => exact hg.elim
  | _ => exact hg.elim
def CPowQ (i j : Int) : Prop := CPow i j ∨ (0 ≤ j ∧ (Builtin.Int.intBits i : Int) * j ≤ 2 ^ 27)
theorem dop_pow : DOp X (binaryOp .Pow) (intD CPowQ fun i j => i ^ j.toNat) := dop_int (opI fun i j _ _ _ _ _ hc q => hc.elim (fun h => pow_int_small h.1 h.2.1 h.2.2 q) fun h => pow_int h.1 h.2 q)
theorem dop_mod : DOp X (binaryOp .Mod) (intD (fun _ j => 0 < j) fun i j => i % j) := dop_int op_mod
def CDivQ (_ j : Int) : Prop := 0 < j ∧ j < 18446744073709551616
theorem cdivq {i j : Int} (h : CDivQ i j) : CDivW i j := wide_div (b := 64) h.1 (by have := h.1; have := h.2; omega) (by decide) (by decide)
theorem dop_fdiv : DOp X (binaryOp .FloorDiv) (intD CDivQ fun i j => i / j) := dop_int (opI fun i j _ _ _ _ _ hc q => by
  have h1 : (0 : Int) < j := hc.1
  exact floordiv_int (by omega) (by rw [Int.fdiv_eq_ediv_of_nonneg i (by omega)]; exact q) (.inl (PyProof.noPylong_of_log2 (cdivq hc).2)))

/-! #### comparisons -/
def cmpI (f : Int → Int → Bool) : D → D → (T → Prop) → Prop := fun d1 d2 k => match d1, d2 with
  | .int i, .int j => k (.va (.bool (f i j)))
  | _, _ => False
theorem dop_cmpI {op : Value → Value → Sem Value} {f : Int → Int → Bool} (h : OpR X op (rI0 fun i j => .bl (f i j))) : DOp X op (cmpI f) := by
  intro pins s σ H F v1 v2 u1 u2 d1 d2 k I sF w1 w2 r1 r2 hg
  cases d1 with
  | int i =>
    cases d2 with
    | int j =>
      cases w1.int
      cases w2.int
      exact h pins s σ H _ _ u1 u2 _ I r1 r2 ⟨i, j, rfl, rfl, NewV.val sF (.bl _) hg⟩
    | _ => exact hg.elim
  | _ => exact hg.elim
theorem dop_lt : DOp X (compareOp .Lt) (cmpI fun i j => decide (i < j)) := dop_cmpI op_lt
theorem dop_le : DOp X (compareOp .LtE) (cmpI fun i j => decide (i ≤ j)) := dop_cmpI op_le
theorem dop_gt : DOp X (compareOp .Gt) (cmpI fun i j => decide (j < i)) := dop_cmpI op_gt
theorem dop_ge : DOp X (compareOp .GtE) (cmpI fun i j => decide (j ≤ i)) := dop_cmpI op_ge
/-- == of data without dicts -/
def eqD : D → D → (T → Prop) → Prop := fun d1 d2 k => match d1, d2 with
  | .int i, .int j => k (.va (.bool (decide (i = j))))
  | .str i, .str j => k (.va (.bool (decide (i = j))))
  | d1, d2 => SeqAt.shaped d1 = true ∧ SeqAt.shaped d2 = true ∧ k (.va (.bool (PyData.eqv d1 d2)))
def neD : D → D → (T → Prop) → Prop := fun d1 d2 k => match d1, d2 with
  | .int i, .int j => k (.va (.bool (!decide (i = j))))
  | .str i, .str j => k (.va (.bool (!decide (i = j))))
  | d1, d2 => SeqAt.shaped d1 = true ∧ SeqAt.shaped d2 = true ∧ k (.va (.bool (!PyData.eqv d1 d2)))
mutual
theorem Rp.reads {pins : List (Addr × Obj)} {σ : L2.St} {H : Hp} {s : Shared} (I : Inv X pins σ H s) : ∀ {v : V} {d : D} {u : Value}, Rp H v d → RelV v u → d.hasDict = false → ∃ as, Reads s.heap u d as
  | _, _, _, .non, r, _ => by cases r; exact ⟨_, .none⟩
  | _, _, _, .bl b, r, _ => by cases r; exact ⟨_, .bool b⟩
  | _, _, _, .int i, r, _ => by obtain ⟨t, rfl⟩ := r; exact ⟨_, .int i t⟩
  | _, _, _, .str i, r, _ => by obtain ⟨t, rfl⟩ := r; exact ⟨_, .str i t⟩
  | _, _, _, .lst h q, r, hd => by
    cases r
    obtain ⟨its, rv, ⟨o, n, ho, hc, _, hs⟩, _⟩ := I.list (SqL.of h)
    obtain ⟨as, hr⟩ := RpA.reads I q rv (by simpa [PyData.hasDict] using hd)
    exact ⟨_, .list ho hc hs hr⟩
  | _, _, _, .tup h q, r, hd => by
    cases r
    obtain ⟨its, rv, ⟨o, ho, hc, n, hs⟩, _⟩ := I.tuple (.inl h)
    obtain ⟨as, hr⟩ := RpA.reads I q rv (by simpa [PyData.hasDict] using hd)
    exact ⟨_, .tuple ho hc hs hr⟩
  | _, _, _, .dic h q, r, hd => by simp [PyData.hasDict] at hd
theorem RpA.reads {pins : List (Addr × Obj)} {σ : L2.St} {H : Hp} {s : Shared} (I : Inv X pins σ H s) : ∀ {vs : List V} {ds : List D} {us : List Value}, RpA H vs ds → Vals vs us → PyData.hasDictAll ds = false → ∃ as, ReadsAll s.heap us ds as
  | _, _, _, .nil, r, _ => by cases r; exact ⟨_, .nil⟩
  | _, _, _, .cons h q, r, hd => by
    cases r with
    | cons r1 r2 =>
      rw [PyData.hasDictAll, Bool.or_eq_false_iff] at hd
      obtain ⟨as, q1⟩ := Rp.reads I h r1 hd.1
      obtain ⟨bs, q2⟩ := RpA.reads I q r2 hd.2
      exact ⟨_, .cons q1 q2⟩
end
theorem shaped_noDict {d : D} (h : SeqAt.shaped d = true) : d.hasDict = false := by
  unfold SeqAt.shaped at h
  rw [Bool.and_eq_true] at h
  exact PyData.hasDict_of_canLay d h.1
theorem eqD_gen {F : Hp} (hu : X.A.units + 64 < cLine) {pins : List (Addr × Obj)} {s : Shared} {σ : L2.St} {H : Hp} {v1 v2 : V} {u1 u2 : Value} {d1 d2 : D} {k : T → Prop} (I : Inv X pins σ H s) (sF : Same F H) (w1 : Vw F H v1 d1) (w2 : Vw F H v2 d2)
    (r1 : RelV v1 u1) (r2 : RelV v2 u2) (h1 : SeqAt.shaped d1 = true) (h2 : SeqAt.shaped d2 = true) (q : k (.va (.bool (PyData.eqv d1 d2)))) : wpAny (model X.prog X.w) X.A (compareOp .Eq u1 u2) (EP X pins σ (NewV F H k)) X.xe s := by
  obtain ⟨as, q1⟩ := (w1.rp sF).reads I r1 (shaped_noDict h1)
  obtain ⟨bs, q2⟩ := (w2.rp sF).reads I r2 (shaped_noDict h2)
  exact SeqAt.compareEq_shaped q1 q2 h1 h2 hu ⟨.bl _, H, I, rfl, NewV.val sF (.bl _) q⟩
theorem neD_gen {F : Hp} (hu : X.A.units + 64 < cLine) {pins : List (Addr × Obj)} {s : Shared} {σ : L2.St} {H : Hp} {v1 v2 : V} {u1 u2 : Value} {d1 d2 : D} {k : T → Prop} (I : Inv X pins σ H s) (sF : Same F H) (w1 : Vw F H v1 d1) (w2 : Vw F H v2 d2)
    (r1 : RelV v1 u1) (r2 : RelV v2 u2) (h1 : SeqAt.shaped d1 = true) (h2 : SeqAt.shaped d2 = true) (q : k (.va (.bool (!PyData.eqv d1 d2)))) : wpAny (model X.prog X.w) X.A (compareOp .NotEq u1 u2) (EP X pins σ (NewV F H k)) X.xe s := by
  obtain ⟨as, q1⟩ := (w1.rp sF).reads I r1 (shaped_noDict h1)
  obtain ⟨bs, q2⟩ := (w2.rp sF).reads I r2 (shaped_noDict h2)
  exact SeqAt.compareNe_shaped q1 q2 h1 h2 hu ⟨.bl _, H, I, rfl, NewV.val sF (.bl _) q⟩
theorem dop_eq (hu : X.A.units + 64 < cLine) : DOp X (compareOp .Eq) eqD := by
  intro pins s σ H F v1 v2 u1 u2 d1 d2 k I sF w1 w2 r1 r2 hg
  unfold eqD at hg
  split at hg
  · cases w1.int
    cases w2.int
    refine op_eq pins s σ H _ _ u1 u2 _ I r1 r2 ⟨rfl, NewV.val sF (.bl _) ?_⟩
    rw [dec_int, ← Bool.beq_eq_decide_eq] at *
    exact hg
  · cases w1.str
    cases w2.str
    refine op_eq pins s σ H _ _ u1 u2 _ I r1 r2 ⟨rfl, NewV.val sF (.bl _) ?_⟩
    rw [dec_str, ← Bool.beq_eq_decide_eq] at *
    exact hg
  · exact eqD_gen hu I sF w1 w2 r1 r2 hg.1 hg.2.1 hg.2.2
theorem dop_ne (hu : X.A.units + 64 < cLine) : DOp X (compareOp .NotEq) neD := by
  intro pins s σ H F v1 v2 u1 u2 d1 d2 k I sF w1 w2 r1 r2 hg
  unfold neD at hg
  split at hg
  · cases w1.int
    cases w2.int
    refine op_ne pins s σ H _ _ u1 u2 _ I r1 r2 ⟨rfl, NewV.val sF (.bl _) ?_⟩
    rw [dec_int, ← Bool.beq_eq_decide_eq] at *
    exact hg
  · cases w1.str
    cases w2.str
    refine op_ne pins s σ H _ _ u1 u2 _ I r1 r2 ⟨rfl, NewV.val sF (.bl _) ?_⟩
    rw [dec_str, ← Bool.beq_eq_decide_eq] at *
    exact hg
  · exact neD_gen hu I sF w1 w2 r1 r2 hg.1 hg.2.1 hg.2.2
/-- is None, is not None -/
def isN (neg : Bool) : D → D → (T → Prop) → Prop := fun d1 d2 k => match d2 with
  | .none => k (.va (.bool (match d1 with | .none => !neg | _ => neg)))
  | _ => False
theorem vnon {F H : Hp} {v : V} {d : D} (w : Vw F H v d) : decide (v = V.non) = (match d with | .none => true | _ => false) := by
  cases w with
  | pure r => cases r <;> rfl
  | lst h r => rfl
  | dic h r => rfl
theorem dop_isN : DOp X (compareOp .Is) (isN false) := by
  intro pins s σ H F v1 v2 u1 u2 d1 d2 k I sF w1 w2 r1 r2 hg
  cases d2 with
  | none =>
    cases w2.non
    refine op_isN pins s σ H _ _ u1 u2 _ I r1 r2 ⟨rfl, NewV.val sF (.bl _) ?_⟩
    rw [vnon w1]
    cases d1 <;> exact hg
  | _ => exact hg.elim
/-- -a -/
def W1 {Tq : List (Addr × Str)} (Z : Zb Tq) (X : Cx) (a : Expr) (env : Env) (k : D → Env → Prop) : Prop := WA Z X a env fun a1 e1 => View a1 e1 fun d1 => k d1 e1
def negD (d : D) (k : T → Prop) : Prop := match d with
  | .int i => k (.va (.int (-i)))
  | _ => False
theorem w_neg (h : W1 Z X a env fun d e => negD d fun t => P (.t t) e) : WE Z X (.UnaryOp .USub a pos) env P :=
  we_of (pe_un un_neg pe_A) fun σ H F O b0 o => ⟨env, F, O, _, b0, o, h, fun v1 H1 ⟨F1, O1, a1, env1, b1, o1, st1, fr1, h1⟩ => by
    obtain ⟨d1, w1, h3⟩ := View.vw h1 o1 st1
    cases d1 with
    | int i =>
      cases w1.int
      exact ⟨i, rfl, (post_val b1 o1 (.int _) h3).from fr1⟩
    | _ => exact h3.elim⟩

/-! ### tests: and, or, not; conditional expressions -/
variable {PT : Bool → Env → Prop} {rest : List Expr}
theorem ww_and1 (h : WT Z X a env PT) : WW Z X (.BoolOp .And [a] pos) env PT := fun wh pins s σ H F O I b0 o => (pw_and1 (pt_T (e := a))).run wh pins s σ H _ I ⟨env, F, O, _, b0, o, h, fun _ _ q => q⟩
theorem ww_or1 (h : WT Z X a env PT) : WW Z X (.BoolOp .Or [a] pos) env PT := fun wh pins s σ H F O I b0 o => (pw_or1 (pt_T (e := a))).run wh pins s σ H _ I ⟨env, F, O, _, b0, o, h, fun _ _ q => q⟩
theorem pw_W {e : Expr} : PW X e (fun σ H Q => ∃ env F O P, Bas Z F H O ∧ OwE F H O σ env ∧ WW Z X e env P ∧ ∀ v H', PostT Z σ H F O P v H' → Q v H') :=
  ⟨fun wh pins s σ H Q I ⟨env, F, O, P, b, o, w, q⟩ => thn (w wh pins s σ H F O I b o) fun _ _ ⟨H', I', p⟩ => ⟨H', I', q _ _ p⟩⟩
theorem ww_and (h : WT Z X a env fun k e1 => (k = true → WW Z X (.BoolOp .And (b :: rest) pos) e1 PT) ∧ (k = false → PT false e1)) : WW Z X (.BoolOp .And (a :: b :: rest) pos) env PT := fun wh pins s σ H F O I b0 o =>
  (pw_and (pt_T (e := a)) pw_W).run wh pins s σ H _ I ⟨env, F, O, _, b0, o, h, fun k H1 ⟨F1, O1, env1, b1, o1, fr1, h1⟩ => by
    cases k with
    | true => exact iteT ⟨env1, F1, O1, _, b1, o1, h1.1 rfl, fun _ _ q => q.from fr1⟩
    | false => exact iteF ⟨F1, O1, env1, b1, o1, fr1, h1.2 rfl⟩⟩
theorem ww_or (h : WT Z X a env fun k e1 => (k = false → WW Z X (.BoolOp .Or (b :: rest) pos) e1 PT) ∧ (k = true → PT true e1)) : WW Z X (.BoolOp .Or (a :: b :: rest) pos) env PT := fun wh pins s σ H F O I b0 o =>
  (pw_or (pt_T (e := a)) pw_W).run wh pins s σ H _ I ⟨env, F, O, _, b0, o, h, fun k H1 ⟨F1, O1, env1, b1, o1, fr1, h1⟩ => by
    cases k with
    | false => exact iteF ⟨env1, F1, O1, _, b1, o1, h1.1 rfl, fun _ _ q => q.from fr1⟩
    | true => exact iteT ⟨F1, O1, env1, b1, o1, fr1, h1.2 rfl⟩⟩
theorem wt_not (h : WT Z X a env fun k e1 => PT (!k) e1) : WT Z X (.UnaryOp .Not a pos) env PT := wt_of (pt_not (pt_T (e := a))) fun σ H F O b0 o => ⟨env, F, O, _, b0, o, h, fun _ _ q => q⟩
/-- a value that is a bool, as a test -/
theorem wt_val (h : WE Z X e env fun r e1 => ∃ k, r = .t (.va (.bool k)) ∧ PT k e1) (he : ∀ whole, isTrue e X.env whole = (do let v ← whole; standAt e.pos; holding [v] (truthy v)) := by intro _; rfl) : WT Z X e env PT :=
  wt_of (pt_val (pe_E (e := e)) he) fun σ H F O b0 o => ⟨env, F, O, _, b0, o, h, fun v H1 ⟨F1, O1, r, env1, b1, st, fr1, k, e1, h1⟩ => by
    subst e1
    obtain ⟨O1', O2, rfl, o1, ow⟩ := st
    cases ow with
    | va r =>
      cases r with
      | bl k =>
        rw [List.append_nil] at b1 fr1
        exact ⟨k, rfl, F1, O1', env1, b1, o1, fr1, h1⟩⟩
theorem w_ifExp (h : WT Z X c env fun k e1 => (k = true → WE Z X a e1 P) ∧ (k = false → WE Z X b e1 P)) : WE Z X (.IfExp c a b pos) env P :=
  we_of (pe_ifExp (pt_T (e := c)) (pe_E (e := a)) (pe_E (e := b))) fun σ H F O b0 o => ⟨env, F, O, _, b0, o, h, fun k H1 ⟨F1, O1, env1, b1, o1, fr1, h1⟩ => by
    cases k with
    | true => exact iteT ⟨env1, F1, O1, _, b1, o1, h1.1 rfl, fun _ _ q => q.from fr1⟩
    | false => exact iteF ⟨env1, F1, O1, _, b1, o1, h1.2 rfl, fun _ _ q => q.from fr1⟩⟩
/-- and, or, not of bools as values -/
theorem w_one {op : _} (h : WE Z X a env P) : WE Z X (.BoolOp op [a] pos) env P := we_of (pe_one (pe_E (e := a))) fun σ H F O b0 o => ⟨env, F, O, _, b0, o, h, fun _ _ q => q⟩
theorem w_and (h : WE Z X a env fun r e1 => ∃ k, r = .t (.va (.bool k)) ∧ (k = true → WE Z X (.BoolOp .And (b :: rest) pos) e1 P) ∧ (k = false → P (.t (.va (.bool false))) e1)) : WE Z X (.BoolOp .And (a :: b :: rest) pos) env P :=
  we_of (pe_and (pe_E (e := a)) (pe_E (e := .BoolOp .And (b :: rest) pos))) fun σ H F O b0 o => ⟨env, F, O, _, b0, o, h, fun v H1 q => by
    obtain ⟨k, F1, O1, env1, rfl, b1, o1, fr1, h1⟩ := post_bool q
    refine ⟨k, rfl, ?_⟩
    cases k with
    | true => exact iteT ⟨env1, F1, O1, _, b1, o1, h1.1 rfl, fun _ _ q => q.from fr1⟩
    | false => exact iteF ((post_val b1 o1 (.bl _) (h1.2 rfl)).from fr1)⟩
theorem w_not (h : WE Z X a env fun r e1 => ∃ k, r = .t (.va (.bool k)) ∧ P (.t (.va (.bool (!k)))) e1) : WE Z X (.UnaryOp .Not a pos) env P :=
  we_of (pe_not (pe_E (e := a))) fun σ H F O b0 o => ⟨env, F, O, _, b0, o, h, fun v H1 q => by
    obtain ⟨k, F1, O1, env1, rfl, b1, o1, fr1, h1⟩ := post_bool q
    exact ⟨k, rfl, (post_val b1 o1 (.bl _) h1).from fr1⟩⟩

end
end QL

/-! QD: statements; defs. -/
namespace QL
open PySem PySem.Spec PyProof.Rows L2

/-! ### slots stored -/
theorem OwE.set {F H : Hp} : ∀ {O : List Addr} {σ : L2.St} {e : Env} {O2 : List Addr} {v : V} {t : T} (i : Nat), OwE F H O σ e → Ow F H O2 v t → i < e.length →
    ∃ O' Od, OwE F H O' (σ.set i (some v)) (e.set i (some t)) ∧ (O2 ++ O).Perm (O' ++ Od)
  | _, _, _, _, _, _, _, .nil, _, h => nomatch h
  | _, _, _, O2, v, t, 0, .un (O := O) r, w, _ => ⟨O2 ++ O, [], .so w r, by rw [List.append_nil]⟩
  | _, _, _, O2, v, t, i + 1, .un (O := O) r, w, h => by
    obtain ⟨O', Od, h1, h2⟩ := OwE.set i r w (Nat.lt_of_succ_lt_succ h)
    exact ⟨O', Od, .un h1, h2⟩
  | _, _, _, O2, v, t, 0, .so (O1 := Oa) (O2 := Ob) _ r, w, _ => ⟨O2 ++ Ob, Oa, .so w r, by rw [List.append_assoc]; exact (List.perm_append_comm (l₁ := Oa) (l₂ := Ob)).append_left O2⟩
  | _, _, _, O2, v, t, i + 1, .so (O1 := Oa) (O2 := Ob) q r, w, h => by
    obtain ⟨O', Od, h1, h2⟩ := OwE.set i r w (Nat.lt_of_succ_lt_succ h)
    refine ⟨Oa ++ O', Od, .so q h1, ?_⟩
    rw [List.append_assoc]
    refine List.Perm.trans ?_ (h2.append_left Oa)
    rw [← List.append_assoc, ← List.append_assoc]
    exact List.perm_append_comm.append_right Ob
theorem OwE.drop {F H : Hp} : ∀ {O : List Addr} {σ : L2.St} {e : Env} (i : Nat), OwE F H O σ e → ∃ O' Od, OwE F H O' σ (e.set i none) ∧ O.Perm (O' ++ Od)
  | _, _, _, _, .nil => ⟨[], [], .nil, List.Perm.refl _⟩
  | _, _, _, 0, .un (O := O) r => ⟨O, [], .un r, by rw [List.append_nil]⟩
  | _, _, _, i + 1, .un r => by
    obtain ⟨O', Od, h1, h2⟩ := OwE.drop i r
    exact ⟨O', Od, .un h1, h2⟩
  | _, _, _, 0, .so (O1 := Oa) (O2 := Ob) _ r => ⟨Ob, Oa, .un r, List.perm_append_comm⟩
  | _, _, _, i + 1, .so (O1 := Oa) (O2 := Ob) q r => by
    obtain ⟨O', Od, h1, h2⟩ := OwE.drop i r
    exact ⟨Oa ++ O', Od, .so q h1, by rw [List.append_assoc]; exact h2.append_left Oa⟩
theorem Bas.dropP {Tq : List (Addr × Str)} {Z : Zb Tq} {F H : Hp} {O O' Od : List Addr} (b : Bas Z F H O) (p : O.Perm (O' ++ Od)) : Bas Z F H O' ∧ Frm Tq H F O H F O' :=
  ⟨(b.perm p).left, (Frm.refl H F O).perm (fun _ => Iff.rfl) fun c hc => p.mem_iff.mpr (List.mem_append_left _ hc)⟩

/-! ### statements -/
inductive Out
  | nx (e : Env)
  | ret (t : T) (e : Env)
  | bk (e : Env)
  | ct (e : Env)
def endsOf {Tq : List (Addr × Str)} (Z : Zb Tq) (H0 F0 : Hp) (O0 : List Addr) (P : Out → Prop) : Ends where
  nx := fun σ H => ∃ F O env, Bas Z F H O ∧ OwE F H O σ env ∧ Frm Tq H0 F0 O0 H F O ∧ P (.nx env)
  rt := fun v H => ∃ F O1 O2 σ t env, Bas Z F H (O1 ++ O2) ∧ OwE F H O1 σ env ∧ Ow F H O2 v t ∧ Frm Tq H0 F0 O0 H F (O1 ++ O2) ∧ P (.ret t env)
  bk := fun σ H => ∃ F O env, Bas Z F H O ∧ OwE F H O σ env ∧ Frm Tq H0 F0 O0 H F O ∧ P (.bk env)
  ct := fun σ H => ∃ F O env, Bas Z F H O ∧ OwE F H O σ env ∧ Frm Tq H0 F0 O0 H F O ∧ P (.ct env)
def WS {Tq : List (Addr × Str)} (Z : Zb Tq) (X : Cx) (st : Stmt) (env : Env) (P : Out → Prop) : Prop :=
  ∀ (pins : List (Addr × Obj)) (s : Shared) (σ : L2.St) (H F : Hp) (O : List Addr), Inv X pins σ H s → Bas Z F H O → OwE F H O σ env →
    wpAny (model X.prog X.w) X.A (exec st X.env) (SP X pins (endsOf Z H F O P)) X.xe s
def WSs {Tq : List (Addr × Str)} (Z : Zb Tq) (X : Cx) (st : List Stmt) (env : Env) (P : Out → Prop) : Prop :=
  ∀ (pins : List (Addr × Obj)) (s : Shared) (σ : L2.St) (H F : Hp) (O : List Addr), Inv X pins σ H s → Bas Z F H O → OwE F H O σ env →
    wpAny (model X.prog X.w) X.A (execs st X.env) (SP X pins (endsOf Z H F O P)) X.xe s
/-- what is wanted, weaker -/
structure EndsLe (D D' : Ends) : Prop where
  nx : ∀ σ H, D.nx σ H → D'.nx σ H
  rt : ∀ v H, D.rt v H → D'.rt v H
  bk : ∀ σ H, D.bk σ H → D'.bk σ H
  ct : ∀ σ H, D.ct σ H → D'.ct σ H
theorem EndsLe.refl (D : Ends) : EndsLe D D := ⟨fun _ _ h => h, fun _ _ h => h, fun _ _ h => h, fun _ _ h => h⟩
theorem SP.le {X : Cx} {pins : List (Addr × Obj)} {D D' : Ends} (l : EndsLe D D') : ∀ f s', SP X pins D f s' → SP X pins D' f s'
  | .next, _, ⟨σ, H, I, q⟩ => ⟨σ, H, I, l.nx _ _ q⟩
  | .brk, _, ⟨σ, H, I, q⟩ => ⟨σ, H, I, l.bk _ _ q⟩
  | .cont, _, ⟨σ, H, I, q⟩ => ⟨σ, H, I, l.ct _ _ q⟩
  | .ret _, _, ⟨v, σ, H, I, r, q⟩ => ⟨v, σ, H, I, r, l.rt _ _ q⟩
theorem endsOf.from {Tq : List (Addr × Str)} {Z : Zb Tq} {H0 F0 H1 F1 : Hp} {O0 O1 : List Addr} {P P' : Out → Prop} (fr : Frm Tq H0 F0 O0 H1 F1 O1) (hp : ∀ o, P o → P' o) : EndsLe (endsOf Z H1 F1 O1 P) (endsOf Z H0 F0 O0 P') :=
  ⟨fun _ _ ⟨F, O, env, b, o, f, p⟩ => ⟨F, O, env, b, o, fr.trans f, hp _ p⟩, fun _ _ ⟨F, O, O2, σ, t, env, b, o, w, f, p⟩ => ⟨F, O, O2, σ, t, env, b, o, w, fr.trans f, hp _ p⟩,
    fun _ _ ⟨F, O, env, b, o, f, p⟩ => ⟨F, O, env, b, o, fr.trans f, hp _ p⟩, fun _ _ ⟨F, O, env, b, o, f, p⟩ => ⟨F, O, env, b, o, fr.trans f, hp _ p⟩⟩
def tS {Tq : List (Addr × Str)} (Z : Zb Tq) (X : Cx) (st : Stmt) : TS := fun D σ H => ∃ env F O P, Bas Z F H O ∧ OwE F H O σ env ∧ WS Z X st env P ∧ EndsLe (endsOf Z H F O P) D
def tSs {Tq : List (Addr × Str)} (Z : Zb Tq) (X : Cx) (st : List Stmt) : TS := fun D σ H => ∃ env F O P, Bas Z F H O ∧ OwE F H O σ env ∧ WSs Z X st env P ∧ EndsLe (endsOf Z H F O P) D
section
variable {Tq : List (Addr × Str)} {Z : Zb Tq} {X : Cx} {e a b c : Expr} {es : List Expr} {env : Env} {pos : Pos} {P : Out → Prop} {st : Stmt} {rest body els : List Stmt}
theorem ps_S : PS X st (tS Z X st) := ⟨fun pins s σ H D I ⟨env, F, O, P, b, o, w, l⟩ => thn (w pins s σ H F O I b o) (SP.le l)⟩
theorem pss_S : PSs X rest (tSs Z X rest) := ⟨fun pins s σ H D I ⟨env, F, O, P, b, o, w, l⟩ => thn (w pins s σ H F O I b o) (SP.le l)⟩
theorem ws_of {t : TS} (h : PS X st t) (w : ∀ σ H F O, Bas Z F H O → OwE F H O σ env → t (endsOf Z H F O P) σ H) : WS Z X st env P := fun pins s σ H F O I b o => h.run pins s σ H _ I (w σ H F O b o)
theorem WS.imp {P' : Out → Prop} (h : WS Z X st env P) (hp : ∀ o, P o → P' o) : WS Z X st env P' := fun pins s σ H F O I b o => thn (h pins s σ H F O I b o) (SP.le (endsOf.from (Frm.refl _ _ _) hp))
theorem WSs.imp {P' : Out → Prop} (h : WSs Z X rest env P) (hp : ∀ o, P o → P' o) : WSs Z X rest env P' := fun pins s σ H F O I b o => thn (h pins s σ H F O I b o) (SP.le (endsOf.from (Frm.refl _ _ _) hp))
theorem wss_nil (h : P (.nx env)) : WSs Z X [] env P := fun pins s σ H F O I b o => pss_nil.run pins s σ H _ I ⟨F, O, env, b, o, Frm.refl _ _ _, h⟩
/-- a statement, then the rest -/
def seqP {Tq : List (Addr × Str)} (Z : Zb Tq) (X : Cx) (rest : List Stmt) (P : Out → Prop) : Out → Prop
  | .nx e => WSs Z X rest e P
  | .ret t e => P (.ret t e)
  | .bk e => P (.bk e)
  | .ct e => P (.ct e)
theorem wss_cons (h : WS Z X st env (seqP Z X rest P)) : WSs Z X (st :: rest) env P := fun pins s σ H F O I b o =>
  (pss_cons (ps_S (Z := Z)) (pss_S (Z := Z))).run pins s σ H _ I ⟨env, F, O, _, b, o, h, ⟨fun σ' H' ⟨F', O', e', b', o', f', p⟩ => ⟨e', F', O', P, b', o', p, endsOf.from f' fun _ q => q⟩, fun _ _ q => q, fun _ _ q => q, fun _ _ q => q⟩⟩
theorem wss_one (h : WS Z X st env P) : WSs Z X [st] env P := fun pins s σ H F O I b o => (pss_one (ps_S (Z := Z))).run pins s σ H _ I ⟨env, F, O, _, b, o, h, EndsLe.refl _⟩
theorem ws_expr (h : WE Z X e env fun _ e1 => P (.nx e1)) (hs : swapsWith e none pos.line X.env = pure false := by rfl) : WS Z X (.Expr e pos) env P := ws_of (ps_expr (pe_E (Z := Z)) hs) fun σ H F O b o =>
  ⟨env, F, O, _, b, o, h, fun v H1 ⟨F1, O1, r, e1, b1, st, fr, p⟩ => by
    cases r with
    | bor a i q => exact ⟨F1, O1, e1, b1, st.1, fr, p⟩
    | t t =>
      obtain ⟨O2, O3, rfl, o2, _⟩ := st
      exact ⟨F1, O2, e1, b1.left, o2, fr.perm (fun _ => Iff.rfl) fun c hc => List.mem_append_left _ hc, p⟩⟩
/-- what is handed back: a thing of its own; what a name alone holds goes away with it -/
def retR (r : R) (env : Env) (k : T → Env → Prop) : Prop := match r with
  | .t t => k t env
  | .bor a i [] => match env[i]? with
    | some (some t) => t.addr = some a ∧ k t (env.set i none)
    | _ => False
  | .bor a i p => match getP i p env with
    | some t => t.addr = some a ∧ match frzT t with
      | some d => k (.va d) (setP i p (.va d) env)
      | none => False
    | none => False
theorem OwE.takeI {F H : Hp} : ∀ {O : List Addr} {σ : L2.St} {e : Env} {i : Nat} {t : T}, OwE F H O σ e → e[i]? = some (some t) → ∃ w O1 O2, OwE F H O1 σ (e.set i none) ∧ Ow F H O2 w t ∧ O.Perm (O1 ++ O2)
  | _, _, _, _, _, .nil, h => nomatch h
  | _, _, _, 0, t, .un r, h => by cases h
  | _, _, _, i + 1, t, .un (O := O) r, h => by
    obtain ⟨w, O1, O2, h1, h2, h3⟩ := OwE.takeI (i := i) r h
    exact ⟨w, O1, O2, .un h1, h2, h3⟩
  | _, _, _, 0, t, .so (O1 := Oa) (O2 := Ob) q r, h => by
    cases h
    exact ⟨_, Ob, Oa, .un r, q, List.perm_append_comm⟩
  | _, _, _, i + 1, t, .so (O1 := Oa) (O2 := Ob) q r, h => by
    obtain ⟨w, O1, O2, h1, h2, h3⟩ := OwE.takeI (i := i) r h
    exact ⟨w, Oa ++ O1, O2, .so q h1, h2, by rw [List.append_assoc]; exact h3.append_left Oa⟩
theorem retR_ok {σ : L2.St} {F H : Hp} {O : List Addr} {v : V} {r : R} {k : T → Env → Prop} (b : Bas Z F H O) (s : StR F H O σ env v r) (h : retR r env k) :
    ∃ F' O1 O2 t e', Bas Z F' H (O1 ++ O2) ∧ OwE F' H O1 σ e' ∧ Ow F' H O2 v t ∧ Frm Tq H F O H F' (O1 ++ O2) ∧ k t e' := by
  cases r with
  | t t =>
    obtain ⟨O1, O2, rfl, o, w⟩ := s
    exact ⟨F, O1, O2, t, env, b, o, w, Frm.refl _ _ _, h⟩
  | bor a i p =>
    obtain ⟨o, rfl⟩ := s
    cases p with
    | nil =>
      unfold retR at h
      simp only at h
      split at h
      · rename_i t e
        obtain ⟨w, O1, O2, h1, h2, h3⟩ := o.takeI e
        have hw := h2.ref h.1
        subst hw
        exact ⟨F, O1, O2, t, _, b.perm h3, h1, h2, (Frm.refl H F O).perm (fun _ => Iff.rfl) fun c hc => h3.mem_iff.mpr hc, h.2⟩
      · exact h.elim
    | cons f p =>
      unfold retR at h
      simp only at h
      cases hg : getP i (f :: p) env with
      | none => rw [hg] at h; exact h.elim
      | some t =>
        rw [hg] at h
        obtain ⟨ha, h⟩ := h
        cases hf : frzT t with
        | none => rw [hf] at h; exact h.elim
        | some d =>
          rw [hf] at h
          obtain ⟨F', O', ds, e', b', o', r', fr, q⟩ := absorb_ok (k := fun ds e' => ∃ d, ds = [d] ∧ k (.va d) e') (.cons (a := .bor a i (f :: p)) rfl .nil) b o (by
            unfold absorb; simp only [hg, hf]; exact ⟨ha, d, rfl, h⟩)
          obtain ⟨d, rfl, q⟩ := q
          cases r' with
          | cons r1 _ => exact ⟨F', O', [], .va d, e', by rw [List.append_nil]; exact b', o', .va r1, by rw [List.append_nil]; exact fr, q⟩
theorem ws_ret (h : WE Z X e env fun r e1 => retR r e1 fun t e2 => P (.ret t e2)) : WS Z X (.Return (some e) pos) env P := ws_of (ps_ret (pe_E (Z := Z))) fun σ H F O b o =>
  ⟨env, F, O, _, b, o, h, fun v H1 ⟨F1, O1, r, e1, b1, st, fr, p⟩ => by
    obtain ⟨F2, O2, O3, t, e2, b2, o2, w2, fr2, q⟩ := retR_ok b1 st p
    exact ⟨F2, O2, O3, σ, t, e2, b2, o2, w2, fr.trans fr2, q⟩⟩
theorem ws_if (h : WT Z X c env fun k e1 => (k = true → WSs Z X body e1 P) ∧ (k = false → WSs Z X els e1 P)) : WS Z X (.If c body els pos) env P :=
  ws_of (ps_if (pt_T (Z := Z)) (pss_S (Z := Z)) (pss_S (Z := Z))) fun σ H F O b o => ⟨env, F, O, _, b, o, h, fun k H1 ⟨F1, O1, e1, b1, o1, fr, p⟩ => by
    cases k with
    | true => exact iteT ⟨e1, F1, O1, P, b1, o1, p.1 rfl, endsOf.from fr fun _ q => q⟩
    | false => exact iteF ⟨e1, F1, O1, P, b1, o1, p.2 rfl, endsOf.from fr fun _ q => q⟩⟩
/-- x = e: a thing of its own, or what is frozen from then on -/
def storeR (r : R) (i : Nat) (env : Env) (k : Env → Prop) : Prop := i < env.length ∧ match r with
  | .t t => k (env.set i (some t))
  | .bor a j p => absorb [.bor a j p] env fun ds e => match ds with
    | [d] => i < e.length ∧ k (e.set i (some (.va d)))
    | _ => False
theorem storeR_ok {σ : L2.St} {F H : Hp} {O : List Addr} {v : V} {r : R} {i : Nat} {k : Env → Prop} (b : Bas Z F H O) (s : StR F H O σ env v r) (h : storeR r i env k) :
    ∃ F' O' e', Bas Z F' H O' ∧ OwE F' H O' (σ.set i (some v)) e' ∧ Frm Tq H F O H F' O' ∧ k e' := by
  obtain ⟨hi, h⟩ := h
  cases r with
  | t t =>
    obtain ⟨O1, O2, rfl, o, w⟩ := s
    obtain ⟨O', Od, h1, h2⟩ := o.set i w hi
    obtain ⟨b', fr⟩ := b.dropP (List.perm_append_comm.trans h2)
    exact ⟨F, O', _, b', h1, fr, h⟩
  | bor a j p =>
    obtain ⟨o, rfl⟩ := s
    obtain ⟨F', O1, ds, e1, b1, o1, r1, fr1, q⟩ := absorb_ok (.cons (a := .bor a j p) rfl .nil) b o h
    cases r1 with
    | cons r1 r2 =>
      cases r2
      obtain ⟨hi', q⟩ := q
      obtain ⟨O', Od, h1, h2⟩ := o1.set i (.va r1) hi'
      obtain ⟨b', fr⟩ := b1.dropP h2
      exact ⟨F', O', _, b', h1, fr1.trans fr, q⟩
theorem ws_set (i : Nat) {x : Str} {pos' : Pos} (h : WE Z X e env fun r e1 => storeR r i e1 fun e2 => P (.nx e2)) (hN : X.N.Nodup) (hi : X.N[i]? = some x := by rfl) (hx : Loc X.env.scope x := by first | exact Or.inl rfl | exact Or.inr rfl) (hs : swapsWith e (some (.Name x pos')) pos.line X.env = pure false := by rfl)
    (hf : X.fn x = true ∨ X.env.scope.names.lookup x = some .local := by first | exact .inl rfl | exact .inr rfl) : WS Z X (.Assign [.Name x pos'] e pos) env P :=
  ws_of (ps_set hN hi hx (pe_E (Z := Z)) hs hf) fun σ H F O b o => ⟨env, F, O, _, b, o, h, fun v H1 ⟨F1, O1, r, e1, b1, st, fr, p⟩ => by
    obtain ⟨F2, O2, e2, b2, o2, fr2, q⟩ := storeR_ok b1 st p
    exact ⟨F2, O2, e2, b2, o2, fr.trans fr2, q⟩⟩
/-- x op= e -/
theorem ws_aug (i : Nat) {x : Str} {pos' : Pos} {op : Operator} {g : D → D → (T → Prop) → Prop} (ho : DOp X (inplaceOp op) g)
    (h : ∃ d0, env[i]? = some (some (.va d0)) ∧ WA Z X e env fun a2 e2 => View a2 e2 fun d2 => i < e2.length ∧ g d0 d2 fun t => P (.nx (e2.set i (some t)))) (hN : X.N.Nodup) (hi : X.N[i]? = some x := by rfl) (hx : Loc X.env.scope x := by first | exact Or.inl rfl | exact Or.inr rfl)
    (hf : X.fn x = true ∨ X.env.scope.names.lookup x = some .local := by first | exact .inl rfl | exact .inr rfl) : WS Z X (.AugAssign (.Name x pos') op e pos) env P := by
  obtain ⟨d0, e0, h⟩ := h
  have hp : PIp X op (rD g) := fun pins s σ H x y v u Q I r1 r2 q => ho.r pins s σ H x y v u Q I r1 r2 q
  refine ws_of (ps_aug hN hi hx (pe_A (Z := Z)) hp hf) fun σ H F O b o => ?_
  obtain ⟨w, hw, Oj, O', h1, h2, h3⟩ := o.focusI e0
  cases h1 with
  | va r0 =>
    refine ⟨w, hw, env, F, O, _, b, o, h, fun v2 H2 ⟨F2, O2, a2, e2, b2, o2, st2, fr2, p⟩ => ?_⟩
    obtain ⟨d2, w2, hl, hg⟩ := View.vw p o2 st2
    refine ⟨F2, d0, d2, _, b2.sub, .pure (r0.mono fr2.fz), w2, hg, fun v3 H3 n => ?_⟩
    obtain ⟨F3, O3, r3, e3, b3, st3, fr3, t, er, e3e, q⟩ := n.post b2 o2 (P := fun r e => ∃ t, r = .t t ∧ e = e2 ∧ P (.nx (e2.set i (some t)))) fun t q => ⟨t, rfl, rfl, q⟩
    subst er e3e
    obtain ⟨F4, O4, e4, b4, o4, fr4, q4⟩ := storeR_ok (i := i) (k := fun e => P (.nx e)) b3 st3 ⟨hl, q⟩
    exact ⟨F4, O4, e4, b4, o4, (fr2.trans fr3).trans fr4, q4⟩

/-! ### while -/
def loopP (P : Out → Prop) (N : Env → Prop) : Out → Prop
  | .nx e => N e
  | .ct e => N e
  | .bk e => P (.nx e)
  | .ret t e => P (.ret t e)
theorem loop_le {H0 F0 H1 F1 : Hp} {O0 O1 : List Addr} (fr : Frm Tq H0 F0 O0 H1 F1 O1) {N : Env → Prop} {Nh : L2.St → Hp → Prop} (hn : ∀ σ H F O env, Bas Z F H O → OwE F H O σ env → Frm Tq H1 F1 O1 H F O → N env → Nh σ H) :
    EndsLe (endsOf Z H1 F1 O1 (loopP P N)) { endsOf Z H0 F0 O0 P with nx := Nh, ct := Nh, bk := (endsOf Z H0 F0 O0 P).nx } :=
  ⟨fun _ _ ⟨F, O, env, b, o, f, p⟩ => hn _ _ F O env b o f p, fun _ _ ⟨F, O, O2, σ, t, env, b, o, w, f, p⟩ => ⟨F, O, O2, σ, t, env, b, o, w, fr.trans f, p⟩,
    fun _ _ ⟨F, O, env, b, o, f, p⟩ => ⟨F, O, env, b, o, fr.trans f, p⟩, fun _ _ ⟨F, O, env, b, o, f, p⟩ => hn _ _ F O env b o f p⟩
theorem ws_while (I : Nat → Env → Prop) (m : Nat) (h0 : I m env) (hs : ∀ m env, I m env → WT Z X c env fun k e1 => (k = true → WSs Z X body e1 (loopP P fun e => ∃ m', m' < m ∧ I m' e)) ∧ (k = false → P (.nx e1)))
    (hp : PassesOwn (model X.prog X.w) X.A X.env X.xe) : WS Z X (.While c body [] pos) env P :=
  ws_of (ps_while hp (pt_T (Z := Z)) (pss_S (Z := Z))) fun σ0 H0 F0 O0 b0 o0 => by
    refine ⟨fun m σ H => ∃ F O env, Bas Z F H O ∧ OwE F H O σ env ∧ Frm Tq H0 F0 O0 H F O ∧ I m env, ⟨m, F0, O0, env, b0, o0, Frm.refl _ _ _, h0⟩, ?_⟩
    rintro m σ H ⟨F, O, env, b, o, fr, hI⟩
    refine ⟨env, F, O, _, b, o, hs m env hI, fun k H1 ⟨F1, O1, e1, b1, o1, fr1, p⟩ => ?_⟩
    cases k with
    | true =>
      refine iteT ⟨fun σ' H' => ∃ m', m' < m ∧ ∃ F O env, Bas Z F H' O ∧ OwE F H' O σ' env ∧ Frm Tq H0 F0 O0 H' F O ∧ I m' env, fun σ' H' ⟨m', hm, q⟩ => ⟨m', hm, q⟩, e1, F1, O1, _, b1, o1, p.1 rfl, ?_⟩
      refine loop_le (fr.trans fr1) ?_
      rintro σ2 H2 F2 O2 e2 b2 o2 f2 ⟨m', hm, q⟩
      exact ⟨m', hm, F2, O2, e2, b2, o2, (fr.trans fr1).trans f2, q⟩
    | false => exact iteF ⟨F1, O1, e1, b1, o1, fr.trans fr1, p.2 rfl⟩
end
end QL

/-! QE: targets, for, comprehensions. -/
namespace QL
open PySem PySem.Spec PyProof.Rows L2

theorem Bas.grow {Tq : List (Addr × Str)} {Z : Zb Tq} {F H F' H' : Hp} {O : List Addr} {σ : L2.St} {env : Env} (b : Bas Z F H O) (o : OwE F H O σ env) (s1 : Same F F') (s2 : Same H H') (s3 : Same F' H') (nf : ∀ a, F' a ≠ none → F a ≠ none ∨ H a = none) :
    Bas Z F' H' O ∧ OwE F' H' O σ env ∧ Frm Tq H F O H' F' O := by
  have keep : ∀ a ∈ O, H' a = H a := fun a ha => by
    cases q : H a with
    | none => exact absurd q (o.there a ha)
    | some x => exact s2 a x q
  have fr : Frm Tq H F O H' F' O := ⟨s1, fun a x e _ _ => s2 a x e, (fun a e => by
      cases q : H a with
      | none => exact absurd q e
      | some x => rw [s2 a x q]; exact fun z => nomatch z), fun a e => (nf a e).imp_right .inl, fun a ha => .inl ha, tab_same s2⟩
  refine ⟨⟨s3, b.nd, fun a ha => ?_, b.abs.trans fr⟩, o.stay s1 keep, fr⟩
  cases q : F' a with
  | none => rfl
  | some x =>
    rcases nf a (by rw [q]; exact fun z => nomatch z) with z | z
    · exact absurd (b.dis a ha) z
    · exact absurd z (o.there a ha)

/-! ### targets -/
theorem wipe_get {σ : L2.St} {i : Nat} : ∀ {vs : List Nat}, (wipe σ vs)[i]? = if i ∈ vs then (if i < σ.length then some none else none) else σ[i]?
  | [] => by simp [wipe]
  | v :: vs => by
    unfold wipe
    rw [List.getElem?_set, wipe_length, wipe_get (vs := vs)]
    by_cases e : v = i
    · subst e; simp
    · rw [if_neg e]
      have : (i ∈ v :: vs) ↔ i ∈ vs := by simp [Ne.symm e]
      simp only [this]
theorem wipe_set {σ : L2.St} {i : Nat} {x : Option V} {vs : List Nat} (h : i ∈ vs) : wipe (σ.set i x) vs = wipe σ vs := by
  apply List.ext_getElem?
  intro j
  rw [wipe_get, wipe_get, List.length_set]
  by_cases e : j ∈ vs
  · rw [if_pos e, if_pos e]
  · rw [if_neg e, if_neg e, List.getElem?_set_ne (fun z => e (by rw [← z]; exact h))]
theorem wipe_wipe {σ : L2.St} {vs : List Nat} : wipe (wipe σ vs) vs = wipe σ vs := by
  apply List.ext_getElem?
  intro j
  rw [wipe_get, wipe_get, wipe_length]
  by_cases e : j ∈ vs
  · rw [if_pos e, if_pos e]
  · rw [if_neg e, if_neg e]
def wipeE (env : Env) : List Nat → Env
  | [] => env
  | v :: vs => (wipeE env vs).set v none
theorem OwE.none_any {F H : Hp} : ∀ {O : List Addr} {σ σ' : L2.St} {e : Env}, OwE F H O σ e → σ'.length = σ.length → (∀ i : Nat, e[i]? ≠ some none → σ'[i]? = σ[i]?) → OwE F H O σ' e
  | _, _, [], _, .nil, _, _ => .nil
  | _, _, _ :: _, _, .nil, l, _ => nomatch l
  | _, _, [], _, .un r, l, _ => nomatch l
  | _, _, x :: σ', _, .un r, l, h => .un (r.none_any (Nat.succ.inj l) fun i hi => h (i + 1) hi)
  | _, _, [], _, .so q r, l, _ => nomatch l
  | _, _, x :: σ', _, .so q r, l, h => by
    have e : x = some _ := Option.some.inj (h 0 fun z => nomatch z)
    subst e
    exact .so q (r.none_any (Nat.succ.inj l) fun i hi => h (i + 1) hi)
theorem OwE.wipeO {F H : Hp} {O : List Addr} {σ : L2.St} {e : Env} (o : OwE F H O σ e) : ∀ vs : List Nat, ∃ O' Od, OwE F H O' σ (wipeE e vs) ∧ O.Perm (O' ++ Od)
  | [] => ⟨O, [], o, by rw [List.append_nil]⟩
  | v :: vs => by
    obtain ⟨O1, Od1, h1, h2⟩ := o.wipeO vs
    obtain ⟨O2, Od2, h3, h4⟩ := h1.drop v
    exact ⟨O2, Od2 ++ Od1, h3, by rw [← List.append_assoc]; exact h2.trans (h4.append_right Od1)⟩
theorem wipeE_get {env : Env} {i : Nat} : ∀ {vs : List Nat}, (wipeE env vs)[i]? = if i ∈ vs then (if i < env.length then some none else none) else env[i]?
  | [] => by simp [wipeE]
  | v :: vs => by
    have hl : ∀ ws : List Nat, (wipeE env ws).length = env.length := fun ws => by
      induction ws with
      | nil => rfl
      | cons w ws ih => unfold wipeE; rw [List.length_set, ih]
    unfold wipeE
    rw [List.getElem?_set, hl, wipeE_get (vs := vs)]
    by_cases e : v = i
    · subst e; simp
    · rw [if_neg e]
      have : (i ∈ v :: vs) ↔ i ∈ vs := by simp [Ne.symm e]
      simp only [this]
/-- the slots of a block's names: what stands there does not matter -/
theorem OwE.wiped {F H : Hp} {O : List Addr} {σ σ' : L2.St} {e : Env} {vs : List Nat} (o : OwE F H O σ (wipeE e vs)) (h : wipe σ' vs = wipe σ vs) : OwE F H O σ' (wipeE e vs) := by
  have hl : σ'.length = σ.length := by have := congrArg List.length h; rw [wipe_length, wipe_length] at this; exact this
  have hw : (wipeE e vs).length = e.length := by
    clear o h hl
    induction vs with
    | nil => rfl
    | cons w ws ih => unfold wipeE; rw [List.length_set, ih]
  refine o.none_any hl fun i hi => ?_
  have g := congrArg (fun l => l[i]?) h
  simp only [wipe_get] at g
  by_cases z : i ∈ vs
  · rw [wipeE_get, if_pos z] at hi
    by_cases y : i < e.length
    · rw [if_pos y] at hi; exact absurd rfl hi
    · have q := o.len
      rw [hw] at q
      rw [List.getElem?_eq_none (by omega), List.getElem?_eq_none (by omega)]
  · rw [if_neg z, if_neg z] at g
    exact g

abbrev TF := D → Env → (Env → Prop) → Prop
abbrev TFs := List D → Env → (Env → Prop) → Prop
/-- a target's store, over data; ix: its names' slots -/
def GOk {Tq : List (Addr × Str)} (Z : Zb Tq) (g : TG) (f : TF) (ix : List Nat) : Prop := ∀ (v : V) (d : D) (σ : L2.St) (H F : Hp) (O : List Addr) (env : Env) (k : Env → Prop) (Q : L2.St → Hp → Prop), Bas Z F H O → OwE F H O σ env → Rp F v d → f d env k →
  (∀ σ' O' e', Bas Z F H O' → OwE F H O' σ' e' → (∀ a ∈ O', a ∈ O) → (∀ vs : List Nat, (∀ i ∈ ix, i ∈ vs) → wipe σ' vs = wipe σ vs) → k e' → Q σ' H) → g v σ H Q
def GsOk {Tq : List (Addr × Str)} (Z : Zb Tq) (g : TGs) (f : TFs) (ix : List Nat) : Prop := ∀ (v : List V) (d : List D) (σ : L2.St) (H F : Hp) (O : List Addr) (env : Env) (k : Env → Prop) (Q : L2.St → Hp → Prop), Bas Z F H O → OwE F H O σ env → RpA F v d → f d env k →
  (∀ σ' O' e', Bas Z F H O' → OwE F H O' σ' e' → (∀ a ∈ O', a ∈ O) → (∀ vs : List Nat, (∀ i ∈ ix, i ∈ vs) → wipe σ' vs = wipe σ vs) → k e' → Q σ' H) → g v σ H Q
def fName (i : Nat) : TF := fun d env k => i < env.length ∧ k (env.set i (some (.va d)))
def fNil : TFs := fun ds env k => ds = [] ∧ k env
def fCons (f : TF) (fs : TFs) : TFs := fun ds env k => match ds with
  | d :: r => f d env fun e => fs r e k
  | [] => False
def fTup (n : Nat) (fs : TFs) : TF := fun d env k => match d with
  | .tuple ds => ds.length = n ∧ fs ds env k
  | _ => False
theorem gok_name {Tq : List (Addr × Str)} {Z : Zb Tq} (i : Nat) : GOk Z (gName i) (fName i) [i] := fun v d σ H F O env k Q b o r h q => by
  obtain ⟨O', Od, h1, h2⟩ := o.set i (.va r) h.1
  obtain ⟨b', fr⟩ := b.dropP h2
  exact q _ O' _ b' h1 (fun a ha => h2.mem_iff.mpr (List.mem_append_left _ ha)) (fun vs hv => wipe_set (hv i (List.mem_singleton.mpr rfl))) h.2
theorem gsok_nil {Tq : List (Addr × Str)} {Z : Zb Tq} : GsOk Z gNil fNil [] := fun v d σ H F O env k Q b o r h q => by
  obtain ⟨rfl, h⟩ := h
  cases r
  exact ⟨rfl, q σ O env b o (fun _ z => z) (fun _ _ => rfl) h⟩
theorem gsok_cons {Tq : List (Addr × Str)} {Z : Zb Tq} {g : TG} {gs : TGs} {f : TF} {fs : TFs} {ix ixs : List Nat} (h1 : GOk Z g f ix) (h2 : GsOk Z gs fs ixs) : GsOk Z (gCons g gs) (fCons f fs) (ix ++ ixs) := fun v d σ H F O env k Q b o r h q => by
  cases r with
  | nil => exact h.elim
  | cons r1 r2 =>
    refine ⟨_, _, rfl, h1 _ _ σ H F O env _ _ b o r1 h fun σ1 O1 e1 b1 o1 s1 w1 h => ?_⟩
    refine h2 _ _ σ1 H F O1 e1 k _ b1 o1 r2 h fun σ2 O2 e2 b2 o2 s2 w2 h => ?_
    exact q σ2 O2 e2 b2 o2 (fun a ha => s1 a (s2 a ha)) (fun vs hv => (w2 vs fun i hi => hv i (List.mem_append_right _ hi)).trans (w1 vs fun i hi => hv i (List.mem_append_left _ hi))) h
theorem gok_tup {Tq : List (Addr × Str)} {Z : Zb Tq} {K : PySem.W.Frag} {n : Nat} {gs : TGs} {fs : TFs} {ix : List Nat} (h1 : GsOk Z gs fs ix) : GOk Z (gTup K n gs) (fTup n fs) ix := fun v d σ H F O env k Q b o r h q => by
  cases d with
  | tuple ds =>
    cases r with
    | tup hF r =>
      exact ⟨_, _, rfl, .inl (rd_mono b.sub hF), by rw [r.len]; exact h.1, h1 _ _ σ H F O env k Q b o r h.2 q⟩
  | _ => exact h.elim

section
variable {Tq : List (Addr × Str)} {Z : Zb Tq} {X : Cx} {e a b c tg iter elt : Expr} {es : List Expr} {env : Env} {pos : Pos} {P : Out → Prop} {PR : R → Env → Prop} {body : List Stmt}

/-- target = e, e a tuple -/
theorem ws_asg {g : TG} {f : TF} {ix : List Nat} (hg : PG X tg g) (gk : GOk Z g f ix) (h : WE Z X e env fun r e1 => ∃ d, r = .t (.va d) ∧ f d e1 fun e2 => P (.nx e2)) (hs : swapsWithSole [tg] e pos.line X.env = pure false := by rfl) (hw : swappedStores [tg] e X.env = pure none := by rfl)
    (h1 : (assignEach [tg] X.env).map (·.2) = [assign tg X.env] := by rfl) : WS Z X (.Assign [tg] e pos) env P :=
  ws_of (ps_asg (pe_E (Z := Z)) hg hs hw h1) fun σ H F O b o => ⟨env, F, O, _, b, o, h, fun v H1 ⟨F1, O1, r, e1, b1, st, fr, d, er, p⟩ => by
    subst er
    obtain ⟨O2, O3, rfl, o1, w⟩ := st
    cases w with
    | va r =>
      rw [List.append_nil] at b1 fr
      refine gk v d σ H1 F1 O2 e1 _ _ b1 o1 r p fun σ2 O4 e2 b2 o2 s2 _ q => ⟨F1, O4, e2, b2, o2, fr.perm (fun _ => Iff.rfl) s2, q⟩⟩

/-! ### what is walked -/
def Gives (J : It) (ds : List D) (F1 : Hp) : Prop := ∀ (F' H' : Hp), Same F1 F' → Same F' H' → ∀ i : Nat,
  (∀ d, ds[i]? = some d → J.go i H' ∧ ∀ x H'', J.yld i H' x H'' → ∃ F'', Rp F'' x d ∧ Same F' F'' ∧ Same H' H'' ∧ Same F'' H'' ∧ ∀ a, F'' a ≠ none → F' a ≠ none ∨ H' a = none) ∧ (ds[i]? = none → J.stop i H')
def WI {Tq : List (Addr × Str)} (Z : Zb Tq) (X : Cx) (tg iter : Expr) (env : Env) (P : List D → Env → Prop) : Prop :=
  ∀ (pins : List (Addr × Obj)) (s : Shared) (σ : L2.St) (H F : Hp) (O : List Addr), Inv X pins σ H s → Bas Z F H O → OwE F H O σ env →
    wpAny (model X.prog X.w) X.A (eval iter X.env) (fun v s1 => wpAny (model X.prog X.w) X.A (pyIter v) (PIE X pins σ tg fun J H1 => ∃ F1 O1 ds e1, Bas Z F1 H1 O1 ∧ OwE F1 H1 O1 σ e1 ∧ Frm Tq H F O H1 F1 O1 ∧ Gives J ds F1 ∧ P ds e1) X.xe s1) X.xe s
def tI {Tq : List (Addr × Str)} (Z : Zb Tq) (X : Cx) (tg iter : Expr) : TI := fun σ H Rr => ∃ env F O P, Bas Z F H O ∧ OwE F H O σ env ∧ WI Z X tg iter env P ∧
  ∀ J H1 F1 O1 ds e1, Bas Z F1 H1 O1 → OwE F1 H1 O1 σ e1 → Frm Tq H F O H1 F1 O1 → Gives J ds F1 → P ds e1 → Rr J H1
theorem PIE.imp {pins : List (Addr × Obj)} {σ : L2.St} {R1 R2 : It → Hp → Prop} (h : ∀ J H1, R1 J H1 → R2 J H1) : ∀ v s, PIE X pins σ tg R1 v s → PIE X pins σ tg R2 v s := fun _ _ ⟨it, fp, tn, J, H', e, I, T, t0, f, q⟩ => ⟨it, fp, tn, J, H', e, I, T, t0, f, h _ _ q⟩
theorem pi_I : PI X tg iter (tI Z X tg iter) := ⟨fun pins s σ H Rr I ⟨env, F, O, P, b, o, w, q⟩ =>
  thn (w pins s σ H F O I b o) fun v s1 h => thn h (PIE.imp fun J H1 ⟨F1, O1, ds, e1, b1, o1, fr, g, p⟩ => q J H1 F1 O1 ds e1 b1 o1 fr g p)⟩
theorem wi_of {wi : TI} {P : List D → Env → Prop} (h : PI X tg iter wi) (w : ∀ σ H F O, Bas Z F H O → OwE F H O σ env → wi σ H fun J H1 => ∃ F1 O1 ds e1, Bas Z F1 H1 O1 ∧ OwE F1 H1 O1 σ e1 ∧ Frm Tq H F O H1 F1 O1 ∧ Gives J ds F1 ∧ P ds e1) : WI Z X tg iter env P :=
  fun pins s σ H F O I b o => h.run pins s σ H _ I (w σ H F O b o)
theorem gives_list {K : PySem.W.Frag} {a : Addr} {xs : List V} {ds : List D} {F : Hp} (h : F a = some (.lst xs)) (r : RpA F xs ds) : Gives (Itl K a) ds F := fun F' H' s1 s2 i => by
  have hq : SqL K H' a xs := SqL.of (s2 _ _ (s1 _ _ h))
  refine ⟨fun d hd => ?_, fun hn => ?_⟩
  · obtain ⟨v, hv, rv⟩ := r.get' hd
    refine ⟨⟨xs, v, hq, hv⟩, fun x H'' ⟨e, q⟩ => ?_⟩
    subst e
    have := (q xs hq).symm.trans hv
    cases this
    exact ⟨F', rv.mono s1, Same.refl _, Same.refl _, s2, fun _ z => .inl z⟩
  · exact ⟨xs, hq, by rw [r.len]; exact List.getElem?_eq_none_iff.mp hn⟩
theorem gives_tup {K : PySem.W.Frag} {a : Addr} {xs : List V} {ds : List D} {F : Hp} (h : Rd F a (.tup xs)) (r : RpA F xs ds) : Gives (Itt K a) ds F := fun F' H' s1 s2 i => by
  have hq : SqT K H' a xs := .inl (rd_mono s2 (rd_mono s1 h))
  refine ⟨fun d hd => ?_, fun hn => ?_⟩
  · obtain ⟨v, hv, rv⟩ := r.get' hd
    refine ⟨⟨xs, v, hq, hv⟩, fun x H'' ⟨e, q⟩ => ?_⟩
    subst e
    have := (q xs hq).symm.trans hv
    cases this
    exact ⟨F', rv.mono s1, Same.refl _, Same.refl _, s2, fun _ z => .inl z⟩
  · exact ⟨xs, hq, by rw [r.len]; exact List.getElem?_eq_none_iff.mp hn⟩
def tupOf (ds : List D) (k : List D → Prop) : Prop := match ds with
  | [.tuple xs] => k xs
  | _ => False
def lstOf (ds : List D) (k : List D → Prop) : Prop := match ds with
  | [.list xs] => k xs
  | _ => False
/-- for x in a tuple -/
theorem wi_tup {P : List D → Env → Prop} (h : WA Z X iter env fun a e1 => absorb [a] e1 fun ds e2 => tupOf ds fun xs => P xs e2) : WI Z X tg iter env P :=
  wi_of (pi_tup (pe_A (Z := Z))) fun σ H F O b o => ⟨env, F, O, _, b, o, h, fun v H1 ⟨F1, O1, a, e1, b1, o1, st, fr, p⟩ => by
    obtain ⟨F2, O2, ds, e2, b2, o2, r2, fr2, q⟩ := absorb_ok (.cons st .nil) b1 o1 p
    cases r2 with
    | cons r rr =>
      cases rr
      unfold tupOf at q
      split at q
      · rename_i xs e
        cases e
        cases r with
        | tup h1 r1 => exact ⟨_, rfl, ⟨_, .inl (rd_mono b2.sub h1)⟩, F2, O2, xs, e2, b2, o2, fr.trans fr2, gives_tup h1 r1, q⟩
      · exact q.elim⟩
/-- for x in a list -/
theorem wi_list {P : List D → Env → Prop} (h : WA Z X iter env fun a e1 => absorb [a] e1 fun ds e2 => lstOf ds fun xs => P xs e2) : WI Z X tg iter env P :=
  wi_of (pi_list (pe_A (Z := Z))) fun σ H F O b o => ⟨env, F, O, _, b, o, h, fun v H1 ⟨F1, O1, a, e1, b1, o1, st, fr, p⟩ => by
    obtain ⟨F2, O2, ds, e2, b2, o2, r2, fr2, q⟩ := absorb_ok (.cons st .nil) b1 o1 p
    cases r2 with
    | cons r rr =>
      cases rr
      unfold lstOf at q
      split at q
      · rename_i xs e
        cases e
        cases r with
        | lst h1 r1 => exact ⟨_, rfl, ⟨_, SqL.of (b2.sub _ _ h1)⟩, F2, O2, xs, e2, b2, o2, fr.trans fr2, gives_list h1 r1, q⟩
      · exact q.elim⟩
/-- range -/
def rangeD (lo : Int) (n : Nat) : List D := (List.range n).map fun (k : Nat) => PyData.int (lo + (k : Int))
theorem gives_range {lo : Int} {n : Nat} {F : Hp} : Gives (Itr lo n) (rangeD lo n) F := fun F' H' s1 s2 i => by
  refine ⟨fun d hd => ?_, fun hn => ?_⟩
  · unfold rangeD at hd
    rw [List.getElem?_map] at hd
    by_cases hi : i < n
    · rw [List.getElem?_range hi] at hd
      cases hd
      refine ⟨hi, fun x H'' ⟨e, q⟩ => ?_⟩
      subst e q
      exact ⟨F', .int _, Same.refl _, Same.refl _, s2, fun _ z => .inl z⟩
    · rw [List.getElem?_eq_none (by simpa using hi)] at hd
      cases hd
  · unfold rangeD at hn
    rw [List.getElem?_eq_none_iff, List.length_map, List.length_range] at hn
    exact hn
/-- several arguments, as they are seen at the end -/
def Views (as : List A) (env : Env) (k : List D → Prop) : Prop := match as with
  | [] => k []
  | a :: as => View a env fun d => Views as env fun ds => k (d :: ds)
inductive Vws (F H : Hp) : List V → List D → Prop
  | nil : Vws F H [] []
  | cons {v : V} {vs : List V} {d : D} {ds : List D} : Vw F H v d → Vws F H vs ds → Vws F H (v :: vs) (d :: ds)
theorem Views.vws {σ : L2.St} {F H : Hp} {O : List Addr} (o : OwE F H O σ env) : ∀ {as : List A} {vs : List V} {k : List D → Prop}, StAs F vs as → Views as env k → ∃ ds, Vws F H vs ds ∧ k ds
  | [], _, k, .nil, h => ⟨[], .nil, h⟩
  | a :: as, _, k, .cons st r, h => by
    obtain ⟨d, w, h⟩ := View.vw h o st
    obtain ⟨ds, ws, h⟩ := Views.vws o r h
    exact ⟨d :: ds, .cons w ws, h⟩
def rng1 (ds : List D) (k : List D → Prop) : Prop := match ds with
  | [.int j] => (-4611686018427387904 ≤ j ∧ j < 4611686018427387904) ∧ k (rangeD 0 j.toNat)
  | _ => False
theorem wi_range1 {P : List D → Env → Prop} {p : Pos} (hm : X.mg "range" = none) (h : WAs Z X [a] env fun as e1 => Views as e1 fun ds => rng1 ds fun xs => P xs e1) (hg : Gl X "range" := by rfl) : WI Z X tg (.Call (.Name "range" p) [a] [] pos) env P :=
  wi_of (pi_range1 hg hm (pa_As (Z := Z)) h.1) fun σ H F O b o => ⟨env, F, O, _, b, o, h, fun vs H1 ⟨F1, O1, as, e1, b1, o1, st, fr, p⟩ => by
    obtain ⟨ds, ws, q⟩ := Views.vws o1 st p
    unfold rng1 at q
    split at q
    · cases ws with
      | cons w ws =>
        cases ws
        cases w.int
        exact ⟨_, rfl, q.1.1, q.1.2, F1, O1, _, e1, b1, o1, fr, gives_range, q.2⟩
    · exact q.elim⟩
def rng2 (ds : List D) (k : List D → Prop) : Prop := match ds with
  | [.int i, .int j] => (-4611686018427387904 ≤ i ∧ i < 4611686018427387904 ∧ -4611686018427387904 ≤ j ∧ j < 4611686018427387904) ∧ k (rangeD i (j - i).toNat)
  | _ => False
theorem wi_range2 {P : List D → Env → Prop} {p : Pos} (hm : X.mg "range" = none) (h : WAs Z X [a, b] env fun as e1 => Views as e1 fun ds => rng2 ds fun xs => P xs e1) (hg : Gl X "range" := by rfl) (hs : starEach [a, b] X.env = [(false, eval a X.env), (false, eval b X.env)] := by rfl) (hs2 : starEach [b] X.env = [(false, eval b X.env)] := by rfl) : WI Z X tg (.Call (.Name "range" p) [a, b] [] pos) env P :=
  wi_of (pi_range2 hg hm (pa_As (Z := Z)) hs hs2) fun σ H F O b o => ⟨env, F, O, _, b, o, h, fun vs H1 ⟨F1, O1, as, e1, b1, o1, st, fr, p⟩ => by
    obtain ⟨ds, ws, q⟩ := Views.vws o1 st p
    unfold rng2 at q
    split at q
    · cases ws with
      | cons w ws =>
        cases ws with
        | cons w' ws =>
          cases ws
          cases w.int
          cases w'.int
          exact ⟨_, _, rfl, q.1, F1, O1, _, e1, b1, o1, fr, gives_range, q.2⟩
    · exact q.elim⟩

/-! ### for -/
def ForI {Tq : List (Addr × Str)} (Z : Zb Tq) (X : Cx) (f : TF) (body : List Stmt) (P : Out → Prop) (ds : List D) (e1 : Env) : Prop :=
  ∃ I : Nat → Env → Prop, I 0 e1 ∧ (∀ k d e, ds[k]? = some d → I k e → f d e fun e' => WSs Z X body e' (loopP P (I (k + 1)))) ∧ ∀ e, I ds.length e → P (.nx e)
theorem ws_for {g : TG} {f : TF} {ix : List Nat} (hp : PassesOwn (model X.prog X.w) X.A X.env X.xe) (hc : X.calm = true) (hg : PG X tg g) (gk : GOk Z g f ix) (h : WI Z X tg iter env (ForI Z X f body P)) (hs : ∀ x, foldedSetIterable iter X.env x = pure x := by intro _; rfl) :
    WS Z X (.For tg iter body [] pos) env P :=
  ws_of (ps_for hp hc (pi_I (Z := Z)) hg (pss_S (Z := Z)) hs) fun σ0 H0 F0 O0 b0 o0 => ⟨env, F0, O0, _, b0, o0, h, fun J H1 F1 O1 ds e1 b1 o1 fr1 gv ⟨I, i0, step, done⟩ => by
    refine ⟨fun i m σ H => m = ds.length - i ∧ i ≤ ds.length ∧ ∃ F O e, Bas Z F H O ∧ OwE F H O σ e ∧ Frm Tq H1 F1 O1 H F O ∧ I i e, ⟨_, rfl, Nat.zero_le _, F1, O1, e1, b1, o1, Frm.refl _ _ _, i0⟩, ?_⟩
    rintro i m σ H ⟨rfl, hi, F, O, e, b, o, fr, hI⟩
    obtain ⟨g1, g2⟩ := gv F H fr.fz b.sub i
    by_cases hlt : i < ds.length
    · obtain ⟨go, yl⟩ := g1 ds[i] (List.getElem?_eq_getElem hlt)
      refine .inr ⟨go, fun σ' H' => ∃ F O e, Bas Z F H' O ∧ OwE F H' O σ' e ∧ Frm Tq H1 F1 O1 H' F O ∧ I (i + 1) e, fun σ' H' q => ⟨ds.length - (i + 1), by omega, rfl, hlt, q⟩, fun x H' y => ?_⟩
      obtain ⟨F', rx, s1, s2, s3, nf⟩ := yl x H' y
      obtain ⟨b2, o2, fr2⟩ := b.grow o s1 s2 s3 nf
      refine gk x _ σ H' F' O e _ _ b2 o2 rx (step i _ e (List.getElem?_eq_getElem hlt) hI) fun σ3 O3 e3 b3 o3 s3 _ h3 => ?_
      have fr3 : Frm Tq H1 F1 O1 H' F' O3 := (fr.trans fr2).perm (fun _ => Iff.rfl) s3
      refine ⟨e3, F', O3, _, b3, o3, h3, loop_le (fr1.trans fr3) ?_⟩
      exact fun σ4 H4 F4 O4 e4 b4 o4 f4 q => ⟨F4, O4, e4, b4, o4, fr3.trans f4, q⟩
    · have e' : i = ds.length := by omega
      subst e'
      exact .inl ⟨g2 (List.getElem?_eq_none (Nat.le_refl _)), F, O, e, b, o, fr1.trans fr, done e hI⟩⟩

/-! ### comprehensions -/
/-- the contexts in which a comprehension's block may run -/
abbrev Blk (X : Cx) (scope : Scope) (k : Cx → Prop) : Prop := ∀ (s : Shared) (H : Hp) (C : Addr) (cl : List (Str × Addr)) (fp : List Addr), k (X.blk s H scope (compEnvC scope cl C X.env) fp)
def tAB {Tq : List (Addr × Str)} (Z : Zb Tq) (X : Cx) (scope : Scope) (e : Expr) : TE := fun σ H Q => ∃ env F O P, Bas Z F H O ∧ OwE F H O σ env ∧ (Blk X scope fun X' => WA Z X' e env P) ∧ ∀ v H', PostA Z σ H F O P v H' → Q v H'
def tTB {Tq : List (Addr × Str)} (Z : Zb Tq) (X : Cx) (scope : Scope) (e : Expr) : TT := fun σ H Q => ∃ env F O P, Bas Z F H O ∧ OwE F H O σ env ∧ (Blk X scope fun X' => WT Z X' e env P) ∧ ∀ v H', PostT Z σ H F O P v H' → Q v H'
theorem pe_AB {scope : Scope} (s : Shared) (H : Hp) (C : Addr) (cl : List (Str × Addr)) (fp : List Addr) : PE (X.blk s H scope (compEnvC scope cl C X.env) fp) elt (tAB Z X scope elt) :=
  ⟨fun pins s' σ H' Q I ⟨env, F, O, P, b, o, w, q⟩ => thn ((w s H C cl fp).run I b o) (EP.imp q)⟩
theorem pt_TB {scope : Scope} (s : Shared) (H : Hp) (C : Addr) (cl : List (Str × Addr)) (fp : List Addr) : PT (X.blk s H scope (compEnvC scope cl C X.env) fp) c (tTB Z X scope c) :=
  ⟨fun pins s' σ H' Q I ⟨env, F, O, P, b, o, w, q⟩ => thn (w s H C cl fp pins s' σ H' F O I b o) fun _ _ ⟨H2, I2, p⟩ => ⟨H2, I2, q _ _ p⟩⟩
/-- one turn's element -/
def ElI {Tq : List (Addr × Str)} (Z : Zb Tq) (X : Cx) (scope : Scope) (elt : Expr) (vs : List Nat) (I : List D → Env → Prop) (acc : List D) (e2 : Env) : Prop :=
  Blk X scope fun X' => WA Z X' elt e2 fun a e3 => absorb [a] e3 fun ds e4 => match ds with
    | [y] => acc.length < sizeLine ∧ I (acc ++ [y]) (wipeE e4 vs)
    | _ => False
structure LcI {Tq : List (Addr × Str)} (Z : Zb Tq) (X : Cx) (scope : Scope) (f : TF) (elt : Expr) (vs : List Nat) (T : Env → (Bool → Env → Prop) → Prop) (P : R → Env → Prop) (ds : List D) (e1 : Env) : Prop where
  ex : ∃ I : Nat → List D → Env → Prop, I 0 [] (wipeE e1 vs) ∧ (∀ k d acc e, ds[k]? = some d → I k acc e → f d e fun e' => T e' fun bb e2 => (bb = true → ElI Z X scope elt vs (I (k + 1)) acc e2) ∧ (bb = false → I (k + 1) acc (wipeE e2 vs))) ∧
    ∀ acc e, I ds.length acc e → ∀ p, P (.t (.lst p acc)) e
theorem lc_read {g : TG} {f : TF} {ix : List Nat} {scope : Scope} {vs : List Nat} {tt : TT} {T : Env → (Bool → Env → Prop) → Prop} (gk : GOk Z g f ix) (hix : ∀ i ∈ ix, i ∈ vs)
    (tk : ∀ σ H F O env k (Q : Bool → Hp → Prop), Bas Z F H O → OwE F H O σ env → T env k → (∀ bb H' F' O' e', Bas Z F' H' O' → OwE F' H' O' σ e' → Frm Tq H F O H' F' O' → k bb e' → Q bb H') → tt σ H Q)
    {σ0 : L2.St} {H0 F0 : Hp} {O0 : List Addr} (b0 : Bas Z F0 H0 O0) (o0 : OwE F0 H0 O0 σ0 env) (h : WI Z X tg iter env (LcI Z X scope f elt vs T PR)) :
    tLc (tI Z X tg iter) g tt (tAB Z X scope elt) vs σ0 H0 (Post Z σ0 H0 F0 O0 PR) := by
  refine ⟨env, F0, O0, _, b0, o0, h, fun J H1 F1 O1 ds e1 b1 o1 fr1 gv ⟨I, i0, step, done⟩ D hD => ?_⟩
  have fD : F1 D = none := b1.sub.free hD
  refine ⟨fun i m H => m = ds.length - i ∧ i ≤ ds.length ∧ ∃ F O e e0 acc accV, Bas Z F H (O ++ [D]) ∧ OwE F H O (wipe σ0 vs) e ∧ e = wipeE e0 vs ∧ H D = some (.lst accV) ∧ RpA F accV acc ∧ Frm Tq H1 F1 O1 H F (O ++ [D]) ∧ I i acc e, ⟨_, rfl, Nat.zero_le _, ?_⟩, ?_⟩
  · -- the start
    obtain ⟨O2, Od, h2, h3⟩ := o1.wipeO vs
    have hn : ∀ a ∈ O1, a ≠ D := fun a ha z => by subst z; exact o1.there a ha hD
    have fr : Frm Tq H1 F1 O1 (upd H1 D (.lst [])) F1 (O2 ++ [D]) := ⟨Same.refl _, fun a o e _ _ => same_new hD a o e, fun a e => by
      by_cases z : a = D
      · subst z; rw [upd_same]; exact fun z => nomatch z
      · rw [upd_ne z]; exact e, fun a e => .inl e, fun a ha => (List.mem_append.mp ha).elim (fun z => .inl (h3.mem_iff.mpr (List.mem_append_left _ z))) fun z => .inr (by rw [List.mem_singleton.mp z]; exact hD), tab_new hD⟩
    have b2 := (b1.dropP h3).1
    refine ⟨F1, O2, wipeE e1 vs, e1, [], [], ⟨b1.sub.trans (same_new hD), List.nodup_append.mpr ⟨b2.nd, List.nodup_cons.mpr ⟨fun z => (nomatch z), List.nodup_nil⟩, fun a ha c hc z => ?_⟩, fun a ha => ?_, b1.abs.trans fr⟩, ?_, rfl, upd_same, .nil, fr, i0⟩
    · rw [List.mem_singleton.mp hc] at z
      exact hn a (h3.mem_iff.mpr (List.mem_append_left _ ha)) z
    · rcases List.mem_append.mp ha with ha | ha
      · exact b2.dis a ha
      · rw [List.mem_singleton.mp ha]; exact fD
    · have o3 : OwE F1 (upd H1 D (.lst [])) O2 σ0 (wipeE e1 vs) := h2.stay (Same.refl _) fun a ha => upd_ne (hn a (h3.mem_iff.mpr (List.mem_append_left _ ha)))
      exact o3.wiped wipe_wipe
  · rintro i m H ⟨rfl, hi, F, O, e, e0, acc, accV, b, o, he0, hDl, rA, fr, hI⟩
    obtain ⟨g1, g2⟩ := gv F H fr.fz b.sub i
    by_cases hlt : i < ds.length
    · obtain ⟨go, yl⟩ := g1 ds[i] (List.getElem?_eq_getElem hlt)
      refine .inr ⟨go, fun H' => ∃ F O e e0 acc accV, Bas Z F H' (O ++ [D]) ∧ OwE F H' O (wipe σ0 vs) e ∧ e = wipeE e0 vs ∧ H' D = some (.lst accV) ∧ RpA F accV acc ∧ Frm Tq H1 F1 O1 H' F (O ++ [D]) ∧ I (i + 1) acc e, fun H' q => ⟨ds.length - (i + 1), by omega, rfl, hlt, q⟩, fun x H' y => ?_⟩
      obtain ⟨F', rx, s1, s2, s3, nf⟩ := yl x H' y
      have dD : ∀ a ∈ [D], Held H a := fun a ha => by rw [List.mem_singleton.mp ha]; exact ⟨_, hDl, fun _ z => nomatch z⟩
      have bL := b.left
      obtain ⟨b2, o2, fr2⟩ := bL.grow o s1 s2 s3 nf
      have b2D : Bas Z F' H' (O ++ [D]) := Bas.frame fr2 b b2 dD
      refine gk x _ (wipe σ0 vs) H' F' O e _ _ b2 o2 rx (step i _ acc e (List.getElem?_eq_getElem hlt) hI) fun σ3 O3 e3 b3 o3 s3' w3 h3 => ?_
      have hw : wipe σ3 vs = wipe (wipe σ0 vs) vs := w3 vs hix
      rw [wipe_wipe] at hw
      refine ⟨hw, ?_⟩
      have hD3 : H' D = some (.lst accV) := s2 _ _ hDl
      have dD3 : ∀ a ∈ [D], Held H' a := fun a ha => by rw [List.mem_singleton.mp ha]; exact ⟨_, hD3, fun _ z => nomatch z⟩
      have fr23 : Frm Tq H F O H' F' O3 := fr2.perm (fun _ => Iff.rfl) s3'
      have b3D : Bas Z F' H' (O3 ++ [D]) := Bas.frame fr23 b b3 dD
      have frD : Frm Tq H1 F1 O1 H' F' (O3 ++ [D]) := fr.trans fr23.frame
      refine tk σ3 H' F' O3 e3 _ _ b3 o3 h3 fun bb H4 F4 O4 e4 b4 o4 fr4 h4 => ?_
      have hD4 : H4 D = some (.lst accV) := fr4.out D _ hD3 (fun _ z => nomatch z) fun z => (List.nodup_append.mp b3D.nd).2.2 D z D (List.mem_singleton.mpr rfl) rfl
      have b4D : Bas Z F4 H4 (O4 ++ [D]) := Bas.frame fr4 b3D b4 dD3
      have frD4 : Frm Tq H1 F1 O1 H4 F4 (O4 ++ [D]) := frD.trans fr4.frame
      have dD4 : ∀ a ∈ [D], Held H4 a := fun a ha => by rw [List.mem_singleton.mp ha]; exact ⟨_, hD4, fun _ z => nomatch z⟩
      -- a turn's end
      have fin : ∀ {H5 F5 : Hp} {O5 : List Addr} {e5 : Env} {acc5 : List PyData} {accV5 : List V}, Bas Z F5 H5 (O5 ++ [D]) → OwE F5 H5 O5 σ3 e5 → H5 D = some (.lst accV5) → RpA F5 accV5 acc5 → Frm Tq H1 F1 O1 H5 F5 (O5 ++ [D]) → I (i + 1) acc5 (wipeE e5 vs) →
          ∃ F O e e0 acc accV, Bas Z F H5 (O ++ [D]) ∧ OwE F H5 O (wipe σ0 vs) e ∧ e = wipeE e0 vs ∧ H5 D = some (.lst accV) ∧ RpA F accV acc ∧ Frm Tq H1 F1 O1 H5 F (O ++ [D]) ∧ I (i + 1) acc e := fun {H5 F5 O5 e5 acc5 accV5} b5 o5 hD5 r5 fr5 hI5 => by
        obtain ⟨O6, Od6, h6, p6⟩ := o5.wipeO vs
        have p6' : (O5 ++ [D]).Perm ((O6 ++ [D]) ++ Od6) := (p6.append_right [D]).trans (by
          rw [List.append_assoc, List.append_assoc]
          exact List.perm_append_comm.append_left O6)
        refine ⟨F5, O6, wipeE e5 vs, e5, acc5, accV5, (b5.perm p6').left, h6.wiped ?_, rfl, hD5, r5, fr5.perm (fun _ => Iff.rfl) fun c hc => p6'.mem_iff.mpr (List.mem_append_left _ hc), hI5⟩
        rw [wipe_wipe]
        exact hw.symm
      cases bb with
      | false => exact iteF (fin b4D o4 hD4 (rA.mono (s1.trans fr4.fz)) frD4 (h4.2 rfl))
      | true =>
        refine iteT ⟨e4, F4, O4, _, b4, o4, h4.1 rfl, fun y H5 ⟨F5, O5, a5, e5, b5, o5, st5, fr5, p5⟩ => ?_⟩
        obtain ⟨F6, O6, ds6, e6, b6, o6, r6, fr6, q6⟩ := absorb_ok (.cons st5 .nil) b5 o5 p5
        have fr56 := fr5.trans fr6
        cases r6 with
        | cons r7 rr =>
          cases rr
          obtain ⟨hz, q7⟩ := q6
          have hD5 : H5 D = some (.lst accV) := fr5.out D _ hD4 (fun _ z => nomatch z) fun z => (List.nodup_append.mp b4D.nd).2.2 D z D (List.mem_singleton.mpr rfl) rfl
          have b6D : Bas Z F6 H5 (O6 ++ [D]) := Bas.frame fr56 b4D b6 dD4
          have frD6 : Frm Tq H1 F1 O1 H5 F6 (O6 ++ [D]) := frD4.trans fr56.frame
          have nD : ∀ a ∈ O6, a ≠ D := fun a ha z => (List.nodup_append.mp b6D.nd).2.2 a ha D (List.mem_singleton.mpr rfl) z
          have fD6 : F6 D = none := b6D.dis D (List.mem_append_right _ (List.mem_singleton.mpr rfl))
          have rA6 : RpA F6 accV acc := rA.mono (s1.trans (fr4.fz.trans fr56.fz))
          refine ⟨accV, hD5, by rw [rA6.len]; exact hz, ?_⟩
          have hs : Same F6 (upd H5 D (.lst (accV ++ [y]))) := fun a x ha => by
            have z : a ≠ D := fun z => by subst z; rw [fD6] at ha; cases ha
            rw [upd_ne z]; exact b6D.sub a x ha
          have fr7 : Frm Tq H5 F6 (O6 ++ [D]) (upd H5 D (.lst (accV ++ [y]))) F6 (O6 ++ [D]) := ⟨Same.refl _, fun a x ha _ hn => by
            rw [upd_ne fun z => hn (by rw [z]; exact List.mem_append_right _ (List.mem_singleton.mpr rfl))]; exact ha, fun a ha => by
            by_cases z : a = D
            · subst z; rw [upd_same]; exact fun z => nomatch z
            · rw [upd_ne z]; exact ha, fun a ha => .inl ha, fun a ha => .inl ha, tab_upd fun o e => by rw [hD5] at e; cases e; exact ⟨(fun _ z => nomatch z), (fun _ z => nomatch z)⟩⟩
          exact fin ⟨hs, b6D.nd, b6D.dis, b6D.abs.trans fr7⟩ (o6.stay (Same.refl _) fun a ha => upd_ne (nD a ha)) upd_same (rA6.app (.cons r7 .nil)) (frD6.trans fr7) q7
    · have e' : i = ds.length := by omega
      subst e'
      refine .inl ⟨g2 (List.getElem?_eq_none (Nat.le_refl _)), F, O ++ [D], .t (.lst D acc), e, b, ⟨O, [D], rfl, ?_, .lst hDl rA⟩, fr1.trans fr, done acc e hI D⟩
      subst he0
      exact o.wiped wipe_wipe.symm
theorem w_lc {g : TG} {f : TF} {ix : List Nat} {scope : Scope} {own : List (Str × Nat)} (hc : X.calm = true) (hN : X.N.Nodup) (ok : BlkOk X.N X.env.scope scope own) (hg : Blk X scope fun X' => PG X' tg g) (gk : GOk Z g f ix) (hix : ∀ i ∈ ix, i ∈ own.map (·.2))
    (h : WI Z X tg iter env (LcI Z X scope f elt (own.map (·.2)) (fun e k => k true e) PR)) (hs : ∀ x, foldedSetIterable iter X.env x = pure x := by intro _; rfl) : WE Z X (.ListComp elt [⟨tg, iter, [], 0⟩] scope pos) env PR :=
  we_of (pe_lc (own := own) hc hN (pi_I (Z := Z)) ok hg (fun _ _ _ _ _ => pts_nil) (pe_AB (Z := Z)) hs) fun σ H F O b o => lc_read gk hix (fun σ H F O env k Q b o t q => q true H F O env b o (Frm.refl _ _ _) t) b o h
theorem w_lcIf {g : TG} {f : TF} {ix : List Nat} {scope : Scope} {own : List (Str × Nat)} (hc : X.calm = true) (hN : X.N.Nodup) (ok : BlkOk X.N X.env.scope scope own) (hg : Blk X scope fun X' => PG X' tg g) (gk : GOk Z g f ix) (hix : ∀ i ∈ ix, i ∈ own.map (·.2))
    (h : WI Z X tg iter env (LcI Z X scope f elt (own.map (·.2)) (fun e k => Blk X scope fun X' => WT Z X' c e k) PR)) (hs : ∀ x, foldedSetIterable iter X.env x = pure x := by intro _; rfl) : WE Z X (.ListComp elt [⟨tg, iter, [c], 0⟩] scope pos) env PR :=
  we_of (pe_lc (own := own) hc hN (pi_I (Z := Z)) ok hg (fun s H C cl fp => pts_one (pt_TB (Z := Z) s H C cl fp)) (pe_AB (Z := Z)) hs) fun σ H F O b o =>
    lc_read gk hix (fun σ H F O env k Q b o t q => ⟨env, F, O, k, b, o, t, fun v H' ⟨F1, O1, e1, b1, o1, fr1, p⟩ => q v H' F1 O1 e1 b1 o1 fr1 p⟩) b o h
end
end QL

/-! QF: what a def promises, over data; its body; its calls. -/
namespace QL
open PySem PySem.Spec PyProof.Rows L2

inductive StV (F H : Hp) : List Addr → List V → List T → Prop
  | nil : StV F H [] [] []
  | cons {O1 O2 : List Addr} {v : V} {t : T} {vs : List V} {ts : List T} : Ow F H O1 v t → StV F H O2 vs ts → StV F H (O1 ++ O2) (v :: vs) (t :: ts)
inductive StVO (F H : Hp) : List Addr → List V → List (Option T) → Prop
  | nil : StVO F H [] [] []
  | un {O2 : List Addr} {v : V} {vs : List V} {ts : List (Option T)} : StVO F H O2 vs ts → StVO F H O2 (v :: vs) (none :: ts)
  | cons {O1 O2 : List Addr} {v : V} {t : T} {vs : List V} {ts : List (Option T)} : Ow F H O1 v t → StVO F H O2 vs ts → StVO F H (O1 ++ O2) (v :: vs) (some t :: ts)
theorem StV.len {F H : Hp} : ∀ {O : List Addr} {vs : List V} {ts : List T}, StV F H O vs ts → vs.length = ts.length
  | _, _, _, .nil => rfl
  | _, _, _, .cons _ r => congrArg (· + 1) r.len

/-- an error: its class, its fields -/
structure Ex where
  C : Addr
  fs : List (Str × D)
inductive RpF (F : Hp) : List (Str × V) → List (Str × D) → Prop
  | nil : RpF F [] []
  | cons {n : Str} {v : V} {d : D} {vs : List (Str × V)} {ds : List (Str × D)} : Rp F v d → RpF F vs ds → RpF F ((n, v) :: vs) ((n, d) :: ds)
theorem RpF.mono {F F' : Hp} (s : Same F F') : ∀ {v : List (Str × V)} {d : List (Str × D)}, RpF F v d → RpF F' v d
  | _, _, .nil => .nil
  | _, _, .cons h r => .cons (h.mono s) (RpF.mono s r)
def ExAt (F : Hp) (ex : Ex) (cls : Value) (d : Option Addr) : Prop := cls = .ref ex.C ∧ ((d = none ∧ ex.fs = []) ∨ ∃ dd vfs, d = some dd ∧ F dd = some (.xd vfs) ∧ RpF F vfs ex.fs)

/-- what a def promises: its arguments; what is wanted of its answer and of what the arguments hold then; of an error -/
abbrev Spc := List T → (T → List (Option T) → Prop) → (Ex → List (Option T) → Prop) → Prop
structure FnG (P : Program) (w : World) (K : PySem.W.Frag) (mg : Str → Option Value) (base : Heap) (Tq : List (Addr × Str)) (k : Nat) (f : Addr) (fd : FuncData) (ps : List Str) (sp : Spc) : Prop where
  len : ∀ ts Q E, sp ts Q E → ts.length = ps.length
  run : ∀ (A : Around) (outer : List PySem.Env) (s : Shared) (H : Hp) (args : Args) (us : List Value) (vs : List V) (F : Hp) (O : List Addr) (ts : List T) (QT : T → List (Option T) → Prop) (ET : Ex → List (Option T) → Prop) (E : XK) (tbs : TabZ Tq H F O),
    Room k A → A.guards = some [] → Env0 P w K mg base A outer s H → BindsTo s fd args (ps.zip us) → Vals vs us → Bas ⟨H, F, O, tbs⟩ F H O → StV F H O vs ts → sp ts QT ET →
    (∀ ex ts' cls d H' F' O', Bas ⟨H, F, O, tbs⟩ F' H' O' → StVO F' H' O' vs ts' → ExAt F' ex cls d → ET ex ts' → E cls d H') →
    codeAny (model P w) A (.call (.ref f) args) (CR (L2.CX P w) outer P w H s (fun v H' => ∃ F' O1 O2 t ts', Bas ⟨H, F, O, tbs⟩ F' H' (O1 ++ O2) ∧ StVO F' H' O1 vs ts' ∧ Ow F' H' O2 v t ∧ QT t ts') E) s
theorem FnG.mono {P : Program} {w : World} {K : PySem.W.Frag} {mg : Str → Option Value} {base : Heap} {Tq : List (Addr × Str)} {j k : Nat} {f : Addr} {fd : FuncData} {ps : List Str} {sp : Spc} (G : FnG P w K mg base Tq j f fd ps sp) (h : j ≤ k) : FnG P w K mg base Tq k f fd ps sp :=
  ⟨G.len, fun A outer s H args us vs F O ts QT ET E tbs hr => G.run A outer s H args us vs F O ts QT ET E tbs (hr.mono h)⟩

/-! ### the arguments taken, and put back -/
def deref : List A → Env → (List T → Env → Prop) → Prop
  | [], env, k => k [] env
  | .va d :: as, env, k => deref as env fun ts e => k (.va d :: ts) e
  | .bor a i p :: as, env, k => match getP i p env with
    | some t => t.addr = some a ∧ deref as (setP i p (.hole a) env) fun ts e => k (t :: ts) e
    | none => False
def putb : List A → List (Option T) → Env → (Env → Prop) → Prop
  | [], _, env, k => k env
  | .va _ :: as, _ :: ts, env, k => putb as ts env k
  | .bor a i p :: as, some t :: ts, env, k => getP i p env = some (.hole a) ∧ t.addr = some a ∧ putb as ts (setP i p t env) k
  | _, _, _, _ => False
theorem deref_ok {σ : L2.St} {F H : Hp} : ∀ {as : List A} {vs : List V} {O : List Addr} {env : Env} {k : List T → Env → Prop}, StAs F vs as → OwE F H O σ env → deref as env k →
    ∃ ts e Oc Or, O.Perm (Oc ++ Or) ∧ StV F H Oc vs ts ∧ OwE F H Or σ e ∧ k ts e
  | [], _, O, env, k, .nil, o, h => ⟨[], env, [], O, List.Perm.refl _, .nil, o, h⟩
  | .va d :: as, _, O, env, k, .cons st r, o, h => by
    obtain ⟨ts, e, Oc, Or, p, s, o', q⟩ := deref_ok r o h
    exact ⟨.va d :: ts, e, [] ++ Oc, Or, p, .cons (.va st) s, o', q⟩
  | .bor a i p :: as, _, O, env, k, .cons st r, o, h => by
    unfold deref at h
    cases hg : getP i p env with
    | none => rw [hg] at h; exact h.elim
    | some t =>
      rw [hg] at h
      obtain ⟨w, ⟨Oj, O', h1, h2, h3⟩, _⟩ := o.focus hg
      have hw := h1.ref h.1
      have st : _ = V.ref a := st
      subst st hw
      obtain ⟨O'', q1, q2⟩ := h3 F H [] (.hole a) (Same.refl _) (fun _ _ => rfl) .hole
      obtain ⟨ts, e, Oc, Or, p', s, o', q⟩ := deref_ok r q1 h.2
      refine ⟨t :: ts, e, Oj ++ Oc, Or, ?_, .cons h1 s, o', q⟩
      rw [List.append_assoc]
      exact h2.trans ((q2.symm.trans p').append_left Oj)
theorem putb_ok {σ : L2.St} {F F0 H : Hp} : ∀ {as : List A} {vs : List V} {ts : List (Option T)} {Oc Or : List Addr} {env : Env} {k : Env → Prop}, StAs F0 vs as → StVO F H Oc vs ts → OwE F H Or σ env → putb as ts env k →
    ∃ e O3 Od, OwE F H O3 σ e ∧ (Oc ++ Or).Perm (O3 ++ Od) ∧ k e
  | [], _, _, _, Or, env, k, .nil, .nil, o, h => ⟨env, Or, [], o, by rw [List.append_nil]; exact List.Perm.refl _, h⟩
  | .va d :: as, _, _, _, Or, env, k, .cons _ r, .un s, o, h => by
    obtain ⟨e, O3, Od, o', p, q⟩ := putb_ok r s o h
    exact ⟨e, O3, Od, o', p, q⟩
  | .va d :: as, _, _, _, Or, env, k, .cons _ r, .cons (O1 := O1) (O2 := O2) _ s, o, h => by
    obtain ⟨e, O3, Od, o', p, q⟩ := putb_ok r s o h
    refine ⟨e, O3, O1 ++ Od, o', ?_, q⟩
    rw [List.append_assoc, ← List.append_assoc O3]
    exact (p.append_left O1).trans (by rw [← List.append_assoc]; exact List.perm_append_comm.append_right Od)
  | .bor a i p :: as, _, _, _, Or, env, k, .cons st r, .un s, o, h => h.elim
  | .bor a i p :: as, _, _, _, Or, env, k, .cons st r, .cons (O1 := O1) (O2 := O2) w s, o, h => by
    obtain ⟨hg, ha, h⟩ := h
    obtain ⟨w', ⟨Oj, O', h1, h2, h3⟩, _⟩ := o.focus hg
    have st : _ = V.ref a := st
    subst st
    cases h1
    obtain ⟨O'', q1, q2⟩ := h3 F H O1 _ (Same.refl _) (fun _ _ => rfl) w
    obtain ⟨e, O3, Od, o', p', q⟩ := putb_ok r s q1 h
    refine ⟨e, O3, Od, o', ?_, q⟩
    refine List.Perm.trans ?_ p'
    have e1 : (O2 ++ O'').Perm (O2 ++ (O1 ++ Or)) := (q2.trans (h2.symm.append_left O1 |>.trans (List.Perm.refl _))).append_left O2
    refine List.Perm.trans ?_ e1.symm
    rw [← List.append_assoc]
    exact List.perm_append_comm.append_right Or
def callD (sp : Spc) (as : List A) (env : Env) (PT : T → Env → Prop) (ET : Ex → Env → Prop) : Prop :=
  deref as env fun ts e2 => sp ts (fun t ts' => putb as ts' e2 fun e3 => PT t e3) (fun ex ts' => putb as ts' e2 fun e3 => ET ex e3)
/-- what is wanted of an error, with the slots -/
def wxOf {Tq : List (Addr × Str)} (Z : Zb Tq) (ET : Ex → Env → Prop) : WX := fun cls d σ H => ∃ F O env ex, Bas Z F H O ∧ OwE F H O σ env ∧ ExAt F ex cls d ∧ ET ex env

section
variable {Tq : List (Addr × Str)} {Z : Zb Tq} {X : Cx} {env : Env} {P : R → Env → Prop} {ET : Ex → Env → Prop}
theorem call_g {k : Nat} {f : Addr} {fd : FuncData} {ps : List Str} {sp : Spc} {as : List A} {vs : List V} {us us0 : List Value} {kw : List (Str × Value)} {pins : List (Addr × Obj)} {s : Shared} {σ : L2.St} {H F : Hp} {O : List Addr}
    (G : FnG X.prog X.w X.K X.mg X.base Tq k f fd ps sp) (hr : Room k X.A) (hg : X.A.guards = some []) (tk : Takes X (wxOf Z ET)) (hb : BindsTo s fd ⟨us0, kw⟩ (ps.zip us)) (I : Inv X pins σ H s) (b : Bas Z F H O) (o : OwE F H O σ env)
    (st : StAs F vs as) (r : Vals vs us) (h : callD sp as env (fun t e => P (.t t) e) ET) : wpAny (model X.prog X.w) X.A (call (.ref f) us0 kw) (EP X pins σ (Post Z σ H F O P)) X.xe s := by
  obtain ⟨ts, e2, Oc, Or, pm, sv, o2, h⟩ := deref_ok st o h
  have bc := (b.perm pm).left.entry
  have ex : ∀ c ∈ Or, Held H c := o2.held
  refine wpAny_call (codeAny_mono (G.run X.A X.stack s H ⟨us0, kw⟩ us vs F Oc ts _ _ (fun cls d H' => ∃ e ts' F' O', Bas ⟨H, F, Oc, (b.perm pm).left.tabs⟩ F' H' O' ∧ StVO F' H' O' vs ts' ∧ ExAt F' e cls d ∧ putb as ts' e2 fun e3 => ET e e3) (b.perm pm).left.tabs hr hg I.env0 hb r bc sv h
    fun e ts' cls d H' F' O' b' s' x' q => ⟨e, ts', F', O', b', s', x', q⟩) fun rs s' hq => ?_)
  have back : ∀ {F' H' : Hp} {O1 O2 : List Addr} {ts' : List (Option T)} {kk : Env → Prop}, Bas ⟨H, F, Oc, (b.perm pm).left.tabs⟩ F' H' (O1 ++ O2) → StVO F' H' O1 vs ts' → putb as ts' e2 kk →
      ∃ e3 O3, OwE F' H' O3 σ e3 ∧ Bas Z F' H' (O3 ++ O2) ∧ Frm Tq H F O H' F' (O3 ++ O2) ∧ kk e3 := fun {F' H' O1 O2 ts' kk} b' s' q => by
    have fr := b'.abs
    have b3 := Bas.frame fr (b.perm pm) b' ex
    have keep := fr.rest (R := Or) (pm.nodup b.nd) ex
    obtain ⟨e3, O3, Od, o3, p3, q3⟩ := putb_ok st s' (o2.stay fr.fz keep) q
    have p4 : ((O1 ++ O2) ++ Or).Perm ((O3 ++ O2) ++ Od) := by
      have e1 : ((O1 ++ O2) ++ Or).Perm ((O1 ++ Or) ++ O2) := by
        rw [List.append_assoc, List.append_assoc]
        exact List.perm_append_comm.append_left O1
      have e2 : ((O3 ++ O2) ++ Od).Perm ((O3 ++ Od) ++ O2) := by
        rw [List.append_assoc, List.append_assoc]
        exact List.perm_append_comm.append_left O3
      exact e1.trans ((p3.append_right O2).trans e2.symm)
    exact ⟨e3, O3, o3, (b3.perm p4).left, (fr.frame (R := Or)).perm (fun c => pm.symm.mem_iff) (fun c hc => p4.mem_iff.mpr (List.mem_append_left _ hc)), q3⟩
  cases rs with
  | error e =>
    refine tk e s' (XE.of_call I (fun cls d H' hE => ?_) hq)
    obtain ⟨x, ts', F', O', b', sv', xa, q⟩ := hE
    obtain ⟨e3, O3, o3, b3, fr3, q3⟩ := back (O2 := []) (by rw [List.append_nil]; exact b') sv' q
    rw [List.append_nil] at b3 fr3
    exact ⟨F', O3, e3, x, b3, o3, xa, q3⟩
  | ok fl =>
    cases fl with
    | ret u =>
      refine EP.imp (fun v H' q => ?_) u s' (I.after hq)
      obtain ⟨F', O1, O2, t, ts', b', sv', w', q⟩ := q
      obtain ⟨e3, O3, o3, b3, fr3, q3⟩ := back b' sv' q
      exact ⟨F', O3 ++ O2, .t t, e3, b3, ⟨O3, O2, rfl, o3, w'⟩, fr3, q3⟩
    | next => exact hq.elim
    | brk => exact hq.elim
    | cont => exact hq.elim

/-! ### f(a, ..), f(a, .., k = b, ..) -/
/-- the parameters in their order, from what is written by place (us) and by name (ws, names ks): g and its twins over data -/
structure KwB (K : PySem.W.Frag) (fd : FuncData) (ps ks : List Str) (n m : Nat) (g : {α : Type} → List α → List α → (List α)) (ds : List Value) (dds : List D) : Prop where
  to : ∀ (s : Shared) (us ws : List Value), K.In s.heap → us.length = n → ws.length = m → BindsTo s fd ⟨us, ks.zip ws⟩ (ps.zip (g us ws ++ ds))
variable {x : Str} {p pos : Pos} {e : Expr} {es : List Expr}
def vaAll (ds : List D) : List A := ds.map A.va
theorem w_call {k : Nat} {f : Addr} {fd : FuncData} {ps : List Str} {sp : Spc} {ds : List Value} {vds : List V} {dds : List D} (G : FnG X.prog X.w X.K X.mg X.base Tq k f fd ps sp) (hr : Room k X.A) (hgd : X.A.guards = some []) (tk : Takes X (wxOf Z ET))
    (hm : X.mg x = some (.ref f)) (hk : PySem.W.keepIn X.K (.ref f) = true) (hb : Binds X.K fd ps ds) (hd : Vals vds ds) (hdd : ∀ F : Hp, StAs F vds (vaAll dds)) (h : WAs Z X (e :: es) env fun as e1 => callD sp (as ++ vaAll dds) e1 (fun t e => P (.t t) e) ET)
    (hg : Gl X x := by rfl) (hdb : (x == ("__debug__" : Str)) = false := by decide) (he : starEach (e :: es) X.env = (false, eval e X.env) :: starEach es X.env := by rfl) (hpl : (backTo pos (starEach es X.env)).any (·.1) = false := by rfl) :
    WE Z X (.Call (.Name x p) (e :: es) [] pos) env P := fun pins s σ H F O I b o => by
  refine wpAny_Call_Name_kw (ld_glob I hg hm ?_ hdb)
  refine PySem.W.callWith_K (h₀ := X.base) I.ok.mod.kin hk (thn ((pa_As (Z := Z)).run pos pins s σ H (PostAs Z σ H F O _) I ⟨env, F, O, _, b, o, h, fun _ _ q => q⟩) fun us s1 ⟨vs, H1, I1, r, F1, O1, as, e1, b1, o1, st, fr, q⟩ => ⟨I1.kIn, ?_⟩) he hpl
  have sapp : ∀ {vs : List V} {as : List A}, StAs F1 vs as → StAs F1 (vs ++ vds) (as ++ vaAll dds) := fun {vs as} z => by
    induction z with
    | nil => exact hdd F1
    | cons a _ ih => exact .cons a ih
  have r2 : Vals (vs ++ vds) (us ++ ds) := r.append hd
  have hl : (us ++ ds).length = ps.length := by
    obtain ⟨ts, e2, Oc, Or, pm, sv, o2, hh⟩ := deref_ok (sapp st) o1 q
    rw [← r2.length, sv.len, G.len _ _ _ hh]
  exact thn (call_g (us0 := us) (kw := []) (us := us ++ ds) G hr hgd tk (hb s1 us I1.kIn hl) I1 b1 o1 (sapp st) r2 q) (EP.imp fun v H' q => q.from fr)
end

/-! ### a def's body -/
def startE (N : List Str) (ts : List T) : Env := ts.map some ++ List.replicate (N.length - ts.length) none
theorem StV.start {F H : Hp} {N : List Str} : ∀ {O : List Addr} {vs : List V} {ts : List T}, StV F H O vs ts → ∀ m, OwE F H O (vs.map some ++ List.replicate m none) (ts.map some ++ List.replicate m none)
  | _, _, _, .nil, m => by
    induction m with
    | zero => exact .nil
    | succ m ih => exact .un ih
  | _, _, _, .cons w r, m => .so w (r.start (N := N) m)
/-- what the parameters' slots hold at the end: what was handed in, as it is now -/
def back (ts : List T) (e : Env) (k : List (Option T) → Prop) : Prop := match ts, e with
  | t :: ts, u :: e => match t.addr with
    | none => back ts e fun r => k (none :: r)
    | some a => match u with
      | some u => u.addr = some a ∧ back ts e fun r => k (some u :: r)
      | none => False
  | _ :: _, [] => False
  | [], _ => k []
theorem back_ok {F F0 H0 H : Hp} : ∀ {O0 O : List Addr} {vs : List V} {ts : List T} {σ : L2.St} {e : Env} {k : List (Option T) → Prop}, StV F0 H0 O0 vs ts → OwE F H O σ e → back ts e k → ∃ O' Od ts', O.Perm (O' ++ Od) ∧ StVO F H O' vs ts' ∧ k ts'
  | _, O, _, _, _, _, k, .nil, o, h => ⟨[], O, [], List.Perm.refl _, .nil, by unfold back at h; exact h⟩
  | _, _, _, _, _, _, k, .cons w0 r0, .nil, h => h.elim
  | _, _, _, _, _, _, k, .cons (t := t0) w0 r0, .un r, h => by
    unfold back at h
    cases h0 : t0.addr with
    | none =>
      rw [h0] at h
      obtain ⟨O', Od, ts', p, s, q⟩ := back_ok r0 r h
      exact ⟨O', Od, _, p, .un s, q⟩
    | some a => rw [h0] at h; exact h.elim
  | _, _, _, _, _, _, k, .cons (t := t0) w0 r0, .so (O1 := O1) (t := t) w r, h => by
    unfold back at h
    cases h0 : t0.addr with
    | none =>
      rw [h0] at h
      obtain ⟨O', Od, ts', p, s, q⟩ := back_ok r0 r h
      refine ⟨O', O1 ++ Od, _, ?_, .un s, q⟩
      exact (p.append_left O1).trans (by rw [← List.append_assoc, ← List.append_assoc]; exact List.perm_append_comm.append_right Od)
    | some a =>
      rw [h0] at h
      obtain ⟨O', Od, ts', p, s, q⟩ := back_ok r0 r h.2
      have e1 := w0.ref h0
      have e2 := w.ref h.1
      subst e1 e2
      exact ⟨O1 ++ O', Od, _, by rw [List.append_assoc]; exact p.append_left O1, .cons w s, q⟩
def finP (QT : T → List (Option T) → Prop) (ts : List T) : Out → Prop
  | .ret t e => back ts e (QT t)
  | .nx e => back ts e (QT (.va .none))
  | _ => False
/-- the context of a def's body -/
abbrev BX (P : Program) (w : World) (K : PySem.W.Frag) (mg : Str → Option Value) (base : Heap) (N : List Str) (qual : Str) (st : Stmt) (f : Addr) (cdv : Value) (A : Around) (outer : List PySem.Env) (s : Shared) (H : Hp) (E : XK) : Cx :=
  cxOf (L2.CX P w) P w K mg base N qual (defScope st) f cdv A outer s H E
theorem fn_g {P : Program} {w : World} {K : PySem.W.Frag} {mg : Str → Option Value} {base : Heap} {Tq : List (Addr × Str)} {x qual : Str} {st : Stmt} {f : Addr} {fd : FuncData} {N ps : List Str} {k : Nat} {sp : Spc} (Fn : Fun K x qual st f fd) (S : FnScope N ps (defScope st)) (len : ∀ ts Q E, sp ts Q E → ts.length = ps.length)
    (hbody : ∀ (cdv : Value) (A : Around) (outer : List PySem.Env) (s : Shared) (H : Hp) (E : XK) (Z : Zb Tq) (ts : List T) (QT : T → List (Option T) → Prop) (ET : Ex → List (Option T) → Prop), Room k (BX P w K mg base N qual st f cdv A outer s H E).A → (BX P w K mg base N qual st f cdv A outer s H E).A.guards = some [] →
      PassesOwn (model P w) (BX P w K mg base N qual st f cdv A outer s H E).A (BX P w K mg base N qual st f cdv A outer s H E).env (BX P w K mg base N qual st f cdv A outer s H E).xe →
      Takes (BX P w K mg base N qual st f cdv A outer s H E) (wxOf Z fun ex e => back ts e (ET ex)) → sp ts QT ET → WSs Z (BX P w K mg base N qual st f cdv A outer s H E) (defBody st) (startE N ts) (finP QT ts)) : FnG P w K mg base Tq (k + 1) f fd ps sp := by
  obtain ⟨oc, od, kV, doc, pm, an, cdv, ct, osl, rfl, lk, hcd⟩ := Fn.ex
  refine ⟨len, fun A outer s H args us vs F O ts QT ET E tbs hr hg e0 hb r b sv hsp hE => ?_⟩
  have hl : vs.length = ps.length := sv.len.trans (len _ _ _ hsp)
  refine Att.call_fn (e0.mod.kin.keeps fun b o e => (e0.bs b o e).1) (e0.mod.nolimit.keeps fun b o e => (e0.bs b o e).1) lk hcd hr.depth hb ?_ (fun s1 ic => ?_) S.co S.gen S.kind
  · refine List.all_eq_true.mpr fun y hy => ?_
    rcases S.par y.1 (List.of_mem_zip hy).1 with q | q <;> rw [q] <;> rfl
  · have I : Inv (BX P w K mg base N qual st f cdv A outer s H E) [] (L2.start N vs) H s1 := inv_start S hr.hd e0 hl r ic
    have tk : Takes (BX P w K mg base N qual st f cdv A outer s H E) (wxOf ⟨H, F, O, tbs⟩ fun ex e => back ts e (ET ex)) := by
      refine (takes_of (X := BX P w K mg base N qual st f cdv A outer s H E) (E := E) rfl rfl rfl rfl).imp fun cls d σ H' ⟨F', O', env, ex, b', o', xa, q⟩ => ?_
      obtain ⟨O1, Od, ts', p1, s1, q⟩ := back_ok sv o' q
      exact hE ex _ cls d H' F' O1 (b'.perm p1).left s1 xa q
    have hgd : (BX P w K mg base N qual st f cdv A outer s H E).A.guards = some [] := hg
    have body := hbody cdv A outer s H E ⟨H, F, O, tbs⟩ ts QT ET (hr.deeper _) hgd (passes_of (X := BX P w K mg base N qual st f cdv A outer s H E) rfl) tk hsp
    have o0 : OwE F H O (L2.start N vs) (startE N ts) := by
      unfold L2.start startE
      rw [sv.len]
      exact sv.start (N := N) _
    refine wpAny_mono (body [] s1 (L2.start N vs) H F O I b o0) (fun fl s' hs => ?_) fun e s' hs => hs
    have fin : ∀ {σ' : L2.St} {H' F' : Hp} {O1 O2 : List Addr} {t : T} {e : Env} {v : V} {u : Value}, Inv (BX P w K mg base N qual st f cdv A outer s H E) [] σ' H' s' → RelV v u → Bas ⟨H, F, O, tbs⟩ F' H' (O1 ++ O2) → (∃ σ'', OwE F' H' O1 σ'' e) → Ow F' H' O2 v t → back ts e (QT t) →
        CE outer P w H s (fun v H' => ∃ F' O1 O2 t ts', Bas ⟨H, F, O, tbs⟩ F' H' (O1 ++ O2) ∧ StVO F' H' O1 vs ts' ∧ Ow F' H' O2 v t ∧ QT t ts') u s' := fun {σ' H' F' O1 O2 t e v u} J rv b' ⟨σ'', o'⟩ w' q => by
      obtain ⟨O3, Od, ts', p3, s3, q⟩ := back_ok sv o' q
      refine ⟨v, H', J.os, J.bare, J.base, J.hok, rv, F', O3, O2, t, _, ?_, s3, w', q⟩
      have p4 : (O1 ++ O2).Perm ((O3 ++ O2) ++ Od) := (p3.append_right O2).trans (by
        rw [List.append_assoc, List.append_assoc]
        exact List.perm_append_comm.append_left O3)
      exact (b'.perm p4).left
    cases fl with
    | ret u =>
      obtain ⟨v, σ', H', J, rv, F', O1, O2, σ'', t, e, b', o', w', _, q⟩ := hs
      exact fin J rv b' ⟨σ'', o'⟩ w' q
    | next =>
      obtain ⟨σ', H', J, F', O1, e, b', o', _, q⟩ := hs
      exact fin (v := V.non) (u := Value.none) (t := .va .none) (O2 := []) J rfl (by rw [List.append_nil]; exact b') ⟨_, o'⟩ (.va .non) q
    | brk =>
      obtain ⟨_, _, _, _, _, _, _, _, _, q⟩ := hs
      exact q.elim
    | cont =>
      obtain ⟨_, _, _, _, _, _, _, _, _, q⟩ := hs
      exact q.elim
end QL

/-! QG: subscripts, slices, items stored, pairs stored, calls of built-ins. -/
namespace QL
open PySem PySem.Spec PyProof.Rows L2

theorem mutL {Tq : List (Addr × Str)} {Z : Zb Tq} {F H : Hp} {O : List Addr} {σ : L2.St} {env : Env} {i : Nat} {p : List Str} {a : Addr} {ds : List D} (b : Bas Z F H O) (o : OwE F H O σ env) (hg : getP i p env = some (.lst a ds)) :
    ∃ xs, H a = some (.lst xs) ∧ RpA F xs ds ∧ ∀ ys es, RpA F ys es → ∃ O', Bas Z F (upd H a (.lst ys)) O' ∧ OwE F (upd H a (.lst ys)) O' σ (setP i p (.lst a es) env) ∧ Frm Tq H F O (upd H a (.lst ys)) F O' := by
  obtain ⟨w, ⟨Oj, O', h1, h2, h3⟩, _⟩ := o.focus hg
  cases h1 with
  | lst hH r =>
    refine ⟨_, hH, r, fun ys es r' => ?_⟩
    have nd := h2.nodup b.nd
    have ha : a ∈ O := h2.mem_iff.mpr (List.mem_append_left _ (List.mem_singleton.mpr rfl))
    have hn : ∀ c ∈ O', c ≠ a := fun c hc z => (List.nodup_append.mp nd).2.2 a (List.mem_singleton.mpr rfl) c hc z.symm
    obtain ⟨O'', q1, q2⟩ := h3 F (upd H a (.lst ys)) [a] (.lst a es) (Same.refl _) (fun c hc => upd_ne (hn c hc)) (.lst upd_same r')
    have pm : O.Perm O'' := h2.trans q2.symm
    have fr : Frm Tq H F O (upd H a (.lst ys)) F O'' := ⟨Same.refl _, fun c x e _ n => by rw [upd_ne fun z => n (by rw [z]; exact ha)]; exact e, fun c e => by
      by_cases z : c = a
      · subst z; rw [upd_same]; exact fun z => nomatch z
      · rw [upd_ne z]; exact e, fun c e => .inl e, fun c hc => .inl (pm.mem_iff.mpr hc), tab_own hH⟩
    have da := b.dis a ha
    refine ⟨O'', ⟨fun c x e => ?_, pm.nodup b.nd, fun c hc => b.dis c (pm.mem_iff.mpr hc), b.abs.trans fr⟩, q1, fr⟩
    rw [upd_ne fun z => by rw [z, da] at e; cases e]
    exact b.sub c x e

/-! ### subscripts -/
theorem RpA.at {F : Hp} {xs : List V} {ds : List D} {i : Int} {d : D} (r : RpA F xs ds) (h : atI ds i = some d) : ∃ v, atI xs i = some v ∧ Rp F v d := by
  unfold atI at h ⊢
  rw [r.len]
  cases hn : ixN ds.length i with
  | none => rw [hn] at h; cases h
  | some j => rw [hn] at h; exact r.get' h
def ixD (d1 d2 : D) (k : T → Prop) : Prop := match d1, d2 with
  | .list xs, .int i => ∃ d, atI xs i = some d ∧ k (.va d)
  | .tuple xs, .int i => ∃ d, atI xs i = some d ∧ k (.va d)
  | _, _ => False
section
variable {Tq : List (Addr × Str)} {Z : Zb Tq} {X : Cx} {e a b c o ix : Expr} {es : List Expr} {env : Env} {pos : Pos} {P : R → Env → Prop} {PO : Out → Prop}
theorem ixr : IxR X (rD ixD) := fun value slice pins s σ H x y v u Q I rx ry ⟨F, d1, d2, k, sF, w1, w2, hg, q⟩ hs => by
  refine ix_seq value slice pins s σ H x y v u Q I rx ry ?_ hs
  cases d1 with
  | list xs =>
    cases d2 with
    | int i =>
      obtain ⟨p, vs, rfl, h1, r1⟩ := w1.lst' sF
      cases w2.int
      obtain ⟨d, h3, h4⟩ := hg
      obtain ⟨z, h5, h6⟩ := r1.at h3
      exact .inl ⟨p, vs, i, z, rfl, rfl, SqL.of h1, h5, q _ _ (NewV.val sF h6 h4)⟩
    | _ => exact hg.elim
  | tuple xs =>
    cases d2 with
    | int i =>
      obtain ⟨p, vs, rfl, h1, r1⟩ := w1.tup
      cases w2.int
      obtain ⟨d, h3, h4⟩ := hg
      obtain ⟨z, h5, h6⟩ := r1.at h3
      exact .inr (.inl ⟨p, vs, i, z, rfl, rfl, (.inl (rd_mono sF h1)), h5, q _ _ (NewV.val sF h6 h4)⟩)
    | _ => exact hg.elim
  | _ => exact hg.elim
theorem w_ix (h : W2 Z X a b env fun d1 d2 e2 => ixD d1 d2 fun t => P (.t t) e2) (hs : PlainIx b := by intro _ _; rfl) : WE Z X (.Subscript a b pos) env P :=
  we_of (pe_ix ixr pe_A pe_A hs) fun σ H F O b0 o => w2_run b0 o h
/-- a slice's part -/
def PostO {Tq : List (Addr × Str)} (Z : Zb Tq) (σ : L2.St) (H0 F0 : Hp) (O0 : List Addr) (P : Option Int → Env → Prop) : Option Int → Hp → Prop := fun k H => ∃ F O env, Bas Z F H O ∧ OwE F H O σ env ∧ Frm Tq H0 F0 O0 H F O ∧ P k env
def WO {Tq : List (Addr × Str)} (Z : Zb Tq) (X : Cx) : Option Expr → Env → (Option Int → Env → Prop) → Prop
  | none, env, k => k none env
  | some e, env, k => WE Z X e env fun r e1 => ∃ i, r = .t (.va (.int i)) ∧ k (some i) e1
def tO {Tq : List (Addr × Str)} (Z : Zb Tq) (X : Cx) (e : Option Expr) : TO := fun σ H Q => ∃ env F O P, Bas Z F H O ∧ OwE F H O σ env ∧ WO Z X e env P ∧ ∀ v H', PostO Z σ H F O P v H' → Q v H'
theorem post_int {σ : L2.St} {H F0 H0 : Hp} {O0 : List Addr} {K : Int → Env → Prop} {v : V} (h : Post Z σ H0 F0 O0 (fun r e1 => ∃ k, r = .t (.va (.int k)) ∧ K k e1) v H) :
    ∃ k F O env, v = .int k ∧ Bas Z F H O ∧ OwE F H O σ env ∧ Frm Tq H0 F0 O0 H F O ∧ K k env := by
  obtain ⟨F1, O1, r, env1, b1, st, fr1, k, e1, h1⟩ := h
  subst e1
  obtain ⟨O1', O2, rfl, o1, ow⟩ := st
  cases ow with
  | va r =>
    cases r with
    | int k =>
      rw [List.append_nil] at b1 fr1
      exact ⟨k, F1, O1', env1, rfl, b1, o1, fr1, h1⟩
theorem po_O : ∀ {e : Option Expr}, L2.PO X e (tO Z X e)
  | none => ⟨fun pins s σ H Q I ⟨env, F, O, P, b, o, w, q⟩ => po_none.run pins s σ H Q I (q _ _ ⟨F, O, env, b, o, Frm.refl _ _ _, w⟩)⟩
  | some e => ⟨fun pins s σ H Q I ⟨env, F, O, P, b, o, w, q⟩ => (po_some (pe_E (Z := Z))).run pins s σ H Q I ⟨env, F, O, _, b, o, w, fun v H1 h => by
      obtain ⟨k, F1, O1, e1, rfl, b1, o1, fr, p⟩ := post_int h
      exact ⟨k, rfl, q _ _ ⟨F1, O1, e1, b1, o1, fr, p⟩⟩⟩⟩
def cutD (xs : List D) (lo hi : Option Int) : List D := (xs.drop (HT.sIx xs.length 0 lo)).take (HT.sIx xs.length xs.length hi - HT.sIx xs.length 0 lo)
theorem RpA.cut {F : Hp} {vs : List V} {ds : List D} (r : RpA F vs ds) (lo hi : Option Int) : RpA F (cutV vs lo hi) (cutD ds lo hi) := by
  unfold cutV cutD
  rw [r.len]
  exact (r.drop _).take _
def slD (d : D) (lo hi : Option Int) (k : T → Prop) : Prop := match d with
  | .list xs => ∀ p, k (.lst p (cutD xs lo hi))
  | .tuple xs => k (.va (.tuple (cutD xs lo hi)))
  | _ => False
def rSlD : V → Option Int → Option Int → Hp → VK → Prop := fun x lo hi H Q => ∃ F d k, Same F H ∧ Vw F H x d ∧ slD d lo hi k ∧ ∀ v H', NewV F H k v H' → Q v H'
theorem slr : SlR X rSlD := fun pins s σ H x v vl vu lo hi sl Q I rx hs pl pu ⟨F, d, k, sF, w, hg, q⟩ => by
  cases d with
  | list xs =>
    obtain ⟨p, vs, rfl, h1, r1⟩ := w.lst' sF
    exact sl_list pins s σ H _ v vl vu lo hi sl Q I rx hs pl pu ⟨p, vs, rfl, SqL.of h1, fun p' hp' => q _ _ (NewV.lst sF (r1.cut lo hi) hp' (hg p'))⟩
  | tuple xs =>
    obtain ⟨p, vs, rfl, h1, r1⟩ := w.tup
    refine sl_tupA pins s σ H _ v vl vu lo hi sl Q I rx hs pl pu ⟨p, vs, rfl, (.inl (rd_mono sF h1)), fun hw => ?_, fun _ p' hp' => q _ _ (NewV.tup sF (r1.cut lo hi) hp' hg)⟩
    have hx : cutD xs lo hi = xs := by
      unfold cutD
      rw [← r1.len, hw.1, hw.2, List.drop_zero, r1.len, Nat.sub_zero, List.take_length]
    unfold slD at hg
    simp only [hx] at hg
    exact q _ _ (NewV.val sF (.tup h1 r1) hg)
  | _ => exact hg.elim
theorem w_sl {lo hi : Option Expr} {p2 : Pos} (h : WA Z X a env fun a1 e1 => WO Z X lo e1 fun l e2 => WO Z X hi e2 fun u e3 => View a1 e3 fun d => slD d l u fun t => P (.t t) e3) : WE Z X (.Subscript a (.Slice lo hi none p2) pos) env P :=
  we_of (pe_slice slr pe_A po_O po_O) fun σ H F O b0 o => ⟨env, F, O, _, b0, o, h, fun v1 H1 ⟨F1, O1, a1, e1, b1, o1, st1, fr1, h1⟩ => ⟨e1, F1, O1, _, b1, o1, h1, fun l H2 ⟨F2, O2, e2, b2, o2, fr2, h2⟩ =>
    ⟨e2, F2, O2, _, b2, o2, h2, fun u H3 ⟨F3, O3, e3, b3, o3, fr3, h3⟩ => by
      obtain ⟨d, w, h4⟩ := View.vw h3 o3 (st1.mono (fr2.fz.trans fr3.fz))
      exact ⟨F3, d, _, b3.sub, w, h4, fun v H' n => (n.post b3 o3 fun t q => q).from ((fr1.trans fr2).trans fr3)⟩⟩⟩⟩

/-! ### an item stored -/
theorem ws_setix {sp : Pos} (h : WA Z X e env fun a1 e1 => WE Z X o e1 fun r e2 => ∃ a i p, r = .bor a i p ∧ WE Z X ix e2 fun r3 e3 => ∃ n, r3 = .t (.va (.int n)) ∧
      absorb [a1] e3 fun ds e4 => ∃ d ds0 j, ds = [d] ∧ getP i p e4 = some (.lst a ds0) ∧ ixN ds0.length n = some j ∧ PO (.nx (setP i p (.lst a (ds0.set j d)) e4)))
    (hs : swapsWithSole [.Subscript o ix sp] e pos.line X.env = pure false := by rfl) (hw : swappedStores [.Subscript o ix sp] e X.env = pure none := by rfl)
    (h1 : (assignEach [.Subscript o ix sp] X.env).map (·.2) = [assign (.Subscript o ix sp) X.env] := by rfl)
    (ha : ∀ v, assign (.Subscript o ix sp) X.env v = (do
      let ov ← holding [v] (eval o X.env)
      let iv ← holding [v, ov] (eval ix X.env)
      standAt sp
      holding [v, ov, iv] (setItem ov iv v)
      release [v, ov, iv] []) := by intro _; rfl) : WS Z X (.Assign [.Subscript o ix sp] e pos) env PO :=
  ws_of (ps_asg (pe_A (Z := Z)) (pg_sub (pe_E (Z := Z)) (pe_E (Z := Z)) set_list ha) hs hw h1) fun σ H F O b o => ⟨env, F, O, _, b, o, h, fun v H1 ⟨F1, O1, a1, e1, b1, o1, st1, fr1, p⟩ =>
    ⟨e1, F1, O1, _, b1, o1, p, fun ov H2 ⟨F2, O2, r, e2, b2, st2, fr2, a, i, q, er, p⟩ => by
      subst er
      obtain ⟨o2, eov⟩ := st2
      subst eov
      refine ⟨e2, F2, O2, _, b2, o2, p, fun iv H3 h3 => ?_⟩
      obtain ⟨n, F3, O3, e3, rfl, b3, o3, fr3, p⟩ := post_int h3
      obtain ⟨F4, O4, ds, e4, b4, o4, r4, fr4, d, ds0, j, hds, hg, hj, p⟩ := absorb_ok (.cons (st1.mono (fr2.fz.trans fr3.fz)) .nil) b3 o3 p
      subst hds
      cases r4 with
      | cons r4 rn =>
        obtain ⟨xs, hH, rx, upd'⟩ := mutL b4 o4 hg
        obtain ⟨O5, b5, o5, fr5⟩ := upd' (xs.set j v) (ds0.set j d) (rx.set r4 j)
        refine ⟨a, xs, n, j, rfl, rfl, hH, by rw [rx.len]; exact hj, ?_⟩
        exact ⟨F4, O5, _, b5, o5, (((fr1.trans fr2).trans fr3).trans fr4).trans fr5, p⟩⟩⟩

/-! ### x, y = e1, e2 -/
/-- two results, one after the other -/
def parP {Tq : List (Addr × Str)} (Z : Zb Tq) (X : Cx) (b : Expr) (i j : Nat) (k : Env → Prop) (r1 : R) (e1 : Env) : Prop := ∃ t1, r1 = .t t1 ∧ WE Z X b e1 fun r2 e2 => ∃ t2, r2 = .t t2 ∧ i < e2.length ∧ j < e2.length ∧ k ((e2.set i (some t1)).set j (some t2))
theorem ws_par (i j : Nat) {x y : Str} {px py pt : Pos} {kt k2 pt2} (hc : X.calm = true) (hN : X.N.Nodup) (h : WE Z X a env (parP Z X b i j fun e => PO (.nx e)))
    (hi : X.N[i]? = some x := by rfl) (hj : X.N[j]? = some y := by rfl) (hij : i ≠ j := by decide) (hx : X.env.scope.names.lookup x = some .local := by rfl) (hy : X.env.scope.names.lookup y = some .local := by rfl)
    (hw : swappedStores [.Tuple [.Name x px, .Name y py] kt pt] (.Tuple [a, b] k2 pt2) X.env = pure (some [x, y]) := by rfl)
    (hs : swapsWithSole [.Tuple [.Name x px, .Name y py] kt pt] (.Tuple [a, b] k2 pt2) pos.line X.env = pure false := by rfl) (hs1 : starEach [a, b] X.env = (false, eval a X.env) :: starEach [b] X.env := by rfl) (hs2 : starEach [b] X.env = (false, eval b X.env) :: starEach [] X.env := by rfl) :
    WS Z X (.Assign [.Tuple [.Name x px, .Name y py] kt pt] (.Tuple [a, b] k2 pt2) pos) env PO :=
  ws_of (ps_par hc hN hi hj hij hx hy (pa_cons (pe_E (Z := Z)) (pa_cons (pe_E (Z := Z)) pa_nil hs2) hs1) hw hs) fun σ H F O b0 o => by
    refine ⟨env, F, O, _, b0, o, h, fun v1 H1 ⟨F1, O1, r1, e1, b1, st1, fr1, t1, er1, p⟩ => ?_⟩
    subst er1
    obtain ⟨Oa, Ob, rfl, o1, w1⟩ := st1
    refine ⟨e1, F1, Oa, _, b1.left, o1, p, fun v2 H2 ⟨F2, O2, r2, e2, b2, st2, fr2, t2, er2, li, lj, p⟩ => ?_⟩
    subst er2
    obtain ⟨Oc, Od, rfl, o2, w2⟩ := st2
    have ex : ∀ c ∈ Ob, Held H1 c := w1.held
    have b3 := Bas.frame fr2 b1 b2 ex
    have w3 : Ow F2 H2 Ob v1 t1 := w1.stay fr2.fz (fr2.rest b1.nd ex)
    obtain ⟨O5, Oe, o5, p5⟩ := o2.set i w3 li
    obtain ⟨O6, Of, o6, p6⟩ := o5.set j w2 (by rw [List.length_set]; exact lj)
    have pm : ((Oc ++ Od) ++ Ob).Perm (O6 ++ (Of ++ Oe)) := by
      have z1 : ((Oc ++ Od) ++ Ob).Perm (Od ++ (Ob ++ Oc)) := by
        rw [List.append_assoc]
        refine (List.perm_append_comm (l₁ := Oc)).trans ?_
        rw [List.append_assoc]
      refine z1.trans ((p5.append_left Od).trans ?_)
      rw [← List.append_assoc, ← List.append_assoc]
      exact p6.append_right Oe
    have fr3 : Frm Tq H F O H2 F2 ((Oc ++ Od) ++ Ob) := fr1.trans fr2.frame
    refine ⟨v1, v2, rfl, F2, O6, _, (b3.perm pm).left, o6, fr3.perm (fun _ => Iff.rfl) fun c hc => pm.mem_iff.mpr (List.mem_append_left _ hc), p⟩

/-! ### built-in functions -/
def DCall (X : Cx) (f : Value) (g : List D → (T → Prop) → Prop) : Prop :=
  ∀ (pins : List (Addr × Obj)) (s : Shared) (σ : L2.St) (H F : Hp) (vs : List V) (us : List Value) (ds : List D) (k : T → Prop), Inv X pins σ H s → Same F H → Vws F H vs ds → Vals vs us → g ds k →
    wpAny (model X.prog X.w) X.A (call f us) (EP X pins σ (NewV F H k)) X.xe s
def rC (g : List D → (T → Prop) → Prop) : List V → Hp → VK → Prop := fun vs H Q => ∃ F ds k, Same F H ∧ Vws F H vs ds ∧ g ds k ∧ ∀ v H', NewV F H k v H' → Q v H'
theorem DCall.r {f : Value} {g : List D → (T → Prop) → Prop} (h : DCall X f g) : CallR X f (rC g) := fun pins s σ H vs us Q I r ⟨F, ds, k, sF, ws, hg, q⟩ => thn (h pins s σ H F vs us ds k I sF ws r hg) (EP.imp q)
theorem DCall.of {f : Value} {g : List D → (T → Prop) → Prop} {r : List V → Hp → VK → Prop} (hc : CallR X f r) (q : ∀ H F vs ds k, Same F H → Vws F H vs ds → g ds k → r vs H (NewV F H k)) : DCall X f g :=
  fun pins s σ H F vs us ds k I sF ws rv hg => hc pins s σ H vs us _ I rv (q H F vs ds k sF ws hg)
theorem callD_post {g : List D → (T → Prop) → Prop} {σ : L2.St} {H F : Hp} {O : List Addr} {t : TA} (b0 : Bas Z F H O) (o : OwE F H O σ env)
    (h : WAs Z X es env fun as e1 => Views as e1 fun ds => g ds fun t => P (.t t) e1) : tCB (rC g) (tAs Z X es) σ H (Post Z σ H F O P) :=
  ⟨env, F, O, _, b0, o, h, fun vs H1 ⟨F1, O1, as, e1, b1, o1, st, fr, p⟩ => by
    obtain ⟨ds, ws, q⟩ := Views.vws o1 st p
    exact ⟨F1, ds, _, b1.sub, ws, q, fun v H' n => (n.post b1 o1 fun t q => q).from fr⟩⟩
theorem w_callB {g : List D → (T → Prop) → Prop} {x : Str} {id : String} {p : Pos} (hc : DCall X (.builtin id) g) (hm : X.mg x = none) (hv : bootBuiltins x = some (.builtin id)) (h : WAs Z X (e :: es) env fun as e1 => Views as e1 fun ds => g ds fun t => P (.t t) e1)
    (hg : Gl X x := by rfl) (hn : x ≠ "__name__" := by decide) (hdb : (x == ("__debug__" : Str)) = false := by decide)
    (he : starEach (e :: es) X.env = (false, eval e X.env) :: starEach es X.env := by rfl) (hpl : (backTo pos (starEach es X.env)).any (·.1) = false := by rfl) : WE Z X (.Call (.Name x p) (e :: es) [] pos) env P :=
  we_of (pe_callB hc.r hg hm hv pa_As hn hdb he hpl) fun σ H F O b0 o => callD_post (t := tNil) b0 o h
theorem w_callTy {g : List D → (T → Prop) → Prop} {x : Str} {id : String} {p : Pos} (hc : DCall X (.type id) g) (hm : X.mg x = none) (hv : bootBuiltins x = some (.type id)) (h : WAs Z X (e :: es) env fun as e1 => Views as e1 fun ds => g ds fun t => P (.t t) e1)
    (hg : Gl X x := by rfl) (hn : x ≠ "__name__" := by decide) (hdb : (x == ("__debug__" : Str)) = false := by decide)
    (he : starEach (e :: es) X.env = (false, eval e X.env) :: starEach es X.env := by rfl) (hpl : (backTo pos (starEach es X.env)).any (·.1) = false := by rfl) : WE Z X (.Call (.Name x p) (e :: es) [] pos) env P :=
  we_of (pe_callTy hc.r hg hm hv pa_As hn hdb he hpl) fun σ H F O b0 o => callD_post (t := tNil) b0 o h

theorem Vws.one {F H : Hp} {vs : List V} {d : D} (h : Vws F H vs [d]) : ∃ v, vs = [v] ∧ Vw F H v d := by
  cases h with | cons w r => cases r; exact ⟨_, rfl, w⟩
theorem Vws.two {F H : Hp} {vs : List V} {d d' : D} (h : Vws F H vs [d, d']) : ∃ v v', vs = [v, v'] ∧ Vw F H v d ∧ Vw F H v' d' := by
  cases h with | cons w r => cases r with | cons w' r => cases r; exact ⟨_, _, rfl, w, w'⟩
def lenG (ds : List D) (k : T → Prop) : Prop := match ds with
  | [.list xs] => k (.va (.int xs.length))
  | [.tuple xs] => k (.va (.int xs.length))
  | _ => False
theorem dc_len : DCall X (.builtin "len") lenG := .of call_len_seq fun H F vs ds k sF ws h => by
  unfold lenG at h
  split at h
  · obtain ⟨v, rfl, w⟩ := ws.one
    obtain ⟨p, xs, rfl, h1, r1⟩ := w.lst' sF
    exact ⟨p, xs, rfl, .inl (SqL.of h1), NewV.val sF (.int _) (by rw [r1.len]; exact h)⟩
  · obtain ⟨v, rfl, w⟩ := ws.one
    obtain ⟨p, xs, rfl, h1, r1⟩ := w.tup
    exact ⟨p, xs, rfl, .inr ((.inl (rd_mono sF h1))), NewV.val sF (.int _) (by rw [r1.len]; exact h)⟩
  · exact h.elim
def absG (ds : List D) (k : T → Prop) : Prop := match ds with
  | [.int i] => k (.va (.int i.natAbs))
  | _ => False
theorem dc_abs : DCall X (.builtin "abs") absG := .of call_abs fun H F vs ds k sF ws h => by
  unfold absG at h
  split at h
  · rename_i i
    obtain ⟨v, rfl, w⟩ := ws.one
    cases w.int
    have e : (if i < 0 then -i else i) = (i.natAbs : Int) := by split <;> omega
    exact ⟨i, rfl, NewV.val sF (.int _) (by rw [e]; exact h)⟩
  · exact h.elim
def int1G (ds : List D) (k : T → Prop) : Prop := match ds with
  | [.int i] => k (.va (.int i))
  | [.bool b] => k (.va (.int (if b then 1 else 0)))
  | _ => False
theorem dc_int : DCall X (.type "int") int1G := .of call_int1 fun H F vs ds k sF ws h => by
  unfold int1G at h
  split at h
  · obtain ⟨v, rfl, w⟩ := ws.one
    cases w.int
    exact .inl ⟨_, rfl, NewV.val sF (.int _) h⟩
  · obtain ⟨v, rfl, w⟩ := ws.one
    cases w.bl
    exact .inr ⟨_, rfl, NewV.val sF (.int _) h⟩
  · exact h.elim
def minG (ds : List D) (k : T → Prop) : Prop := match ds with
  | [.int i, .int j] => k (.va (.int (min i j)))
  | _ => False
theorem dc_min2 (hc : X.calm = true) : DCall X (.builtin "min") minG := .of (call_min2 hc) fun H F vs ds k sF ws h => by
  unfold minG at h
  split at h
  · rename_i i j
    obtain ⟨v, v', rfl, w, w'⟩ := ws.two
    cases w.int
    cases w'.int
    have e : (if j < i then j else i) = min i j := by split <;> omega
    exact ⟨i, j, rfl, NewV.val sF (.int _) (by rw [e]; exact h)⟩
  · exact h.elim
def maxG (ds : List D) (k : T → Prop) : Prop := match ds with
  | [.int i, .int j] => k (.va (.int (max i j)))
  | _ => False
theorem dc_max2 (hc : X.calm = true) : DCall X (.builtin "max") maxG := .of (call_max2 hc) fun H F vs ds k sF ws h => by
  unfold maxG at h
  split at h
  · rename_i i j
    obtain ⟨v, v', rfl, w, w'⟩ := ws.two
    cases w.int
    cases w'.int
    have e : (if j > i then j else i) = max i j := by split <;> omega
    exact ⟨i, j, rfl, NewV.val sF (.int _) (by rw [e]; exact h)⟩
  · exact h.elim
def tupG (ds : List D) (k : T → Prop) : Prop := match ds with
  | [.list xs] => k (.va (.tuple xs))
  | [.tuple xs] => k (.va (.tuple xs))
  | _ => False
theorem dc_tuple : DCall X (.type "tuple") tupG := .of call_tuple_of fun H F vs ds k sF ws h => by
  unfold tupG at h
  split at h
  · obtain ⟨v, rfl, w⟩ := ws.one
    obtain ⟨p, xs, rfl, h1, r1⟩ := w.lst' sF
    exact ⟨p, xs, rfl, .inl ⟨SqL.of h1, fun l hl => NewV.tup sF r1 hl h⟩⟩
  · obtain ⟨v, rfl, w⟩ := ws.one
    obtain ⟨p, xs, rfl, h1, r1⟩ := w.tup
    exact ⟨p, xs, rfl, .inr ⟨(.inl (rd_mono sF h1)), NewV.val sF (.tup h1 r1) h⟩⟩
  · exact h.elim
def allG (ds : List D) (k : T → Prop) : Prop := ∃ bs : List Bool, ds = [.list (bs.map .bool)] ∧ k (.va (.bool (bs.all id)))
theorem dc_all (hc : X.calm = true) : DCall X (.builtin "all") allG := .of (cr_all hc) fun H F vs ds k sF ws ⟨bs, e, h⟩ => by
  subst e
  obtain ⟨v, rfl, w⟩ := ws.one
  obtain ⟨p, xs, rfl, h1, r1⟩ := w.lst' sF
  exact ⟨p, bs, rfl, by rw [← r1.bls]; exact SqL.of h1, NewV.val sF (.bl _) h⟩
end
end QL

/-! QH: what is shown, isinstance, chains, dict displays, calls by name, the script. -/
namespace QL
open PySem PySem.Spec PyProof.Rows L2

section
variable {X : Cx}
theorem far (hb : (X.base.get? sysModules).isSome = true) {pins : List (Addr × Obj)} {σ : L2.St} {H : Hp} {s : Shared} (I : Inv X pins σ H s) {a : Addr} {o : HO} (h : H a = some o) : sysModules ≠ a := fun e => by
  obtain ⟨ob, ho⟩ := Option.isSome_iff_exists.mp hb
  have := (I.bs _ _ ho).2
  rw [e, h] at this
  cases this

/-! ### repr -/
def showOk (d : D) : Prop := d.showable = true ∧ d.depth ≤ 100 ∧ d.shown.length ≤ sizeLine
/-! ### isinstance(x, T) -/
def tyD : D → String
  | .none => "NoneType"
  | .bool _ => "bool"
  | .int _ => "int"
  | .str _ => "str"
  | .list _ => "list"
  | .tuple _ => "tuple"
  | .dict _ => "dict"
def isB (d : D) (T : String) : Bool := tyD d == T || (T == "int" && tyD d == "bool")
theorem Vw.ty {K : PySem.W.Frag} {F H : Hp} {v : V} {d : D} (sF : Same F H) (w : Vw F H v d) : TyX K H v (.type (tyD d)) := by
  have r := w.rp sF
  cases r with
  | non => exact .base .non
  | bl b => exact .base (.bl b)
  | int i => exact .base (.int i)
  | str x => exact .base (.str x)
  | lst h _ => exact .base (.lst h)
  | tup h _ =>
    rcases h with h | ⟨o, h⟩
    · exact .base (.tup h)
    · exact .fTuple h
  | dic h _ =>
    rcases h with h | ⟨o, h⟩
    · exact .base (.dK h)
    · exact .fDict h
variable {Tq : List (Addr × Str)} {Z : Zb Tq} {e a b c o ix : Expr} {es : List Expr} {env : Env} {pos : Pos} {P : R → Env → Prop} {PO : Out → Prop}
theorem w_isi {T : Str} {t : String} {p p2 : Pos} (h : WA Z X e env fun a1 e1 => View a1 e1 fun d => P (.t (.va (.bool (isB d t)))) e1) (hk : ∀ d, kitB (tyD d) t = some (isB d t)) (hm : X.mg "isinstance" = none) (hmT : X.mg T = none) (hv : bootBuiltins T = some (.type t))
    (hg : Gl X "isinstance" := by rfl) (hgT : Gl X T := by rfl) (hn : T ≠ "__name__" := by decide) (hd : (T == ("__debug__" : Str)) = false := by decide)
    (he : starEach [e, .Name T p2] X.env = (false, eval e X.env) :: starEach [.Name T p2] X.env := by rfl) (he2 : starEach [.Name T p2] X.env = (false, eval (.Name T p2) X.env) :: starEach [] X.env := by rfl)
    (hpl : (backTo pos (starEach [.Name T p2] X.env)).any (·.1) = false := by rfl) : WE Z X (.Call (.Name "isinstance" p) [e, .Name T p2] [] pos) env P :=
  we_of (pe_callB (call_isi (X := X)) hg hm rfl (pa_cons (pe_A (Z := Z)) (pa_cons (pe_bltn (v := .ty t) hgT hmT hv rfl hn hd) pa_nil he2) he) (by decide) (by decide) he hpl) fun σ H F O b o => ⟨env, F, O, _, b, o, h, fun v H1 ⟨F1, O1, a1, e1, b1, o1, st, fr, p⟩ => by
    obtain ⟨d, w, q⟩ := View.vw p o1 st
    exact ⟨v, .ty t, .type (tyD d), .type t, isB d t, rfl, .ty t, w.ty b1.sub, kit_ty (hk d), (post_val b1 o1 (.bl _) q).from fr⟩⟩
theorem kit_int : ∀ d, kitB (tyD d) "int" = some (isB d "int") := by intro d; cases d <;> (simp only [isB, tyD]; decide +kernel)
theorem kit_bool : ∀ d, kitB (tyD d) "bool" = some (isB d "bool") := by intro d; cases d <;> (simp only [isB, tyD]; decide +kernel)
theorem kit_tuple : ∀ d, kitB (tyD d) "tuple" = some (isB d "tuple") := by intro d; cases d <;> (simp only [isB, tyD]; decide +kernel)

/-! ### a op b op c -/
theorem w_chain {op op' : CmpOp} {g g' : D → D → (T → Prop) → Prop} (ho : DOp X (compareOp op) g) (ho' : DOp X (compareOp op') g')
    (h : WA Z X a env fun a1 e1 => WA Z X b e1 fun a2 e2 => View a1 e2 fun d1 => View a2 e2 fun d2 => g d1 d2 fun t => ∃ k, t = .va (.bool k) ∧ (k = true → WA Z X c e2 fun a3 e3 => View a2 e3 fun d2' => View a3 e3 fun d3 => g' d2' d3 fun t => P (.t t) e3) ∧ (k = false → P (.t (.va (.bool false))) e2))
    (hm : lastMarks [op, op'] [b, c] = false := by with_unfolding_all rfl) : WE Z X (.Compare a [op, op'] [b, c] pos) env P :=
  we_of (pe_chain ho.r ho'.r (pe_A (Z := Z)) (pe_A (Z := Z)) (pe_A (Z := Z)) hm) fun σ H F O b0 o => by
    refine ⟨env, F, O, _, b0, o, h, fun v1 H1 ⟨F1, O1, a1, e1, b1, o1, st1, fr1, h1⟩ => ?_⟩
    refine ⟨e1, F1, O1, _, b1, o1, h1, fun v2 H2 ⟨F2, O2, a2, e2, b2, o2, st2, fr2, h2⟩ => ?_⟩
    obtain ⟨d1, w1, h3⟩ := View.vw h2 o2 (st1.mono fr2.fz)
    obtain ⟨d2, w2, h4⟩ := View.vw h3 o2 st2
    refine ⟨F2, d1, d2, _, b2.sub, w1, w2, h4, fun v H3 n => ?_⟩
    obtain ⟨F3, O3, r3, e3, b3, st3, fr3, ee, k, er, hT, hF⟩ := n.post b2 o2 (P := fun r e => e = e2 ∧ ∃ k, r = .t (.va (.bool k)) ∧ (k = true → WA Z X c e2 fun a3 e3 => View a2 e3 fun d2' => View a3 e3 fun d3 => g' d2' d3 fun t => P (.t t) e3) ∧ (k = false → P (.t (.va (.bool false))) e2))
      fun t ⟨k, e, q⟩ => ⟨rfl, k, by rw [e], q⟩
    subst er ee
    obtain ⟨Oa, Ob, rfl, o3, w3⟩ := st3
    cases w3 with
    | va r =>
      cases r with
      | bl k =>
        rw [List.append_nil] at b3 fr3
        refine ⟨k, rfl, ?_⟩
        cases k with
        | false => exact iteF ((post_val b3 o3 (.bl _) (hF rfl)).from ((fr1.trans fr2).trans fr3))
        | true =>
          refine iteT ⟨e3, F3, Oa, _, b3, o3, hT rfl, fun v4 H4 ⟨F4, O4, a3, e4, b4, o4, st4, fr4, h5⟩ => ?_⟩
          obtain ⟨d2', w5, h6⟩ := View.vw h5 o4 (st2.mono (fr3.fz.trans fr4.fz))
          obtain ⟨d3, w6, h7⟩ := View.vw h6 o4 st4
          exact ⟨F4, d2', d3, _, b4.sub, w5, w6, h7, fun v H' n => (n.post b4 o4 fun t q => q).from (((fr1.trans fr2).trans fr3).trans fr4)⟩

/-! ### {}, {'a': x} -/
theorem NewV.dic {F H : Hp} {k : T → Prop} {p : Addr} {xs : List (Key × V)} {ds : List (Key × D)} (b : Same F H) (r : RpT F xs ds) (n : H p = none) (h : k (.dic p ds)) : NewV F H k (.ref p) (upd H p (.dK xs)) := by
  refine ⟨F, [p], .dic p ds, Same.refl _, same_new n, b.trans (same_new n), fun _ z => .inl z, List.nodup_cons.mpr ⟨fun z => (nomatch z), List.nodup_nil⟩, fun a ha => ?_, .dic upd_same r, h⟩
  rw [List.mem_singleton.mp ha]
  exact ⟨n, b.free n⟩
theorem w_dict0 (h : ∀ p, P (.t (.dic p [])) env) : WE Z X (.Dict [] [] pos) env P := we_of pe_dnewK fun σ H F O b o p hp => (NewV.dic b.sub .nil hp (k := fun t => t = .dic p []) rfl).post b o fun t e => by subst e; exact h p
/-! ### calls by name alone: f(b = e2, a = e1) -/
def pick {α : Type} (ns : List Nat) (xs : List α) : List α := ns.filterMap (xs[·]?)
theorem StAs.get {F : Hp} : ∀ {vs : List V} {as : List A} (i : Nat), StAs F vs as → (vs[i]? = none ∧ as[i]? = none) ∨ ∃ v a, vs[i]? = some v ∧ as[i]? = some a ∧ StA F v a
  | _, _, _, .nil => .inl ⟨rfl, rfl⟩
  | _, _, 0, .cons h r => .inr ⟨_, _, rfl, rfl, h⟩
  | _, _, i + 1, .cons h r => r.get i
theorem StAs.pick {F : Hp} {vs : List V} {as : List A} (h : StAs F vs as) : ∀ ns : List Nat, StAs F (QL.pick ns vs) (QL.pick ns as)
  | [] => .nil
  | n :: ns => by
    unfold QL.pick
    rcases h.get n with ⟨e1, e2⟩ | ⟨v, a, e1, e2, r⟩
    · rw [List.filterMap_cons_none e1, List.filterMap_cons_none e2]
      exact h.pick ns
    · rw [List.filterMap_cons_some e1, List.filterMap_cons_some e2]
      exact .cons r (h.pick ns)
/-- how such a call binds: the names as they are written, their places in the parameters' order -/
def KwOk (K : PySem.W.Frag) (fd : FuncData) (ps ks : List Str) (ns : List Nat) : Prop := ∀ (s : Shared) (us : List Value), K.In s.heap → us.length = ks.length → BindsTo s fd ⟨[], ks.zip us⟩ (ps.zip (pick ns us))
theorem StAs.len {F : Hp} : ∀ {vs : List V} {as : List A}, StAs F vs as → vs.length = as.length
  | _, _, .nil => rfl
  | _, _, .cons _ r => congrArg (· + 1) r.len
/-! ### the script: a list that stands in the written part -/
def scT (K : PySem.W.Frag) (a : Addr) (ns : List Int) : T := .ob (some a) fun F _ O v => v = .ref a ∧ O = [] ∧ SqL K F a (ns.map V.int)
theorem sql_mono {K : PySem.W.Frag} {F F' : Hp} {a : Addr} {xs : List V} (s : Same F F') (h : SqL K F a xs) : SqL K F' a xs := by
  rcases h with h | h
  · exact .inl (rd_mono s h)
  · exact .inr h
theorem scT_ow {K : PySem.W.Frag} {F H : Hp} {a : Addr} {ns : List Int} (h : SqL K F a (ns.map V.int)) : Ow F H [] (.ref a) (scT K a ns) :=
  .ob ⟨rfl, rfl, h⟩ ⟨fun F H F' H' O v ⟨h1, h2, h3⟩ s _ => ⟨h1, h2, sql_mono s h3⟩, fun F H O v ⟨_, h2, _⟩ b hb => (by subst h2; cases hb), fun F H O v b ⟨h1, _, _⟩ e => by cases e; exact h1⟩
theorem sc_at {Tq : List (Addr × Str)} {Z : Zb Tq} {F H : Hp} {O : List Addr} {σ : L2.St} {env : Env} {i : Nat} {K : PySem.W.Frag} {a : Addr} {ns : List Int} (b : Bas Z F H O) (o : OwE F H O σ env) (hg : env[i]? = some (some (scT K a ns))) : σ[i]? = some (some (.ref a)) ∧ SqL K H a (ns.map V.int) := by
  obtain ⟨w, hw, Oj, O', h1, h2, h3⟩ := o.focusI hg
  cases h1 with
  | ob h _ =>
    obtain ⟨e, _, q⟩ := h
    subst e
    exact ⟨hw, sql_mono b.sub q⟩
theorem w_scLen (i : Nat) {x : Str} {p p2 : Pos} {a : Addr} {ns : List Int} (hm : X.mg "len" = none) (he : env[i]? = some (some (scT X.K a ns))) (h : P (.t (.va (.int ns.length))) env) (hN : X.N[i]? = some x := by rfl)
    (hg : Gl X "len" := by rfl) (hv : Vis X.env.scope x := by first | exact Or.inl rfl | exact Or.inr (Or.inl rfl) | exact Or.inr (Or.inr rfl)) (hd : (x == ("__debug__" : Str)) = false := by decide) (hcd : (x == ("__classdict__" : Str)) = false := by decide)
    (hs : starEach [.Name x p2] X.env = (false, eval (.Name x p2) X.env) :: starEach [] X.env := by rfl) (hpl : (backTo pos (starEach [] X.env)).any (·.1) = false := by rfl) : WE Z X (.Call (.Name "len" p) [.Name x p2] [] pos) env P :=
  we_of (pe_callB call_len_seq hg hm rfl (pa_cons (pe_var hN hv hd hcd) pa_nil hs) (by decide) (by decide) hs hpl) fun σ H F O b o => by
    obtain ⟨e1, q⟩ := sc_at b o he
    refine ⟨_, e1, a, _, rfl, .inl q, ?_⟩
    rw [List.length_map]
    exact post_val b o (.int _) h
theorem w_scIx (i j : Nat) {x y : Str} {p p2 : Pos} {a : Addr} {ns : List Int} {n : Int} {m : Int} (he : env[i]? = some (some (scT X.K a ns))) (hj : env[j]? = some (some (.va (.int n)))) (ha : atI ns n = some m) (h : P (.t (.va (.int m))) env) (hN : X.N[i]? = some x := by rfl) (hM : X.N[j]? = some y := by rfl)
    (hv : Vis X.env.scope x := by first | exact Or.inl rfl | exact Or.inr (Or.inl rfl) | exact Or.inr (Or.inr rfl)) (hd : (x == ("__debug__" : Str)) = false := by decide) (hcd : (x == ("__classdict__" : Str)) = false := by decide)
    (hv2 : Vis X.env.scope y := by first | exact Or.inl rfl | exact Or.inr (Or.inl rfl) | exact Or.inr (Or.inr rfl)) (hd2 : (y == ("__debug__" : Str)) = false := by decide) (hcd2 : (y == ("__classdict__" : Str)) = false := by decide)
    (hs : PlainIx (.Name y p2) := by intro _ _; rfl) : WE Z X (.Subscript (.Name x p) (.Name y p2) pos) env P :=
  we_of (pe_ix ix_list (pe_var hN hv hd hcd) (pe_var hM hv2 hd2 hcd2) hs) fun σ H F O b o => by
    obtain ⟨e1, q⟩ := sc_at b o he
    obtain ⟨w, hw, Oj, O', h1, h2, h3⟩ := o.focusI hj
    cases h1 with
    | va r =>
      cases r
      refine ⟨_, e1, _, hw, a, _, n, .int m, rfl, rfl, q, ?_, post_val b o (.int _) h⟩
      unfold atI at ha ⊢
      rw [List.length_map]
      cases hn : ixN ns.length n with
      | none => rw [hn] at ha; cases ha
      | some k =>
        rw [hn] at ha
        have ha : ns[k]? = some m := ha
        show (ns.map V.int)[k]? = some (V.int m)
        rw [List.getElem?_map, ha]
        rfl
end
end QL

/-! QI: methods of lists, starred displays, sums of tuples, zip as what is walked, repr without dicts. -/
namespace QL
open PySem PySem.Spec PyProof.Rows L2 StX

section
variable {X : Cx} {Tq : List (Addr × Str)} {Z : Zb Tq} {e a b c o ix tg : Expr} {es : List Expr} {env : Env} {pos : Pos} {P : R → Env → Prop} {PO : Out → Prop}

/-! ### xs.append(e), xs.pop() -/
theorem lst_at {F H : Hp} {O : List Addr} {σ : L2.St} {a : Addr} {i : Nat} {p : List Str} {ds : List D} {K : PySem.W.Frag} (o : OwE F H O σ env) (hg : getP i p env = some (.lst a ds)) : tyV K "list" (.ref a) H := by
  obtain ⟨w, ⟨Oj, O', h1, h2, h3⟩, _⟩ := o.focus hg
  cases h1 with
  | lst hH r => exact .inl ⟨rfl, _, SqL.of hH⟩
theorem w_append {apos : Pos} (h : WE Z X o env fun r e1 => ∃ a i p ds0, r = .bor a i p ∧ getP i p e1 = some (.lst a ds0) ∧ WA Z X e e1 fun a1 e2 => absorb [a1] e2 fun ds e3 => ∃ d ds1, ds = [d] ∧ getP i p e3 = some (.lst a ds1) ∧ ds1.length < sizeLine ∧ P (.t (.va .none)) (setP i p (.lst a (ds1 ++ [d])) e3))
    (hbase : attributeBase o "append" X.env (eval o X.env) = eval o X.env := by rfl)
    (hfew : ((backTo pos (starEach [e] X.env)).all (fun x => !x.1) && (backToKw pos (keywordEach [] X.env)).all (fun x => x.1.isSome)
      && decide (([e] : List Expr).length + ([] : List Keyword).length + (if ([] : List Keyword).isEmpty then 0 else 1) < 30)) = true := by rfl)
    (hline : (apos.endLine == pos.line) = true := by rfl) (hs : starEach [e] X.env = (false, eval e X.env) :: starEach [] X.env := by rfl) (hpl : (backTo pos (starEach [] X.env)).any (·.1) = false := by rfl) :
    WE Z X (.Call (.Attribute o "append" apos) [e] [] pos) env P :=
  we_of (pe_bm PySem.F.plainAttrs_list PySem.F.slot_list_append PySem.F.type_list_append mt_append (pe_E (Z := Z)) (pa_cons (pe_A (Z := Z)) pa_nil hs) hbase hfew hline hs hpl) fun σ H F O b0 o0 =>
    ⟨env, F, O, _, b0, o0, h, fun v H1 ⟨F1, O1, r, e1, b1, st, fr1, a, i, p, ds0, er, hg, q⟩ => by
      subst er
      obtain ⟨o1, ev⟩ := st
      subst ev
      refine ⟨lst_at o1 hg, e1, F1, O1, _, b1, o1, q, fun v2 H2 ⟨F2, O2, a2, e2, b2, o2, st2, fr2, q2⟩ => ?_⟩
      obtain ⟨F3, O3, ds, e3, b3, o3, r3, fr3, d, ds1, eds, hg3, hz, q3⟩ := absorb_ok (.cons st2 .nil) b2 o2 q2
      subst eds
      cases r3 with
      | cons r3 rn =>
        cases rn
        obtain ⟨xs, hH, rx, up⟩ := mutL b3 o3 hg3
        obtain ⟨O4, b4, o4, fr4⟩ := up (xs ++ [v2]) (ds1 ++ [d]) (rx.app (.cons r3 .nil))
        exact ⟨a, xs, v2, rfl, rfl, hH, by rw [rx.len]; exact hz, (post_val b4 o4 .non q3).from (((fr1.trans fr2).trans fr3).trans fr4)⟩⟩
theorem RpA.dropLast {F : Hp} {vs : List V} {ds : List D} (r : RpA F vs ds) : RpA F vs.dropLast ds.dropLast := by
  rw [List.dropLast_eq_take, List.dropLast_eq_take, r.len]
  exact r.take _
/-! ### for x, y in zip(t, u), t and u tuples -/
def zipD (xs ys : List D) : List D := (xs.zip ys).map fun p => .tuple [p.1, p.2]
end
end QL

/-! QZ: list(it) and tuple(it) where what the iterator gives is seen in the heap; zip of two tuples. -/
namespace QL
open PySem PySem.Spec PyProof.Rows L2

/-- an iterator at I that is walked into the list at S: the values so far, and what the heap then is -/
structure Src (prog : Program) (w : World) (A : Around) (S I : Addr) (wr : List Addr) (n : Nat) (St : Nat → List Value → Heap → Prop) (Fn : List Value → Heap → Prop) : Prop where
  notS : S ∉ wr
  neS : S ≠ I
  frame : ∀ i acc h h', St i acc h → (∀ b o, b ≠ S → h.get? b = some o → h'.get? b = some o) → (∃ o, h'.get? S = some o) → St i acc h'
  item : ∀ i acc (s : Shared) (Q : Option Value → Shared → Prop) (E : Value → Shared → Prop), i < n → St i acc s.heap →
    (∀ v h' tk, St (i + 1) (acc ++ [v]) h' → (∀ b o, b ∉ wr → s.heap.get? b = some o → h'.get? b = some o) → Q (some v) { s with heap := h', toks := tk }) → wpAny (model prog w) A (pyNext (.ref I)) Q E s
  done : ∀ acc (s : Shared) (Q : Option Value → Shared → Prop) (E : Value → Shared → Prop), St n acc s.heap →
    (∀ h' tk, Fn acc h' → (∀ b o, b ∉ wr → s.heap.get? b = some o → h'.get? b = some o) → Q none { s with heap := h', toks := tk }) → wpAny (model prog w) A (pyNext (.ref I)) Q E s
  self : ∀ acc (s : Shared) (Q : Value → Shared → Prop) (E : Value → Shared → Prop), St 0 acc s.heap → Q (.ref I) s → wpAny (model prog w) A (pyIter (.ref I)) Q E s
abbrev lstObj (acc : List Value) (c : Nat) : Obj := { cls := .type "list", data := .seq acc.toArray c }
section
variable {prog : Program} {w : World} {A : Around} {S I : Addr} {wr : List Addr} {n : Nat} {St : Nat → List Value → Heap → Prop} {Fn : List Value → Heap → Prop} {R : Result → Shared → Prop}
/-- the type of such an iterator tells no length -/
structure Mute (T : String) : Prop where
  len : typeLookup (.type T) "__len__" = pure none
  hint : typeLookup (.type T) "__length_hint__" = pure none
  nl : (Value.type T == Value.type "list") = false
  nt : (Value.type T == Value.type "tuple") = false
variable {E : Value → Shared → Prop} {s : Shared}
/-! ### zip of two tuples; the pairs it gives stay alive -/
section
variable {z TI TO T i1 i2 l1 l2 : Addr} {xs ys : Array Value} {k : Nat}
/-- the pairs so far -/
def Prs (h : Heap) (xs ys : Array Value) (acc : List Value) : Prop := ∀ (j : Nat) (v : Value), acc[j]? = some v → ∃ t x y, v = Value.ref t ∧ IsPair h t x y ∧ xs[j]? = some x ∧ ys[j]? = some y
open PySem.W in
structure Zst (S z TI TO i1 i2 l1 l2 : Addr) (xs ys : Array Value) (i : Nat) (acc : List Value) (h : Heap) : Prop where
  len : acc.length = i
  ex : ∃ o, h.get? S = some o
  ti : IsPair h TI (.ref i1) (.ref i2)
  to : ∃ a b, IsPair h TO a b
  a1 : h.IsTupleIter i1 l1 i
  a2 : h.IsTupleIter i2 l2 i
  t1 : h.IsTuple l1 xs
  t2 : h.IsTuple l2 ys
  prs : Prs h xs ys acc
  st : (i = 0 ∧ IsZip h z TI TO .none) ∨ ∃ T f oT, 0 < i ∧ IsZipHeld h z TI TO T f ∧ h.get? T = some oT ∧ T ≠ z ∧ T ≠ i1 ∧ T ≠ i2 ∧ T ≠ S
  out : ∀ (j : Nat) (t : Addr), acc[j]? = some (Value.ref t) → t ≠ z ∧ t ≠ TO ∧ t ≠ i1 ∧ t ≠ i2 ∧ t ≠ S ∧ z < t
structure Far (S z TI TO i1 i2 l1 l2 : Addr) : Prop where
  z : z ≠ S
  ti : TI ≠ S
  to : TO ≠ S
  i1 : i1 ≠ S
  i2 : i2 ≠ S
  l1 : l1 ≠ S
  l2 : l2 ≠ S
theorem Prs.snoc {h : Heap} {acc : List Value} {t : Addr} {x y : Value} (p : Prs h xs ys acc) (hp : IsPair h t x y) (hx : xs[acc.length]? = some x) (hy : ys[acc.length]? = some y) : Prs h xs ys (acc ++ [Value.ref t]) := fun j v e => by
  by_cases hj : j < acc.length
  · rw [List.getElem?_append_left hj] at e
    exact p j v e
  · rw [List.getElem?_append_right (by omega)] at e
    have ej : j - acc.length = 0 := by
      cases q : j - acc.length with
      | zero => rfl
      | succ m => rw [q] at e; cases e
    rw [ej] at e
    cases e
    have ej : j = acc.length := by omega
    subst ej
    exact ⟨t, x, y, rfl, hp, hx, hy⟩
theorem Prs.keep {h h' : Heap} {acc : List Value} (p : Prs h xs ys acc) (k : ∀ (j : Nat) (t : Addr) o, acc[j]? = some (Value.ref t) → h.get? t = some o → h'.get? t = some o) : Prs h' xs ys acc := fun j v e => by
  obtain ⟨t, x, y, ev, hp, hx, hy⟩ := p j v e
  subst ev
  exact ⟨t, x, y, rfl, k j t _ e hp, hx, hy⟩
end
end
end QL

/-! QY: many new objects at once; tuple(zip(t, u)), list(zip(t, u)). -/
namespace QL
open PySem PySem.Spec PyProof.Rows L2

/-- what was, and N from n on -/
def Hn (H : Hp) (n : Nat) (N : Hp) : Hp := fun b => if n ≤ b then N b else H b
theorem Hn_old {H N : Hp} {n : Nat} {b : Addr} (h : b < n) : Hn H n N b = H b := if_neg (Nat.not_le.mpr h)
theorem Hn_new {H N : Hp} {n : Nat} {b : Addr} (h : n ≤ b) : Hn H n N b = N b := if_pos h
theorem Inv.many {X : Cx} {pins : List (Addr × Obj)} {σ : L2.St} {H N : Hp} {s : Shared} {h' : Heap} {t' : Nat} (I : Inv X pins σ H s) (k : ∀ b u, s.heap.get? b = some u → h'.get? b = some u)
    (new : ∀ b o, s.heap.objs.size ≤ b → N b = some o → (∀ H' : Hp, ObjOk X.prog X.w H' h' b o)) : Inv X pins σ (Hn H s.heap.objs.size N) { s with heap := h', toks := t' } := by
  have old : ∀ {b : Addr} {o : HO}, H b = some o → Hn H s.heap.objs.size N b = some o := fun {b o} e => by rw [Hn_old (I.hok.lt e)]; exact e
  refine I.un (t' := t') ⟨fun b u q _ _ _ => k b u q, fun b u q _ _ _ => ⟨u.slots, k b u q⟩, fun b u q n _ => by rw [Hn_old (Heap.lt_size q)]; exact n, fun b u q _ => ⟨u, k b u q⟩, fun b xs q => old q, fun b u xs q => old q, fun b ps q => ⟨#[], by rw [old q]; simp⟩⟩ ?_
  intro a o e
  by_cases ha : s.heap.objs.size ≤ a
  · rw [Hn_new ha] at e
    exact new a o ha e _
  · rw [Hn_old (Nat.not_le.mp ha)] at e
    exact (I.hok a o e).stay (fun b u _ q => k b u q) (fun b q => old q) fun b xs q => old q
theorem NewV.many {F H NF N : Hp} {n : Nat} {k : T → Prop} {v : V} {t : T} {O' : List Addr} (sF : Same F H) (fresh : ∀ b, n ≤ b → H b = none) (sub : ∀ b o, n ≤ b → NF b = some o → N b = some o) (nd : O'.Nodup) (no : ∀ a ∈ O', n ≤ a ∧ NF a = none)
    (ow : Ow (Hn F n NF) (Hn H n N) O' v t) (h : k t) : NewV F H k v (Hn H n N) := by
  have lt : ∀ {b : Addr} {o : HO}, H b = some o → b < n := fun {b o} e => by
    rcases Nat.lt_or_ge b n with z | z
    · exact z
    · rw [fresh b z] at e; cases e
  refine ⟨Hn F n NF, O', t, fun b o e => ?_, fun b o e => by rw [Hn_old (lt e)]; exact e, fun b o e => ?_, fun b e => ?_, nd, fun a ha => ⟨fresh a (no a ha).1, by rw [Hn_new (no a ha).1]; exact (no a ha).2⟩, ow, h⟩
  · rw [Hn_old (lt (sF b o e))]; exact e
  · by_cases z : n ≤ b
    · rw [Hn_new z] at e ⊢; exact sub b o z e
    · rw [Hn_old (Nat.not_le.mp z)] at e ⊢; exact sF b o e
  · by_cases z : n ≤ b
    · exact .inr (fresh b z)
    · rw [Hn_old (Nat.not_le.mp z)] at e; exact .inl e

/-! ### the pairs that a walk over a zip has given -/
open Classical in
/-- pairs of values at the addresses in acc -/
noncomputable def prN (acc : List Value) (vs ws : List V) : Hp := fun b => if h : ∃ j : Nat, acc[j]? = some (Value.ref b) then (match vs[h.choose]?, ws[h.choose]? with | some v, some w => some (.tup [v, w]) | _, _ => none) else none
theorem prN_of {h : Heap} {xs ys acc : List Value} {vs ws : List V} {ds es : List D} {F : Hp} (rv : Vals vs xs) (rw_ : Vals ws ys) (r1 : RpA F vs ds) (r2 : RpA F ws es) (inj : ∀ (v1 v2 : V) (u : Value), L2.RelV v1 u → L2.RelV v2 u → v1 = v2) (p : Prs h xs.toArray ys.toArray acc) {j : Nat} {u : Value} (e : acc[j]? = some u) :
    ∃ b v w d1 d2, u = Value.ref b ∧ prN acc vs ws b = some (.tup [v, w]) ∧ ds[j]? = some d1 ∧ es[j]? = some d2 ∧ Rp F v d1 ∧ Rp F w d2 := by
  obtain ⟨t, x, y, rfl, hp, hx, hy⟩ := p _ _ e
  have hx' : xs[j]? = some x := by simpa using hx
  have hy' : ys[j]? = some y := by simpa using hy
  have gv : ∃ v, vs[j]? = some v ∧ L2.RelV v x := by
    cases q : vs[j]? with
    | none => rw [List.getElem?_eq_none_iff, rv.length, ← List.getElem?_eq_none_iff] at q; rw [q] at hx'; cases hx'
    | some v => obtain ⟨u, g, r⟩ := rv.get q; rw [g] at hx'; cases hx'; exact ⟨v, rfl, r⟩
  have gw : ∃ v, ws[j]? = some v ∧ L2.RelV v y := by
    cases q : ws[j]? with
    | none => rw [List.getElem?_eq_none_iff, rw_.length, ← List.getElem?_eq_none_iff] at q; rw [q] at hy'; cases hy'
    | some v => obtain ⟨u, g, r⟩ := rw_.get q; rw [g] at hy'; cases hy'; exact ⟨v, rfl, r⟩
  obtain ⟨v, g1, q1⟩ := gv
  obtain ⟨w, g2, q2⟩ := gw
  obtain ⟨d1, k1, s1⟩ := r1.get g1
  obtain ⟨d2, k2, s2⟩ := r2.get g2
  refine ⟨t, v, w, d1, d2, rfl, ?_, k1, k2, s1, s2⟩
  unfold prN
  have hj : ∃ j : Nat, acc[j]? = some (Value.ref t) := ⟨j, e⟩
  rw [dif_pos hj]
  -- another place of the same address bears the same values
  obtain ⟨t', x', y', et, hp', hx2, hy2⟩ := p _ _ hj.choose_spec
  cases et
  have ee := hp.symm.trans hp'
  simp only [Option.some.injEq, Obj.mk.injEq, Data.seq.injEq, true_and, and_true] at ee
  have exy : x = x' ∧ y = y' := by simpa using ee
  obtain ⟨rfl, rfl⟩ := exy
  have hx3 : xs[hj.choose]? = some x := by simpa using hx2
  have hy3 : ys[hj.choose]? = some y := by simpa using hy2
  have gv' : vs[hj.choose]? = some v := by
    cases q : vs[hj.choose]? with
    | none => rw [List.getElem?_eq_none_iff, rv.length, ← List.getElem?_eq_none_iff] at q; rw [q] at hx3; cases hx3
    | some v' => obtain ⟨u, g, r⟩ := rv.get q; rw [g] at hx3; cases hx3; rw [inj v' v _ r q1]
  have gw' : ws[hj.choose]? = some w := by
    cases q : ws[hj.choose]? with
    | none => rw [List.getElem?_eq_none_iff, rw_.length, ← List.getElem?_eq_none_iff] at q; rw [q] at hy3; cases hy3
    | some v' => obtain ⟨u, g, r⟩ := rw_.get q; rw [g] at hy3; cases hy3; rw [inj v' w _ r q2]
  rw [gv', gw']
def vOf : Value → Option V
  | .none => some .non
  | .bool b => some (.bl b)
  | .int i _ => some (.int i)
  | .str x _ => some (.str x)
  | .bytes x _ => some (.byt x)
  | .float x _ => some (.flt x)
  | .ref a => some (.ref a)
  | .type n => some (.ty n)
  | _ => none
theorem vOf_rel : ∀ (v : V) (u : Value), L2.RelV v u → vOf u = some v
  | .non, _, rfl => rfl
  | .bl _, _, rfl => rfl
  | .int _, _, ⟨_, rfl⟩ => rfl
  | .str _, _, ⟨_, rfl⟩ => rfl
  | .byt _, _, ⟨_, rfl⟩ => rfl
  | .flt _, _, ⟨_, rfl⟩ => rfl
  | .ref _, _, rfl => rfl
  | .ty _, _, rfl => rfl
theorem relV_inj (v1 v2 : V) (u : Value) (h1 : L2.RelV v1 u) (h2 : L2.RelV v2 u) : v1 = v2 := Option.some.inj ((vOf_rel _ _ h1).symm.trans (vOf_rel _ _ h2))
theorem RpA.of_get {F : Hp} : ∀ {vs : List V} {ds : List D}, vs.length = ds.length → (∀ (j : Nat) v, vs[j]? = some v → ∃ d, ds[j]? = some d ∧ Rp F v d) → RpA F vs ds
  | [], [], _, _ => .nil
  | [], _ :: _, h, _ => nomatch h
  | _ :: _, [], h, _ => nomatch h
  | v :: vs, d :: ds, h, k => by
    obtain ⟨d', e, r⟩ := k 0 v rfl
    cases e
    exact .cons r (RpA.of_get (Nat.succ.inj h) fun j v e => k (j + 1) v e)
/-- what is known behind a walk over zip(t, u) into a list or a tuple; n: where new objects begin -/
structure ZipGot (F : Hp) (n : Nat) (ds es : List D) (h' : Heap) (acc : List Value) (vs ws : List V) (us ts : List Value) : Prop where
  prs : Prs h' us.toArray ts.toArray acc
  len : acc.length = min us.length ts.length
  r1 : RpA F vs ds
  r2 : RpA F ws es
  v1 : Vals vs us
  v2 : Vals ws ts
  ge : ∀ (j : Nat) (t : Addr), acc[j]? = some (Value.ref t) → n ≤ t
  old : ∀ b o, F b = some o → b < n
def refV : Value → V
  | .ref t => .ref t
  | _ => .non
theorem ZipGot.tups {F : Hp} {n : Nat} {ds es : List D} {h' : Heap} {acc : List Value} {vs ws : List V} {us ts : List Value} (g : ZipGot F n ds es h' acc vs ws us ts) :
    Vals (acc.map refV) acc ∧ RpA (Hn F n (prN acc vs ws)) (acc.map refV) (zipD ds es) := by
  have sF : Same F (Hn F n (prN acc vs ws)) := fun b o e => by rw [Hn_old (g.old b o e)]; exact e
  have each := fun {j : Nat} {u : Value} (e : acc[j]? = some u) => prN_of g.v1 g.v2 g.r1 g.r2 relV_inj g.prs e
  refine ⟨?_, RpA.of_get ?_ fun j v e => ?_⟩
  · have : ∀ (l : List Value), (∀ u ∈ l, ∃ b, u = Value.ref b) → Vals (l.map refV) l := fun l => by
      induction l with
      | nil => intro _; exact .nil
      | cons u l ih =>
        intro h
        obtain ⟨b, rfl⟩ := h u List.mem_cons_self
        exact .cons rfl (ih fun u hu => h u (List.mem_cons_of_mem _ hu))
    refine this acc fun u hu => ?_
    obtain ⟨j, hj⟩ := List.getElem?_of_mem hu
    obtain ⟨b, v, w, d1, d2, e, _⟩ := each hj
    exact ⟨b, e⟩
  · unfold zipD
    rw [List.length_map, List.length_map, List.length_zip, g.len, ← g.v1.length, ← g.v2.length, g.r1.len, g.r2.len]
  · rw [List.getElem?_map, Option.map_eq_some_iff] at e
    obtain ⟨u, hu, ev⟩ := e
    obtain ⟨b, v1, w1, d1, d2, e1, e2, e3, e4, q1, q2⟩ := each hu
    subst e1
    subst ev
    refine ⟨.tuple [d1, d2], ?_, .tup ?_ (.cons (q1.mono sF) (.cons (q2.mono sF) .nil))⟩
    · unfold zipD
      rw [List.getElem?_map, show (ds.zip es)[j]? = some (d1, d2) from List.getElem?_zip_eq_some.mpr ⟨e3, e4⟩]
      rfl
    · refine .inl ?_
      rw [Hn_new (g.ge j b hu)]
      exact e2
end QL

/-! QJ: a law row's end, from the promise (FnG) of its def; tables of code objects. -/
namespace QL
open PySem PySem.Spec PyProof.Rows L2

/-- what is tracked at the start: the script alone, or nothing; and the tables -/
structure Start (P : Program) (w : World) (K : PySem.W.Frag) (h : Heap) (a : Addr) (ns : List Int) (Ts Es : List Addr) (H F : Hp) : Prop where
  one : ∀ c, F c ≠ none → (c = a ∨ c ∈ Es) ∧ K.lookup c = none ∧ ∃ o u, h.get? c = some o ∧ F c = some (.frz o u)
  em : ∀ c ∈ Es, ∃ o, F c = some (.frz o (.tup []))
  tb : ∀ c, c ∈ Ts → H c = some (.tbl #[])
  nt : ∀ c, c ∉ Ts → H c = F c
  sub : Same F H
  ok : HOk P w H h
  sq : SqL K F a (ns.map V.int)
/-- the empty tuples that are told apart from the rest -/
def EmAt (K : PySem.W.Frag) (h : Heap) (Es : List Addr) : Prop := ∀ c ∈ Es, K.lookup c = none ∧ ∃ o n, h.get? c = some o ∧ o.cls = .type "tuple" ∧ o.data = .seq #[] n
theorem start_of {P : Program} {w : World} {K : PySem.W.Frag} {h : Heap} {a : Addr} {vs : List Value} {ns : List Int} {Ts Es : List Addr} (KX : K.In h) (ha : h.get? a = some { cls := .type "list", data := .seq vs.toArray }) (hi : IntsAre vs ns) (hl : ns.length ≤ sizeLine)
    (hT : ∀ c ∈ Ts, h.get? c = some { cls := .none, data := .fields #[] }) (hE : EmAt K h Es) : ∃ H F, Start P w K h a ns Ts Es H F := by
  have rv := vals_ints hi
  have aT : a ∉ Ts := fun z => by
    have q := hT a z
    rw [ha] at q
    have z' : Data.seq vs.toArray _ = Data.fields #[] := congrArg Obj.data (Option.some.inj q)
    cases z'
  have aE : a ∉ Es := fun z => by
    obtain ⟨_, o, n, e1, e2, _⟩ := hE a z
    rw [ha] at e1
    cases e1
    exact absurd (show Value.type "list" = Value.type "tuple" from e2) (by decide)
  have eT : ∀ c ∈ Es, c ∉ Ts := fun c hc z => by
    obtain ⟨_, o, n, e1, _, e3⟩ := hE c hc
    rw [hT c z] at e1
    cases e1
    cases e3
  have main : ∀ F0 : Hp, (∀ c, F0 c ≠ none → c = a ∧ K.lookup c = none ∧ ∃ o, h.get? c = some o ∧ F0 c = some (.frz o (.lst (ns.map V.int)))) → HOk P w F0 h → SqL K F0 a (ns.map V.int) → ∃ H F, Start P w K h a ns Ts Es H F := fun F0 h1 h2 h3 => by
    let F : Hp := fun b => if b ∈ Es then (h.get? b).map fun o => HO.frz o (.tup []) else F0 b
    have fE : ∀ c ∈ Es, ∃ o, h.get? c = some o ∧ F c = some (.frz o (.tup [])) := fun c hc => by
      obtain ⟨_, o, n, e1, _, _⟩ := hE c hc
      exact ⟨o, e1, (if_pos hc).trans (by rw [e1]; rfl)⟩
    have fN : ∀ c, c ∉ Es → F c = F0 c := fun c hc => if_neg hc
    have one : ∀ c, F c ≠ none → (c = a ∨ c ∈ Es) ∧ K.lookup c = none ∧ ∃ o u, h.get? c = some o ∧ F c = some (.frz o u) := fun c hc => by
      by_cases z : c ∈ Es
      · obtain ⟨o, e1, e2⟩ := fE c z
        exact ⟨.inr z, (hE c z).1, o, _, e1, e2⟩
      · rw [fN c z] at hc ⊢
        obtain ⟨k1, k2, o, k3, k4⟩ := h1 c hc
        exact ⟨.inl k1, k2, o, _, k3, k4⟩
    have ok : HOk P w F h := fun c u hc => by
      by_cases z : c ∈ Es
      · obtain ⟨o, e1, e2⟩ := fE c z
        obtain ⟨_, o', n, e3, e4, e5⟩ := hE c z
        rw [e2] at hc
        cases hc
        rw [e1] at e3
        cases e3
        exact ⟨e1, Nat.zero_le _, [], .nil, o, e1, e4, n, e5⟩
      · rw [fN c z] at hc
        obtain ⟨k1, k2, o, k3, k4⟩ := h1 c (by rw [hc]; exact fun z => nomatch z)
        have q := h2 c u hc
        rw [k4] at hc
        cases hc
        exact q
    have sq : SqL K F a (ns.map V.int) := by
      rcases h3 with h3 | h3
      · refine .inl ?_
        rcases h3 with h3 | ⟨o, h3⟩
        · exact .inl ((fN a aE).trans h3)
        · exact .inr ⟨o, (fN a aE).trans h3⟩
      · exact .inr h3
    have sub : ∀ c u, F c = some u → (if c ∈ Ts then some (HO.tbl #[]) else F c) = some u := fun c u hc => by
      have : c ∉ Ts := fun z => by
        rcases (one c (by rw [hc]; exact fun z => nomatch z)).1 with y | y
        · exact aT (y ▸ z)
        · exact eT c y z
      exact (if_neg this).trans hc
    refine ⟨fun b => if b ∈ Ts then some (.tbl #[]) else F b, F, one, fun c hc => ?_, fun c hc => if_pos hc, fun c hc => if_neg hc, sub, fun c u hc => ?_, sq⟩
    · obtain ⟨o, _, e2⟩ := fE c hc
      exact ⟨o, e2⟩
    · by_cases z : c ∈ Ts
      · have hc' := (if_pos z).symm.trans hc
        cases hc'
        exact hT c z
      · have hc' : F c = some u := (if_neg z).symm.trans hc
        exact (ok c u hc').stay (fun _ _ _ z => z) (fun b z => sub b _ z) fun b xs z => sub b _ z
  by_cases hk : K.lookup a = none
  · refine main (fun b => if b = a then some (.frz { cls := .type "list", data := .seq vs.toArray } (.lst (ns.map V.int))) else none) (fun c hc => ?_) (fun c u hc => ?_) (.inl (.inr ⟨_, if_pos rfl⟩))
    · by_cases z : c = a
      · subst z; exact ⟨rfl, hk, _, ha, if_pos rfl⟩
      · rw [if_neg z] at hc; exact absurd rfl hc
    · by_cases z : c = a
      · subst z
        have hc' := (if_pos rfl).symm.trans hc
        cases hc'
        exact ⟨ha, by rw [List.length_map]; exact hl, vs, _, rv, ha⟩
      · have hc' := (if_neg z).symm.trans hc
        cases hc'
  · obtain ⟨o, ho⟩ := Option.ne_none_iff_exists'.mp hk
    have e := KX a o ho
    rw [ha] at e
    cases e
    refine main (fun _ => none) (fun _ z => absurd rfl z) (fun _ _ z => (nomatch z)) (.inr ⟨_, vs.toArray, _, ho, rfl, rfl, rfl, ?_, by simpa using rv⟩)
    rw [List.size_toArray, hi.length]
    exact hl
/-- a code object, its table, the name of what the table tells -/
abbrev Cs := List (Addr × Addr × Str)
abbrev Cs.tq (cs : Cs) : List (Addr × Str) := cs.map (·.2)
/-- the tables, and the empty tuples -/
abbrev Cs.tqE (cs : Cs) (Es : List Addr) : List (Addr × Str) := cs.tq ++ Es.map fun e => (e, ("()" : Str))
theorem law_goesE {P : Program} {w : World} {K : PySem.W.Frag} {mg mb : Str → Option Value} {k : Nat} {fa a : Addr} {fd : FuncData} {x : Str} {sp : Spc} {s : Shared} {vs : List Value} {ns : List Int} {cs : Cs} {Es : List Addr} (hE : EmAt K s.heap Es) (hq : ∀ p ∈ cs, p.2.2 ≠ "()")
    (KX : K.In s.heap) (hns : s.heap.Ns mainGlobals mg) (hb : s.heap.Ns builtinsNs mb) (hbb : ∀ x : Str, x ≠ "__name__" → mb x = bootBuiltins x) (hlim : s.heap.NoLimit) (hg : s.gens = #[])
    (hT : ∀ p ∈ cs, s.heap.get? p.2.1 = some { cls := .none, data := .fields #[] }) (nT : ∀ p ∈ cs, K.lookup p.2.1 = none) (C : ∀ p ∈ cs, PySem.W.CodeHd s.heap p.1 p.2.1)
    (hbm : ∃ (bm : Addr) (ob : Obj), mg "__builtins__" = some (.ref bm) ∧ bm ≠ builtinsNs ∧ s.heap.get? bm = some ob ∧ ob.cls = .type "module" ∧ ob.dict = some builtinsNs ∧ ob.data = .plain)
    (ha : s.heap.get? a = some { cls := .type "list", data := .seq vs.toArray }) (hi : IntsAre vs ns) (hl : ns.length ≤ sizeLine) (hr : Room k callerA)
    (F : ∀ base : Heap, K.In base → base.Ns mainGlobals mg → (∀ p ∈ cs, LamX.TabB base mg p.1 p.2.1) → FnG P w K mg base (cs.tqE Es) k fa fd [x] sp) (hbind : ∀ (s : Shared) (u : Value), BindsTo s fd ⟨[u], []⟩ [(x, u)])
    (hsp : sp [scT K a ns] (fun t _ => t = .va (.bool true)) fun _ _ => False) :
    codeAny (model P w) callerA (.call (.ref fa) ⟨[.ref a], []⟩) (fun r s' => r = .ok (.ret (.bool true)) ∧ PySem.OldK s.heap s'.heap ∧ s'.os = s.os ∧ AllBare s'.gens) s := by
  have hTs : ∀ c ∈ cs.map (·.2.1), s.heap.get? c = some { cls := .none, data := .fields #[] } := fun c hc => by
    obtain ⟨p, hp, e⟩ := List.mem_map.mp hc
    rw [← e]
    exact hT p hp
  obtain ⟨H, F0, S⟩ := start_of (P := P) (w := w) (K := K) KX ha hi hl hTs hE
  have none_if : ∀ {c : Addr} {o : Obj}, s.heap.get? c = some o → (∀ ys n, o.data ≠ .seq ys n) → o.data ≠ .fields #[] → H c = none := fun {c o} e hd hf => by
    by_cases z : c ∈ cs.map (·.2.1)
    · rw [hTs c z] at e
      cases e
      exact absurd rfl hf
    · rw [S.nt c z]
      cases q : F0 c with
      | none => rfl
      | some u =>
        obtain ⟨h1, _, o', _, ho', _⟩ := S.one c (by rw [q]; exact fun z => nomatch z)
        rcases h1 with rfl | h1
        · rw [ha] at e
          cases e
          exact absurd rfl (hd _ _)
        · obtain ⟨_, o9, n9, e9, _, d9⟩ := hE c h1
          rw [e] at e9
          cases e9
          exact absurd d9 (hd _ _)
  have ns_ : ∀ {c : Addr} {m : Str → Option Value}, s.heap.Ns c m → (hidT s.heap H).Ns c m := fun {c m} ⟨o, es, ep, e, d, r⟩ => ⟨o, es, ep, hidT_get e (none_if e (fun ys n z => by rw [d] at z; cases z) fun z => by rw [d] at z; cases z), d, r⟩
  have kin : K.In (hidT s.heap H) := fun c o e => hidT_get (KX c o e) (by
    by_cases z : c ∈ cs.map (·.2.1)
    · obtain ⟨p, hp, ep⟩ := List.mem_map.mp z
      rw [← ep, nT p hp] at e
      cases e
    · rw [S.nt c z]
      cases q : F0 c with
      | none => rfl
      | some u =>
        obtain ⟨_, q2, _⟩ := S.one c (by rw [q]; exact fun z => nomatch z)
        rw [e] at q2
        cases q2)
  have lim : (hidT s.heap H).NoLimit := let ⟨mc, h1, h2⟩ := hlim; ⟨mc, ns_ h1, h2⟩
  have env : Env0 P w K mg (hidT s.heap H) callerA [] s H := by
    refine ⟨rfl, ⟨kin, ns_ hns, ⟨mb, ns_ hb, hbb⟩, lim⟩, fun b o e => of_hidT e, Nat.le_of_eq (hidT_size _ _), trivial, fun b hb => ?_, S.ok, .of_eq hg⟩
    exact absurd (show b ∈ ([] : List Addr) from hb) List.not_mem_nil
  have TB : ∀ p ∈ cs, LamX.TabB (hidT s.heap H) mg p.1 p.2.1 := fun p hp => by
    have hTp := hT p hp
    refine ⟨?_, ?_, fun z => ?_⟩
    · obtain ⟨o, us, file, tf, flags, tg, inF, text, tt, e1, r1, r2, r3, r4, r5, r6, r7, r8, hne⟩ := C p hp
      refine ⟨o, us, file, tf, flags, tg, inF, text, tt, hidT_get e1 (none_if e1 (fun vs n z => ?_) fun z => ?_), r1, r2, r3, r4, r5, r6, r7, r8, hne⟩
      · rw [r2] at z
        cases z
      · rw [r2] at z
        cases z
        simp at r3
    · obtain ⟨bm, ob, b1, b2, b3, b4, b5, b6⟩ := hbm
      have nG : bm ≠ mainGlobals := fun q => by
        obtain ⟨o, es, ep, e, hd, _⟩ := hns
        rw [q, e] at b3
        cases b3
        rw [hd] at b6
        cases b6
      have nP : bm ≠ p.2.1 := fun q => by
        rw [q, hTp] at b3
        cases b3
        cases b6
      refine ⟨bm, ob, b1, b2, nG, nP, hidT_get b3 (none_if b3 (fun vs n z => ?_) fun z => ?_), b4, b5, b6⟩
      · rw [b6] at z
        cases z
      · rw [b6] at z
        cases z
    · obtain ⟨o, es, ep, e, hd, _⟩ := hns
      rw [z, hTp] at e
      cases e
      cases hd
  have aT : a ∉ cs.map (·.2.1) := fun z => by
    have q := hTs a z
    rw [ha] at q
    have z' : Data.seq vs.toArray _ = Data.fields #[] := congrArg Obj.data (Option.some.inj q)
    cases z'
  have ofT : ∀ p ∈ cs.tqE Es, p.2 ≠ "()" → ∃ c ∈ cs, c.2 = p := fun p hp ne => by
    rcases List.mem_append.mp hp with z | z
    · obtain ⟨c, hc, e⟩ := List.mem_map.mp z
      exact ⟨c, hc, e⟩
    · obtain ⟨c, _, e⟩ := List.mem_map.mp z
      rw [← e] at ne
      exact absurd rfl ne
  have ofE : ∀ p ∈ cs.tqE Es, p.2 = "()" → p.1 ∈ Es := fun p hp e => by
    rcases List.mem_append.mp hp with z | z
    · obtain ⟨c, hc, e2⟩ := List.mem_map.mp z
      rw [← e2] at e
      exact absurd e (hq c hc)
    · obtain ⟨c, hc, e2⟩ := List.mem_map.mp z
      rw [← e2]; exact hc
  have tz1 : ∀ p ∈ cs.tqE Es, p.2 ≠ "()" → LamX.TabS H p.1 p.2 := fun p hp ne => by
    obtain ⟨c, hc, e⟩ := ofT p hp ne
    refine LamX.TabS.nil (S.tb _ (List.mem_map.mpr ⟨c, hc, ?_⟩))
    rw [← e]
  have tz2 : ∀ p ∈ cs.tqE Es, p.2 ≠ "()" → F0 p.1 = none := fun p hp ne => by
    cases q : F0 p.1 with
    | none => rfl
    | some u =>
      obtain ⟨c, hc, e⟩ := ofT p hp ne
      obtain ⟨e2, _⟩ := S.one p.1 (by rw [q]; exact fun z => nomatch z)
      rcases e2 with e2 | e2
      · exact absurd (List.mem_map.mpr ⟨c, hc, by rw [← e2, ← e]⟩) aT
      · obtain ⟨_, o9, n9, e9, _, d9⟩ := hE p.1 e2
        rw [hTs p.1 (List.mem_map.mpr ⟨c, hc, by rw [← e]⟩)] at e9
        cases e9
        cases d9
  have tz4 : ∀ p ∈ cs.tqE Es, p.2 = "()" → Rd F0 p.1 (.tup []) := fun p hp e => by
    obtain ⟨o, z⟩ := S.em _ (ofE p hp e)
    exact .inr ⟨o, z⟩
  have tabz : TabZ (cs.tqE Es) H F0 [] := ⟨tz1, tz2, (fun _ _ _ z => nomatch z), tz4⟩
  have bas : Bas ⟨H, F0, [], tabz⟩ F0 H [] := ⟨S.sub, List.nodup_nil, fun _ z => (nomatch z), Frm.refl _ _ _⟩
  have args : StV F0 H [] [.ref a] [scT K a ns] := by
    have := StV.cons (O1 := []) (O2 := []) (scT_ow (F := F0) (H := H) S.sq) .nil
    exact this
  refine codeAny_mono ((F _ kin (ns_ hns) TB).run callerA [] s H ⟨[.ref a], []⟩ [.ref a] [.ref a] F0 [] _ _ _ (fun _ _ _ => False) tabz hr rfl env (hbind s (.ref a)) (.cons rfl .nil) bas args hsp fun _ _ _ _ _ _ _ _ _ _ q => q) fun r s' h => ?_
  cases r with
  | error e =>
    obtain ⟨_, _, _, _, _, _, _, _, _, _, _, _, q⟩ := h
    exact q.elim
  | ok fl =>
    cases fl with
    | next => exact h.elim
    | brk => exact h.elim
    | cont => exact h.elim
    | ret u =>
      obtain ⟨v, H', os, bare, un, hok', rv', F', O1, O2, t, ts', _, _, ow, et⟩ := h
      subst et
      have ev : v = .bl true := by
        cases ow with
        | va r => cases r; rfl
      subst ev
      obtain rfl : u = Value.bool true := rv'
      have key : ∀ b o, b ∉ cs.map (·.2.1) → s.heap.get? b = some o → s'.heap.get? b = some o := fun b o nb e => by
        by_cases q : H b = none
        · exact un.keep b o e q (fun z => absurd (show b ∈ ([] : List Addr) from z) List.not_mem_nil) List.not_mem_nil
        · have eF := S.nt b nb
          obtain ⟨_, _, o', u', ho', hb'⟩ := S.one b (by rw [← eF]; exact q)
          rw [e] at ho'
          cases ho'
          exact (hok' b _ (un.frzs b _ _ (eF.trans hb'))).1
      have grown : ∀ p ∈ cs, ∃ more : Array Value, s'.heap.get? p.2.1 = some { cls := .none, data := .fields more } := fun p hp => by
        obtain ⟨more, z⟩ := un.tbls p.2.1 #[] (S.tb _ (List.mem_map.mpr ⟨p, hp, rfl⟩))
        exact ⟨_, hok' p.2.1 _ z⟩
      refine ⟨rfl, ⟨fun b o e => ?_, fun b o e => ?_⟩, os, bare⟩
      · by_cases hb : b ∈ cs.map (·.2.1)
        · obtain ⟨p, hp, ep⟩ := List.mem_map.mp hb
          obtain ⟨more, hm⟩ := grown p hp
          rw [← ep] at e ⊢
          rw [hT p hp] at e
          cases e
          exact .inr (.inl ⟨((C p hp).tab (hT p hp)).isCodeTable, rfl, #[], more, rfl, by rw [Array.empty_append]; exact hm⟩)
        · exact .inl (key b o hb e)
      · by_cases hb : b ∈ cs.map (·.2.1)
        · obtain ⟨p, hp, ep⟩ := List.mem_map.mp hb
          obtain ⟨more, hm⟩ := grown p hp
          rw [← ep]
          exact ⟨_, hm⟩
        · exact ⟨o, key b o hb e⟩
theorem law_goes {P : Program} {w : World} {K : PySem.W.Frag} {mg mb : Str → Option Value} {k : Nat} {fa a : Addr} {fd : FuncData} {x : Str} {sp : Spc} {s : Shared} {vs : List Value} {ns : List Int} {cs : Cs}
    (KX : K.In s.heap) (hns : s.heap.Ns mainGlobals mg) (hb : s.heap.Ns builtinsNs mb) (hbb : ∀ x : Str, x ≠ "__name__" → mb x = bootBuiltins x) (hlim : s.heap.NoLimit) (hg : s.gens = #[])
    (hT : ∀ p ∈ cs, s.heap.get? p.2.1 = some { cls := .none, data := .fields #[] }) (nT : ∀ p ∈ cs, K.lookup p.2.1 = none) (C : ∀ p ∈ cs, PySem.W.CodeHd s.heap p.1 p.2.1)
    (hbm : ∃ (bm : Addr) (ob : Obj), mg "__builtins__" = some (.ref bm) ∧ bm ≠ builtinsNs ∧ s.heap.get? bm = some ob ∧ ob.cls = .type "module" ∧ ob.dict = some builtinsNs ∧ ob.data = .plain)
    (ha : s.heap.get? a = some { cls := .type "list", data := .seq vs.toArray }) (hi : IntsAre vs ns) (hl : ns.length ≤ sizeLine) (hr : Room k callerA)
    (F : ∀ base : Heap, K.In base → base.Ns mainGlobals mg → (∀ p ∈ cs, LamX.TabB base mg p.1 p.2.1) → FnG P w K mg base cs.tq k fa fd [x] sp) (hbind : ∀ (s : Shared) (u : Value), BindsTo s fd ⟨[u], []⟩ [(x, u)])
    (hsp : sp [scT K a ns] (fun t _ => t = .va (.bool true)) fun _ _ => False) (hq : ∀ p ∈ cs, p.2.2 ≠ "()") :
    codeAny (model P w) callerA (.call (.ref fa) ⟨[.ref a], []⟩) (fun r s' => r = .ok (.ret (.bool true)) ∧ PySem.OldK s.heap s'.heap ∧ s'.os = s.os ∧ AllBare s'.gens) s :=
  law_goesE (Es := []) (fun _ z => nomatch z) hq KX hns hb hbb hlim hg hT nT C hbm ha hi hl hr (fun base h1 h2 h3 => by
    have := F base h1 h2 h3
    show FnG P w K mg base (cs.map (·.2) ++ []) k fa fd [x] sp
    rw [List.append_nil]
    exact this) hbind hsp
/-- what the head tells of the code objects and tables cs -/
structure CsAt (K : PySem.W.Frag) (h : Heap) (cs : Cs) : Prop where
  hT : ∀ p ∈ cs, h.get? p.2.1 = some { cls := .none, data := .fields #[] }
  nT : ∀ p ∈ cs, K.lookup p.2.1 = none
  C : ∀ p ∈ cs, PySem.W.CodeHd h p.1 p.2.1
  nq : ∀ p ∈ cs, p.2.2 ≠ "()"
theorem CsAt.nil {K : PySem.W.Frag} {h : Heap} : CsAt K h [] := ⟨fun _ z => (nomatch z), fun _ z => (nomatch z), fun _ z => (nomatch z), fun _ z => (nomatch z)⟩
theorem CsAt.cons {K : PySem.W.Frag} {h : Heap} {c P : Addr} {q : Str} {cs : Cs} (a : PySem.W.CodeHd h c P ∧ h.get? P = some (PySem.W.tabObj #[])) (n : K.lookup P = none) (nq : q ≠ "()") (r : CsAt K h cs) : CsAt K h ((c, P, q) :: cs) :=
  ⟨fun p hp => (List.mem_cons.mp hp).elim (fun e => by rw [e]; exact a.2) (r.hT p), fun p hp => (List.mem_cons.mp hp).elim (fun e => by rw [e]; exact n) (r.nT p), fun p hp => (List.mem_cons.mp hp).elim (fun e => by rw [e]; exact a.1) (r.C p), fun p hp => (List.mem_cons.mp hp).elim (fun e => by rw [e]; exact nq) (r.nq p)⟩
end QL

/-! QX: defs that are called by name; small laws. -/
namespace QL
open PySem PySem.Spec PyProof.Rows L2

theorem takes_no {Tq : List (Addr × Str)} {Z : Zb Tq} {X : Cx} : Takes X (wxOf Z fun _ _ => False) := fun u s' ⟨a, B, sI, pins, σ, H, cls, d, e, I, nb, up, sky, na, os, ag, F, O, env, ex, b, o, xa, q⟩ => q.elim
/-- a def of the module that may be called -/
structure Df (P : Program) (w : World) (K : PySem.W.Frag) (mg : Str → Option Value) (base : Heap) (Tq : List (Addr × Str)) (k : Nat) (x : Str) (ps : List Str) (sp : Spc) : Prop where
  ex : ∃ (f : Addr) (fd : FuncData), FnG P w K mg base Tq k f fd ps sp ∧ mg x = some (.ref f) ∧ PySem.W.keepIn K (.ref f) = true ∧ Binds K fd ps []
/-- the same, by the names ks, of which the places ns are the parameters in their order -/
structure Dk (P : Program) (w : World) (K : PySem.W.Frag) (mg : Str → Option Value) (base : Heap) (Tq : List (Addr × Str)) (k : Nat) (x : Str) (ps ks : List Str) (ns : List Nat) (sp : Spc) : Prop where
  ex : ∃ (f : Addr) (fd : FuncData), FnG P w K mg base Tq k f fd ps sp ∧ mg x = some (.ref f) ∧ PySem.W.keepIn K (.ref f) = true ∧ KwOk K fd ps ks ns
theorem Df.mono {P : Program} {w : World} {K : PySem.W.Frag} {mg : Str → Option Value} {base : Heap} {Tq : List (Addr × Str)} {j k : Nat} {x : Str} {ps : List Str} {sp : Spc} (G : Df P w K mg base Tq j x ps sp) (h : j ≤ k) : Df P w K mg base Tq k x ps sp :=
  let ⟨f, fd, g, r⟩ := G.ex; ⟨f, fd, g.mono h, r⟩
theorem Dk.mono {P : Program} {w : World} {K : PySem.W.Frag} {mg : Str → Option Value} {base : Heap} {Tq : List (Addr × Str)} {j k : Nat} {x : Str} {ps ks : List Str} {ns : List Nat} {sp : Spc} (G : Dk P w K mg base Tq j x ps ks ns sp) (h : j ≤ k) : Dk P w K mg base Tq k x ps ks ns sp :=
  let ⟨f, fd, g, r⟩ := G.ex; ⟨f, fd, g.mono h, r⟩
section
variable {Tq : List (Addr × Str)} {Z : Zb Tq} {X : Cx} {e : Expr} {es : List Expr} {env : Env} {pos p : Pos} {P : R → Env → Prop} {k : Nat} {x : Str} {ps ks : List Str} {ns : List Nat} {sp : Spc} {kws : List Keyword}
theorem w_fn (G : Df X.prog X.w X.K X.mg X.base Tq k x ps sp) (hr : Room k X.A) (hgd : X.A.guards = some []) (h : WAs Z X (e :: es) env fun as e1 => callD sp as e1 (fun t e => P (.t t) e) fun _ _ => False)
    (hg : Gl X x := by rfl) (hdb : (x == ("__debug__" : Str)) = false := by decide) (he : starEach (e :: es) X.env = (false, eval e X.env) :: starEach es X.env := by rfl) (hpl : (backTo pos (starEach es X.env)).any (·.1) = false := by rfl) :
    WE Z X (.Call (.Name x p) (e :: es) [] pos) env P := by
  obtain ⟨f, fd, g, hm, hk, hb⟩ := G.ex
  refine w_call (dds := []) (vds := []) g hr hgd takes_no hm hk hb .nil (fun _ => .nil) ?_ hg hdb he hpl
  simpa only [vaAll, List.map_nil, List.append_nil] using h
end
/-! ### lists of ints -/
abbrev iDs (ns : List Int) : List D := ns.map PyData.int
theorem small2000 {n : Nat} (h : n ≤ 2000) : n < sizeLine := Nat.lt_of_le_of_lt h (by decide)
theorem atI_last' {α : Type} {xs : List α} {z : α} (h : xs.getLast? = some z) : atI xs (-1) = some z := by
  obtain ⟨ys, rfl⟩ := List.getLast?_eq_some_iff.mp h
  exact atI_last ys z
theorem atI_map {α β : Type} (f : α → β) {xs : List α} {i : Int} {x : α} (h : atI xs i = some x) : atI (xs.map f) i = some (f x) := by
  unfold atI at h ⊢
  rw [List.length_map]
  cases hn : ixN xs.length i with
  | none => rw [hn] at h; cases h
  | some k =>
    rw [hn] at h
    have h : xs[k]? = some x := h
    show (xs.map f)[k]? = some (f x)
    rw [List.getElem?_map, h]
    rfl
theorem cutD_map {α : Type} (f : α → D) (xs : List α) (lo hi : Option Int) : cutD (xs.map f) lo hi = ((xs.drop (HT.sIx xs.length 0 lo)).take (HT.sIx xs.length xs.length hi - HT.sIx xs.length 0 lo)).map f := by
  unfold cutD
  rw [List.length_map, List.map_take, List.map_drop]
theorem room64 {k : Nat} {A : Around} (hr : Room k A) : A.units + 64 < cLine := by have := hr.un; omega
theorem room110 {k : Nat} {A : Around} (hr : Room k A) : A.units + 110 < cLine := by have := hr.un; omega
theorem rangeD_len (lo : Int) (n : Nat) : (rangeD lo n).length = n := by unfold rangeD; rw [List.length_map, List.length_range]
theorem rangeD_at {lo : Int} {n j : Nat} {d : D} (h : (rangeD lo n)[j]? = some d) : d = .int (lo + j) ∧ j < n := by
  unfold rangeD at h
  rw [List.getElem?_map, Option.map_eq_some_iff] at h
  obtain ⟨k, hk, e⟩ := h
  have hj : j < n := by
    have := (List.getElem?_eq_some_iff.mp hk).1
    simpa using this
  rw [List.getElem?_range hj] at hk
  cases hk
  exact ⟨e.symm, hj⟩
end QL

/-! QK: own classes: fields read and stored, methods called, instances made. -/
namespace QL
open PySem PySem.Spec PyProof.Rows L2

def putT (f : Str) (u : T) : List (Str × T) → List (Str × T)
  | [] => [(f, u)]
  | (g, t) :: r => if g = f then (g, u) :: r else (g, t) :: putT f u r
theorem OwF.put {F H : Hp} {f : Str} {u : T} {w : V} {Ou : List Addr} (hu : Ow F H Ou w u) : ∀ {fs : List (Str × T)} {vs : List (Str × V)} {O : List Addr}, OwF F H O vs fs → ∃ O' Od, OwF F H O' (putF f w vs) (putT f u fs) ∧ (O ++ Ou).Perm (O' ++ Od)
  | [], _, _, .nil => ⟨Ou ++ [], [], .cons hu .nil, by rw [List.append_nil, List.append_nil]; exact List.Perm.refl _⟩
  | (n, t) :: fs, _, _, .cons (O1 := O1) (O2 := O2) h r => by
    by_cases e : n = f
    · refine ⟨Ou ++ O2, O1, ?_, ?_⟩
      · show OwF F H _ (if n = f then _ else _) (if n = f then _ else _)
        rw [if_pos e, if_pos e]
        exact .cons hu r
      · rw [List.append_assoc]
        refine List.perm_append_comm.trans ?_
        exact (List.perm_append_comm (l₁ := O2)).append_right O1
    · obtain ⟨O', Od, q, p⟩ := OwF.put (f := f) hu r
      refine ⟨O1 ++ O', Od, ?_, ?_⟩
      · show OwF F H _ (if n = f then _ else _) (if n = f then _ else _)
        rw [if_neg e, if_neg e]
        exact .cons h q
      · rw [List.append_assoc, List.append_assoc]
        exact p.append_left O1
theorem OwF.len {F H : Hp} : ∀ {fs : List (Str × T)} {vs : List (Str × V)} {O : List Addr}, OwF F H O vs fs → vs.length = fs.length
  | _, _, _, .nil => rfl
  | _, _, _, .cons _ r => congrArg (· + 1) r.len
theorem OwF.look {F H : Hp} {f : Str} : ∀ {fs : List (Str × T)} {vs : List (Str × V)} {O : List Addr}, OwF F H O vs fs → (fs.lookup f = none ∧ vs.lookup f = none) ∨ ∃ t w O', fs.lookup f = some t ∧ vs.lookup f = some w ∧ Ow F H O' w t
  | _, _, _, .nil => .inl ⟨rfl, rfl⟩
  | (n, t) :: fs, (_, v) :: vs, _, .cons h r => by
    rw [List.lookup_cons, List.lookup_cons]
    cases hb : f == n with
    | true => exact .inr ⟨_, _, _, rfl, rfl, h⟩
    | false => exact r.look

/-! ### o.f -/
def fldR (K : PySem.W.Frag) (r : R) (f : Str) (env : Env) (k : R → Prop) : Prop := match r with
  | .bor a i p => match getP i p env with
    | some (.ins a' C fs) => a' = a ∧ (Cls K C ∧ NoAttr K C f) ∧ (match fs.lookup f with
      | some (.va d) => k (.t (.va d))
      | some t => match t.addr with
        | some b => k (.bor b i (p ++ [f]))
        | none => False
      | none => False)
    | _ => False
  | _ => False
section
variable {Tq : List (Addr × Str)} {Z : Zb Tq} {X : Cx} {e a b c o value : Expr} {es : List Expr} {env : Env} {pos pos' apos p : Pos} {P : R → Env → Prop} {PO : Out → Prop} {f x m : Str}
theorem w_fld (h : WE Z X o env fun r e1 => fldR X.K r f e1 fun r2 => P r2 e1) (hb : attributeBase o f X.env (eval o X.env) = eval o X.env := by rfl) : WE Z X (.Attribute o f pos) env P :=
  we_of (pe_fld (pe_E (Z := Z)) hb) fun σ H F O b0 o0 => ⟨env, F, O, _, b0, o0, h, fun v H1 ⟨F1, O1, r, e1, b1, st, fr, q⟩ => by
    cases r with
    | t t => exact q.elim
    | bor a i p =>
      obtain ⟨o1, rfl⟩ := st
      unfold fldR at q
      simp only at q
      split at q
      · rename_i a' C fs hg
        obtain ⟨rfl, ⟨c, n⟩, q⟩ := q
        obtain ⟨w, ⟨Oj, O', h1, h2, h3⟩, _⟩ := o1.focus hg
        cases h1 with
        | ins h1 hd r =>
          rcases r.look (f := f) with ⟨k1, k2⟩ | ⟨t, w, Ot, k1, k2, hw⟩
          · rw [k1] at q; exact q.elim
          · refine ⟨_, _, _, _, w, rfl, h1, c, n, k2, ?_⟩
            rw [k1] at q
            cases t with
            | va d =>
              cases hw with
              | va r => exact ⟨F1, O1, .t (.va d), _, b1, ⟨O1, [], (List.append_nil O1).symm, o1, .va r⟩, fr, q⟩
            | lst a ds => exact ⟨F1, O1, .bor _ _ _, _, b1, ⟨o1, hw.ref rfl⟩, fr, q⟩
            | dic a ds => exact ⟨F1, O1, .bor _ _ _, _, b1, ⟨o1, hw.ref rfl⟩, fr, q⟩
            | fdc a ds => exact ⟨F1, O1, .bor _ _ _, _, b1, ⟨o1, hw.ref rfl⟩, fr, q⟩
            | ins a C fs => exact ⟨F1, O1, .bor _ _ _, _, b1, ⟨o1, hw.ref rfl⟩, fr, q⟩
            | hole a => exact ⟨F1, O1, .bor _ _ _, _, b1, ⟨o1, hw.ref rfl⟩, fr, q⟩
            | ob a φ =>
              cases a with
              | none => exact q.elim
              | some a => exact ⟨F1, O1, .bor _ _ _, _, b1, ⟨o1, hw.ref rfl⟩, fr, q⟩
      · exact q.elim⟩

/-! ### x.f = e, x a name -/
def putFR (K : PySem.W.Frag) (t : T) (i : Nat) (f : Str) (e : Env) (k : Env → Prop) : Prop := match e[i]? with
  | some (some (.ins a C fs)) => (Cls K C ∧ NoAttr K C f ∧ fs.length < 1000) ∧ k (e.set i (some (.ins a C (putT f t fs))))
  | _ => False
def setFR (K : PySem.W.Frag) (r : R) (i : Nat) (f : Str) (e : Env) (k : Env → Prop) : Prop := match r with
  | .t t => putFR K t i f e k
  | .bor a j p => absorb [.bor a j p] e fun ds e' => match ds with
    | [d] => putFR K (.va d) i f e' k
    | _ => False
theorem mutI {F H : Hp} {O1 O2 : List Addr} {σ : L2.St} {env : Env} {i : Nat} {a C : Addr} {fs : List (Str × T)} {v : V} {t : T} {f : Str} (b : Bas Z F H (O1 ++ O2)) (o : OwE F H O1 σ env) (hi : env[i]? = some (some (.ins a C fs))) (w : Ow F H O2 v t) :
    ∃ dx vs, σ[i]? = some (some (.ref a)) ∧ H a = some (.ins C dx vs) ∧ vs.length = fs.length ∧ ∃ O', Bas Z F (upd H a (.ins C dx (putF f v vs))) O' ∧ OwE F (upd H a (.ins C dx (putF f v vs))) O' σ (env.set i (some (.ins a C (putT f t fs)))) ∧ Frm Tq H F (O1 ++ O2) (upd H a (.ins C dx (putF f v vs))) F O' := by
  obtain ⟨w0, hw, Oj, Or, h1, h2, h3⟩ := o.focusI hi
  cases h1 with
  | ins ha hd r =>
    rename_i dx vs Of
    refine ⟨dx, vs, hw, ha, r.len, ?_⟩
    obtain ⟨Of', Od, r', pm⟩ := r.put (f := f) w
    have nd0 : ((a :: dx :: Of) ++ Or ++ O2).Nodup := (h2.append_right O2).nodup b.nd
    have pm1 : ((a :: dx :: Of) ++ Or ++ O2).Perm ((a :: dx :: Of') ++ Or ++ Od) := by
      have e1 : (Of ++ Or ++ O2).Perm (Of' ++ Or ++ Od) := by
        have e2 : (Of ++ Or ++ O2).Perm ((Of ++ O2) ++ Or) := by
          rw [List.append_assoc, List.append_assoc]
          exact List.perm_append_comm.append_left Of
        have e3 : (Of' ++ Or ++ Od).Perm ((Of' ++ Od) ++ Or) := by
          rw [List.append_assoc, List.append_assoc]
          exact List.perm_append_comm.append_left Of'
        exact e2.trans ((pm.append_right Or).trans e3.symm)
      exact (e1.cons dx).cons a
    have nd1 := pm1.nodup nd0
    have na : ∀ c, c ∈ dx :: (Of' ++ Or ++ Od) → c ≠ a := fun c hc z => by
      subst z
      exact (List.nodup_cons.mp nd1).1 hc
    have ex : ∀ c ∈ O1 ++ O2, H c ≠ none := fun c hc => (List.mem_append.mp hc).elim (o.there c) (w.there c)
    have keep : ∀ c, c ≠ a → upd H a (.ins C dx (putF f v vs)) c = H c := fun c hc => upd_ne hc
    have hOf : ∀ c ∈ Of', upd H a (.ins C dx (putF f v vs)) c = H c := fun c hc => keep c (na c (List.mem_cons_of_mem _ (List.mem_append_left _ (List.mem_append_left _ hc))))
    have ow : Ow F (upd H a (.ins C dx (putF f v vs))) (a :: dx :: Of') (.ref a) (.ins a C (putT f t fs)) :=
      .ins upd_same ((keep dx (na dx List.mem_cons_self)).trans hd) (r'.stay (Same.refl _) hOf)
    obtain ⟨O'', q1, q2⟩ := h3 F (upd H a (.ins C dx (putF f v vs))) _ _ (Same.refl _) (fun c hc => keep c (na c (List.mem_cons_of_mem _ (List.mem_append_left _ (List.mem_append_right _ hc))))) ow
    have pm2 : (O1 ++ O2).Perm (O'' ++ Od) := (h2.append_right O2).trans (pm1.trans (q2.symm.append_right Od))
    have ha' : a ∈ O1 ++ O2 := List.mem_append_left _ (h2.mem_iff.mpr (List.mem_append_left _ List.mem_cons_self))
    have da := b.dis a ha'
    have fr : Frm Tq H F (O1 ++ O2) (upd H a (.ins C dx (putF f v vs))) F O'' := ⟨Same.refl _, fun c y e _ n => by rw [upd_ne fun z => n (by rw [z]; exact ha')]; exact e, fun c e => by
      by_cases z : c = a
      · subst z; rw [upd_same]; exact fun z => nomatch z
      · rw [upd_ne z]; exact e, fun c e => .inl e, fun c hc => .inl (pm2.mem_iff.mpr (List.mem_append_left _ hc)), tab_own ha⟩
    refine ⟨O'', ⟨fun c y e => ?_, (List.nodup_append.mp (pm2.nodup b.nd)).1, fun c hc => b.dis c (pm2.mem_iff.mpr (List.mem_append_left _ hc)), b.abs.trans fr⟩, q1, fr⟩
    rw [upd_ne fun z => by rw [z, da] at e; cases e]
    exact b.sub c y e
theorem ws_fld (i : Nat) (h : WE Z X value env fun r e1 => setFR X.K r i f e1 fun e2 => PO (.nx e2)) (hN : X.N[i]? = some x := by rfl) (hv : Vis X.env.scope x := by first | exact Or.inl rfl | exact Or.inr (Or.inl rfl) | exact Or.inr (Or.inr rfl))
    (hd : (x == ("__debug__" : Str)) = false := by decide) (hcd : (x == ("__classdict__" : Str)) = false := by decide) (hs : swapsWith value (some (.Attribute (.Name x p) f pos')) pos.line X.env = pure false := by rfl) : WS Z X (.Assign [.Attribute (.Name x p) f pos'] value pos) env PO :=
  ws_of (ps_fld (pe_var (i := i) hN hv hd hcd) (pe_E (Z := Z)) hs) fun σ H F O b o => ⟨env, F, O, _, b, o, h, fun v H1 ⟨F1, O1, r, e1, b1, st, fr, q⟩ => by
    have fin : ∀ {F2 : Hp} {Oa Ob : List Addr} {t : T} {e2 : Env}, Bas Z F2 H1 (Oa ++ Ob) → OwE F2 H1 Oa σ e2 → Ow F2 H1 Ob v t → Frm Tq H F O H1 F2 (Oa ++ Ob) → putFR X.K t i f e2 (fun e3 => PO (.nx e3)) →
        tVar i σ H1 (fun x H2 => ∃ a C dx fs, x = .ref a ∧ H2 a = some (.ins C dx fs) ∧ Cls X.K C ∧ NoAttr X.K C f ∧ fs.length < 1000 ∧ (endsOf Z H F O PO).nx σ (upd H2 a (.ins C dx (putF f v fs)))) := fun {F2 Oa Ob t e2} b2 o2 w2 fr2 q2 => by
      unfold putFR at q2
      split at q2
      · rename_i a C fs hi
        obtain ⟨⟨c, n, l⟩, q2⟩ := q2
        obtain ⟨dx, vs, hσ, ha, hl, O', b3, o3, fr3⟩ := mutI (f := f) b2 o2 hi w2
        exact ⟨_, hσ, a, C, dx, vs, rfl, ha, c, n, by rw [hl]; exact l, F2, O', _, b3, o3, fr2.trans fr3, q2⟩
      · exact q2.elim
    cases r with
    | t t =>
      obtain ⟨Oa, Ob, rfl, o1, w1⟩ := st
      exact fin b1 o1 w1 fr q
    | bor a j p =>
      obtain ⟨o1, rfl⟩ := st
      unfold setFR at q
      simp only at q
      obtain ⟨F2, O2, ds, e2, b2, o2, r2, fr2, q2⟩ := absorb_ok (.cons (a := .bor a j p) rfl .nil) b1 o1 q
      cases r2 with
      | cons r2 rn =>
        cases rn
        exact fin (Ob := []) (by rw [List.append_nil]; exact b2) o2 (.va r2) (by rw [List.append_nil]; exact fr.trans fr2) q2⟩
end
end QL

/-! QM: methods called, instances made. -/
namespace QL
open PySem PySem.Spec PyProof.Rows L2
/-- a method as a promise -/
structure Mf (P : Program) (w : World) (K : PySem.W.Frag) (mg : Str → Option Value) (base : Heap) (Tq : List (Addr × Str)) (k : Nat) (C : Addr) (m : Str) (ps : List Str) (sp : Spc) : Prop where
  ex : ∃ f fd, FnG P w K mg base Tq k f fd ps sp ∧ Cls K C ∧ Meth K C m f ∧ Binds K fd ps []
theorem Mf.mono {P : Program} {w : World} {K : PySem.W.Frag} {mg : Str → Option Value} {base : Heap} {Tq : List (Addr × Str)} {j k : Nat} {C : Addr} {m : Str} {ps : List Str} {sp : Spc} (G : Mf P w K mg base Tq j C m ps sp) (h : j ≤ k) : Mf P w K mg base Tq k C m ps sp :=
  let ⟨f, fd, g, r⟩ := G.ex; ⟨f, fd, g.mono h, r⟩
/-- a class that is made by its own __init__ -/
structure Ck (P : Program) (w : World) (K : PySem.W.Frag) (mg : Str → Option Value) (base : Heap) (Tq : List (Addr × Str)) (k : Nat) (x : Str) (C : Addr) (ps : List Str) (sp : Spc) : Prop where
  ex : ∃ f fd, FnG P w K mg base Tq k f fd ps sp ∧ Mk K C f ∧ mg x = some (.ref C) ∧ Binds K fd ps []
theorem Ck.mono {P : Program} {w : World} {K : PySem.W.Frag} {mg : Str → Option Value} {base : Heap} {Tq : List (Addr × Str)} {j k : Nat} {x : Str} {C : Addr} {ps : List Str} {sp : Spc} (G : Ck P w K mg base Tq j x C ps sp) (h : j ≤ k) : Ck P w K mg base Tq k x C ps sp :=
  let ⟨f, fd, g, r⟩ := G.ex; ⟨f, fd, g.mono h, r⟩
section
variable {Tq : List (Addr × Str)} {Z : Zb Tq} {X : Cx} {e a b c o value : Expr} {es : List Expr} {env : Env} {pos pos' apos p : Pos} {P : R → Env → Prop} {f x m : Str} {k : Nat} {C : Addr} {ps : List Str} {sp : Spc}
/-- o.m(..), with what is wanted of an error -/
def methR {Tq : List (Addr × Str)} (as : List Expr) (Z : Zb Tq) (X : Cx) (C : Addr) (m : Str) (r : R) (e1 : Env) (k : List A → Env → Prop) : Prop := match r with
  | .bor a i p => match getP i p e1 with
    | some (.ins a' C' fs) => (a' = a ∧ C' = C ∧ fs.lookup m = none) ∧ WAs Z X as e1 fun as' e2 => k (.bor a i p :: as') e2
    | _ => False
  | _ => False
theorem methR_ok {σ : L2.St} {F H : Hp} {O : List Addr} {v : V} {r : R} {e1 : Env} {kk : List A → Env → Prop} (st : StR F H O σ e1 v r) (h : methR es Z X C m r e1 kk) :
    ∃ a i p dx vs, v = .ref a ∧ r = .bor a i p ∧ H a = some (.ins C dx vs) ∧ vs.lookup m = none ∧ OwE F H O σ e1 ∧ WAs Z X es e1 fun as' e2 => kk (.bor a i p :: as') e2 := by
  cases r with
  | t t => exact h.elim
  | bor a i p =>
    obtain ⟨o1, rfl⟩ := st
    unfold methR at h
    simp only at h
    split at h
    · rename_i a' C' fs hg
      obtain ⟨⟨rfl, rfl, hm⟩, h⟩ := h
      obtain ⟨w, ⟨Oj, O', h1, h2, h3⟩, _⟩ := o1.focus hg
      cases h1 with
      | ins ha hd rr =>
        refine ⟨_, i, p, _, _, rfl, rfl, ha, ?_, o1, h⟩
        rcases rr.look (f := m) with ⟨_, e2⟩ | ⟨t, w, Ot, e2, _, _⟩
        · exact e2
        · rw [hm] at e2; cases e2
    · exact h.elim
theorem w_methX {ET : Ex → Env → Prop} {pl : Sem Bool} (G : Mf X.prog X.w X.K X.mg X.base Tq k C m ps sp) (hr : Room k X.A) (hgd : X.A.guards = some []) (tk : Takes X (wxOf Z ET))
    (h : WE Z X o env fun r e1 => methR (e :: es) Z X C m r e1 fun as e2 => callD sp as e2 (fun t e => P (.t t) e) ET)
    (hst : starEach (e :: es) X.env = (false, eval e X.env) :: starEach es X.env := by rfl) (hpl : (backTo pos (starEach es X.env)).any (·.1) = false := by rfl)
    (ht : eval (.Call (.Attribute o m apos) (e :: es) [] pos) X.env = (do
      let ov ← eval o X.env
      standAt apos.atName
      let (f, first) ← holding [ov] (getMethod ov m pl)
      callWith pos f first (backTo pos (starEach (e :: es) X.env)) (backToKw pos (keywordEach [] X.env))) := by rfl) :
    WE Z X (.Call (.Attribute o m apos) (e :: es) [] pos) env P := fun pins s σ H F O I b o0 => by
  obtain ⟨f, fd, g, c, hm, hb⟩ := G.ex
  refine PySem.W.methodCall_KW (pl := pl) (thn (h pins s σ H F O I b o0) fun u s1 ⟨v, H1, I1, rx, F1, O1, r, e1, b1, st, fr, q⟩ => ?_) ht
  obtain ⟨a, i, p, dx, vs, rfl, rfl, ha, hl, o1, q⟩ := methR_ok st q
  obtain rfl : u = Value.ref a := rx
  refine getmeth_ok I1 ha c hm hl ?_
  refine PySem.W.callWith_K (first := [.ref a]) (h₀ := X.base) I1.ok.mod.kin hm.kp (thn ((pa_As (Z := Z)).run pos pins s1 σ H1 (PostAs Z σ H1 F1 O1 _) I1 ⟨e1, F1, O1, _, b1, o1, q, fun _ _ q => q⟩) fun us s2 ⟨vs2, H2, I2, r2, F2, O2, as, e2, b2, o2, st2, fr2, q2⟩ => ⟨I2.kIn, ?_⟩) hst hpl
  have hl2 : (Value.ref a :: us ++ []).length = ps.length := by
    obtain ⟨ts, e3, Oc, Or, pm, sv, o3, hh⟩ := deref_ok (as := .bor a i p :: as) (vs := .ref a :: vs2) (.cons rfl st2) o2 q2
    rw [← g.len _ _ _ hh, ← sv.len, List.append_nil]
    show us.length + 1 = vs2.length + 1
    rw [← r2.length]
  have hb2 := hb s2 (Value.ref a :: us) I2.kIn hl2
  rw [List.append_nil] at hb2
  exact thn (call_g (us0 := .ref a :: us) (kw := []) (us := .ref a :: us) (vs := .ref a :: vs2) (as := .bor a i p :: as) g hr hgd tk hb2 I2 b2 o2 (.cons rfl st2) (.cons rfl r2) q2) (EP.imp fun v H' q => q.from (fr.trans fr2))
theorem w_methX0 {ET : Ex → Env → Prop} {pl : Sem Bool} (G : Mf X.prog X.w X.K X.mg X.base Tq k C m ps sp) (hr : Room k X.A) (hgd : X.A.guards = some []) (tk : Takes X (wxOf Z ET))
    (h : WE Z X o env fun r e1 => methR [] Z X C m r e1 fun as e2 => callD sp as e2 (fun t e => P (.t t) e) ET)
    (ht : eval (.Call (.Attribute o m apos) [] [] pos) X.env = (do
      let ov ← eval o X.env
      standAt apos.atName
      let (f, first) ← holding [ov] (getMethod ov m pl)
      callWith pos f first (backTo pos (starEach [] X.env)) (backToKw pos (keywordEach [] X.env))) := by rfl) :
    WE Z X (.Call (.Attribute o m apos) [] [] pos) env P := fun pins s σ H F O I b o0 => by
  obtain ⟨f, fd, g, c, hm, hb⟩ := G.ex
  refine PySem.W.methodCall_KW (pl := pl) (thn (h pins s σ H F O I b o0) fun u s1 ⟨v, H1, I1, rx, F1, O1, r, e1, b1, st, fr, q⟩ => ?_) ht
  obtain ⟨a, i, p, dx, vs, rfl, rfl, ha, hl, o1, q⟩ := methR_ok st q
  obtain rfl : u = Value.ref a := rx
  refine getmeth_ok I1 ha c hm hl ?_
  replace q : callD sp [.bor a i p] e1 (fun t e => P (R.t t) e) ET := q
  have hl2 : ([Value.ref a] ++ []).length = ps.length := by
    obtain ⟨ts, e3, Oc, Or, pm, sv, o3, hh⟩ := deref_ok (as := [.bor a i p]) (vs := [.ref a]) (.cons rfl .nil) o1 q
    rw [← g.len _ _ _ hh, ← sv.len]
    rfl
  have hb2 := hb s1 [Value.ref a] I1.kIn hl2
  rw [List.append_nil] at hb2
  exact PySem.W.callWith_K0 (first := [.ref a]) I1.kIn hm.kp (thn (call_g (us0 := [.ref a]) (kw := []) (us := [.ref a]) (vs := [.ref a]) (as := [.bor a i p]) g hr hgd tk hb2 I1 b1 o1 (.cons rfl .nil) (.cons rfl .nil) q) (EP.imp fun v H' q => q.from fr))
theorem w_meth {pl : Sem Bool} (G : Mf X.prog X.w X.K X.mg X.base Tq k C m ps sp) (hr : Room k X.A) (hgd : X.A.guards = some [])
    (h : WE Z X o env fun r e1 => methR (e :: es) Z X C m r e1 fun as e2 => callD sp as e2 (fun t e => P (.t t) e) fun _ _ => False)
    (hst : starEach (e :: es) X.env = (false, eval e X.env) :: starEach es X.env := by rfl) (hpl : (backTo pos (starEach es X.env)).any (·.1) = false := by rfl)
    (ht : eval (.Call (.Attribute o m apos) (e :: es) [] pos) X.env = (do
      let ov ← eval o X.env
      standAt apos.atName
      let (f, first) ← holding [ov] (getMethod ov m pl)
      callWith pos f first (backTo pos (starEach (e :: es) X.env)) (backToKw pos (keywordEach [] X.env))) := by rfl) :
    WE Z X (.Call (.Attribute o m apos) (e :: es) [] pos) env P := w_methX (pl := pl) G hr hgd takes_no h hst hpl ht
theorem w_meth0 {pl : Sem Bool} (G : Mf X.prog X.w X.K X.mg X.base Tq k C m ps sp) (hr : Room k X.A) (hgd : X.A.guards = some [])
    (h : WE Z X o env fun r e1 => methR [] Z X C m r e1 fun as e2 => callD sp as e2 (fun t e => P (.t t) e) fun _ _ => False)
    (ht : eval (.Call (.Attribute o m apos) [] [] pos) X.env = (do
      let ov ← eval o X.env
      standAt apos.atName
      let (f, first) ← holding [ov] (getMethod ov m pl)
      callWith pos f first (backTo pos (starEach [] X.env)) (backToKw pos (keywordEach [] X.env))) := by rfl) :
    WE Z X (.Call (.Attribute o m apos) [] [] pos) env P := w_methX0 (pl := pl) G hr hgd takes_no h ht

/-! ### C(..) -/
def callN (sp : Spc) (C : Addr) (as : List A) (env : Env) (PT : T → Env → Prop) (ET : Ex → Env → Prop) : Prop :=
  ∀ a, deref as env fun ts e2 => sp (.ins a C [] :: ts) (fun t ts' => t = .va .none ∧ match ts' with
      | some u :: ts'' => u.addr = some a ∧ putb as ts'' e2 fun e3 => PT u e3
      | _ => False)
    (fun ex ts' => match ts' with
      | _ :: ts'' => putb as ts'' e2 fun e3 => ET ex e3
      | [] => False)
theorem guards_make {A : Around} {C : Addr} {us : List Value} {kw : List (Str × Value)} (h : A.guards = some []) : (A.under (.builtin "type.__call__" ⟨.ref C :: us, kw⟩)).guards = some [] := by
  first | exact h | (simp [Around.under, Code.weight, Code.isCreation, Code.isGuard, Code.isCaller, Code.frames, Code.isFrame, guardIds, h])
theorem make_gx {fI : Addr} {fd : FuncData} {ET : Ex → Env → Prop} {as : List A} {vs : List V} {us us0 : List Value} {pins : List (Addr × Obj)} {s : Shared} {σ : L2.St} {H F : Hp} {O : List Addr}
    (M : Mk X.K C fI) (G : FnG X.prog X.w X.K X.mg X.base Tq k fI fd ps sp) (hr : Room (k + 1) X.A) (hg : X.A.guards = some []) (tk : Takes X (wxOf Z ET)) (hb : ∀ (s : Shared) (u : Value), X.K.In s.heap → (u :: us).length = ps.length → BindsTo s fd ⟨u :: us0, []⟩ (ps.zip (u :: us))) (I : Inv X pins σ H s) (b : Bas Z F H O) (o : OwE F H O σ env)
    (st : StAs F vs as) (r : Vals vs us) (h : callN sp C as env (fun t e => P (.t t) e) ET) : wpAny (model X.prog X.w) X.A (call (.ref C) us0) (EP X pins σ (Post Z σ H F O P)) X.xe s := by
  have nx : H (s.heap.objs.size + 1) = none := I.hok.fresh (Nat.le_succ _)
  have ndx : H s.heap.objs.size = none := I.hok.fresh (Nat.le_refl _)
  have nex : s.heap.objs.size ≠ s.heap.objs.size + 1 := Nat.ne_of_lt (Nat.lt_succ_self _)
  have h := h (s.heap.objs.size + 1)
  have I2 := Inv.made (C := C) I
  generalize eH : upd (upd H s.heap.objs.size (.own (s.heap.objs.size + 1))) (s.heap.objs.size + 1) (.ins C s.heap.objs.size []) = H2 at I2
  have h2x : H2 (s.heap.objs.size + 1) = some (.ins C s.heap.objs.size []) := by rw [← eH, upd_same]
  have h2d : H2 s.heap.objs.size = some (.own (s.heap.objs.size + 1)) := by rw [← eH, upd_ne nex, upd_same]
  have s2 : Same H H2 := fun c y e => by rw [← eH, upd_ne (ne_of_none e nx), upd_ne (ne_of_none e ndx)]; exact e
  obtain ⟨ts, e2, Oc, Or, pm, sv, o2, h⟩ := deref_ok st o h
  have ex : ∀ c ∈ Or, Held H c := o2.held
  have exc : ∀ c ∈ Oc, Held H c := fun c hc => o.held c (pm.mem_iff.mpr (List.mem_append_left _ hc))
  have keep2 : ∀ c, H c ≠ none → H2 c = H c := fun c hc => by
    cases q : H c with
    | none => exact absurd q hc
    | some y => exact s2 c y q
  -- the new instance beside the arguments
  have Fx : F (s.heap.objs.size + 1) = none := b.sub.free nx
  have Fd : F s.heap.objs.size = none := b.sub.free ndx
  have fr0 : Frm Tq H F O H2 F (O ++ [s.heap.objs.size + 1, s.heap.objs.size]) := ⟨Same.refl _, fun c y e _ _ => s2 c y e, fun c e => by rw [keep2 c e]; exact e, fun c e => .inl e, fun c hc => by
    rcases List.mem_append.mp hc with z | z
    · exact .inl z
    · rcases List.mem_cons.mp z with rfl | z
      · exact .inr nx
      · rw [List.mem_singleton.mp z]; exact .inr ndx, tab_same s2⟩
  have b0 : Bas Z F H2 (O ++ [s.heap.objs.size + 1, s.heap.objs.size]) := ⟨b.sub.trans s2, List.nodup_append.mpr ⟨b.nd, List.nodup_cons.mpr ⟨fun z => nex (List.mem_singleton.mp z).symm, List.nodup_cons.mpr ⟨fun z => (nomatch z), List.nodup_nil⟩⟩, fun c hc d hd z => by
      subst z
      have := o.there c hc
      rcases List.mem_cons.mp hd with z | z
      · exact this (z ▸ nx)
      · exact this ((List.mem_singleton.mp z) ▸ ndx)⟩, fun c hc => by
      rcases List.mem_append.mp hc with z | z
      · exact b.dis c z
      · rcases List.mem_cons.mp z with rfl | z
        · exact Fx
        · rw [List.mem_singleton.mp z]; exact Fd, b.abs.trans fr0⟩
  have pm2 : (O ++ [s.heap.objs.size + 1, s.heap.objs.size]).Perm (((s.heap.objs.size + 1) :: s.heap.objs.size :: Oc) ++ Or) := (List.perm_append_comm (l₁ := O)).trans ((pm.cons s.heap.objs.size).cons (s.heap.objs.size + 1))
  have bc := (b0.perm pm2).left.entry
  have sv2 : StV F H2 ((s.heap.objs.size + 1) :: s.heap.objs.size :: Oc) (.ref (s.heap.objs.size + 1) :: vs) (.ins (s.heap.objs.size + 1) C [] :: ts) := by
    have w0 : Ow F H2 [s.heap.objs.size + 1, s.heap.objs.size] (.ref (s.heap.objs.size + 1)) (.ins (s.heap.objs.size + 1) C []) := .ins h2x h2d .nil
    have svs : StV F H2 Oc vs ts := by
      have key : ∀ {Oc : List Addr} {vs : List V} {ts : List T}, StV F H Oc vs ts → (∀ c ∈ Oc, H2 c = H c) → StV F H2 Oc vs ts := fun {Oc vs ts} z => by
        induction z with
        | nil => intro _; exact .nil
        | cons w r ih => intro kk; exact .cons (w.stay (Same.refl _) fun c hc => kk c (List.mem_append_left _ hc)) (ih fun c hc => kk c (List.mem_append_right _ hc))
      exact key sv fun c hc => keep2 c (exc c hc).ne
    exact .cons w0 svs
  have r2 : Vals (V.ref (s.heap.objs.size + 1) :: vs) (Value.ref (s.heap.objs.size + 1) :: us) := .cons rfl r
  have hl : (Value.ref (s.heap.objs.size + 1) :: us).length = ps.length := by
    rw [← r2.length, sv2.len, G.len _ _ _ h]
  have ex2 : ∀ c ∈ Or, Held H2 c := fun c hc => let ⟨y, e, n⟩ := ex c hc; ⟨y, s2 c y e, n⟩
  refine wpAny_call (make_map (f := fI) I.kIn M.makes M.init (beq_iff_eq.mp M.fn) ?_)
  have hb2 := hb _ (Value.ref (s.heap.objs.size + 1)) I2.kIn hl
  have run := G.run (X.A.under (.builtin "type.__call__" ⟨.ref C :: us0, []⟩)) X.stack _ H2 ⟨Value.ref (s.heap.objs.size + 1) :: us0, []⟩ (Value.ref (s.heap.objs.size + 1) :: us) (V.ref (s.heap.objs.size + 1) :: vs) F ((s.heap.objs.size + 1) :: s.heap.objs.size :: Oc) (.ins (s.heap.objs.size + 1) C [] :: ts) _ _
    (fun cls d H' => ∃ e ts' F' O', Bas ⟨H2, F, (s.heap.objs.size + 1) :: s.heap.objs.size :: Oc, (b0.perm pm2).left.tabs⟩ F' H' O' ∧ StVO F' H' O' (.ref (s.heap.objs.size + 1) :: vs) ts' ∧ ExAt F' e cls d ∧ (match ts' with | _ :: ts'' => putb as ts'' e2 fun e3 => ET e e3 | [] => False)) (b0.perm pm2).left.tabs (hr.make C us0 []) (guards_make hg) (I2.env0.make C us0 []) hb2 r2 bc sv2 h
    fun e ts' cls d H' F' O' b' s' x' q => ⟨e, ts', F', O', b', s', x', q⟩
  refine codeAny_mono (run) fun rs s' hq => ?_
  have back : ∀ {F' H' : Hp} {O1 O2 : List Addr} {ts' : List (Option T)} {kk : Env → Prop}, Bas ⟨H2, F, _ :: s.heap.objs.size :: Oc, (b0.perm pm2).left.tabs⟩ F' H' (O1 ++ O2) → StVO F' H' O1 vs ts' → putb as ts' e2 kk →
      ∃ e3 O3, OwE F' H' O3 σ e3 ∧ Bas Z F' H' (O3 ++ O2) ∧ Frm Tq H F O H' F' (O3 ++ O2) ∧ kk e3 := fun {F' H' O1 O2 ts' kk} b' s' q => by
    have fr := b'.abs
    have b3 := Bas.frame fr (b0.perm pm2) b' ex2
    have keep := fr.rest (R := Or) (pm2.nodup b0.nd) ex2
    obtain ⟨e3, O3, Od, o3, p3, q3⟩ := putb_ok (F := F') (H := H') (st) s' (o2.stay fr.fz fun c hc => (keep c hc).trans (keep2 c (ex c hc).ne)) q
    have p4 : ((O1 ++ O2) ++ Or).Perm ((O3 ++ O2) ++ Od) := by
      have e1 : ((O1 ++ O2) ++ Or).Perm ((O1 ++ Or) ++ O2) := by
        rw [List.append_assoc, List.append_assoc]
        exact List.perm_append_comm.append_left O1
      have e2 : ((O3 ++ O2) ++ Od).Perm ((O3 ++ Od) ++ O2) := by
        rw [List.append_assoc, List.append_assoc]
        exact List.perm_append_comm.append_left O3
      exact e1.trans ((p3.append_right O2).trans e2.symm)
    exact ⟨e3, O3, o3, (b3.perm p4).left, fr0.trans ((fr.frame (R := Or)).perm (fun c => pm2.symm.mem_iff) (fun c hc => p4.mem_iff.mpr (List.mem_append_left _ hc))), q3⟩
  cases rs with
  | error e =>
    refine tk e s' (XE.of_call I2 (fun cls d H' hE => ?_) hq)
    obtain ⟨y, ts', F', O', b', sv', xa, q⟩ := hE
    cases sv' with
    | un sv' =>
      obtain ⟨e3, O3, o3, b3, fr3, q3⟩ := back (O2 := []) (by rw [List.append_nil]; exact b') sv' q
      rw [List.append_nil] at b3 fr3
      exact ⟨F', O3, e3, y, b3, o3, xa, q3⟩
    | cons w sv' =>
      rename_i Ou O1' u ts''
      obtain ⟨e3, O3, o3, b3, fr3, q3⟩ := back (O1 := O1') (O2 := Ou) (b'.perm List.perm_append_comm) sv' q
      exact ⟨F', O3, e3, y, b3.left, o3, xa, q3⟩
  | ok fl =>
    cases fl with
    | ret u =>
      obtain ⟨v, H', I3, rv, F', O1, O2, t, ts', b', sv', w', rfl, q⟩ := I2.after hq
      cases w' with
      | va rr =>
        cases rr
        refine ⟨rv, ?_⟩
        cases sv' with
        | un sv' => exact q.elim
        | cons w sv' =>
          rename_i Ou O1' u ts''
          obtain ⟨hu, q⟩ := q
          have pmx : ((Ou ++ O1') ++ []).Perm (O1' ++ Ou) := by rw [List.append_nil]; exact List.perm_append_comm
          obtain ⟨e3, O3, o3, b3, fr3, q3⟩ := back (O1 := O1') (O2 := Ou) (b'.perm pmx) sv' q
          exact ⟨V.ref (s.heap.objs.size + 1), H', I3, rfl, F', O3 ++ Ou, .t u, e3, b3, ⟨O3, Ou, rfl, o3, w⟩, fr3, q3⟩
    | next => exact hq.elim
    | brk => exact hq.elim
    | cont => exact hq.elim
theorem make_g {fI : Addr} {fd : FuncData} {ET : Ex → Env → Prop} {as : List A} {vs : List V} {us : List Value} {pins : List (Addr × Obj)} {s : Shared} {σ : L2.St} {H F : Hp} {O : List Addr}
    (M : Mk X.K C fI) (G : FnG X.prog X.w X.K X.mg X.base Tq k fI fd ps sp) (hr : Room (k + 1) X.A) (hg : X.A.guards = some []) (tk : Takes X (wxOf Z ET)) (hb : Binds X.K fd ps []) (I : Inv X pins σ H s) (b : Bas Z F H O) (o : OwE F H O σ env)
    (st : StAs F vs as) (r : Vals vs us) (h : callN sp C as env (fun t e => P (.t t) e) ET) : wpAny (model X.prog X.w) X.A (call (.ref C) us) (EP X pins σ (Post Z σ H F O P)) X.xe s :=
  make_gx (us0 := us) M G hr hg tk (fun s u X hl => by
    have := hb s (u :: us) X (by rw [List.append_nil]; exact hl)
    rw [List.append_nil] at this
    exact this) I b o st r h
theorem w_makeX {ET : Ex → Env → Prop} (G : Ck X.prog X.w X.K X.mg X.base Tq k x C ps sp) (hr : Room (k + 1) X.A) (hgd : X.A.guards = some []) (tk : Takes X (wxOf Z ET)) (h : WAs Z X (e :: es) env fun as e1 => callN sp C as e1 (fun t e => P (.t t) e) ET)
    (hg : Gl X x := by rfl) (hdb : (x == ("__debug__" : Str)) = false := by decide) (he : starEach (e :: es) X.env = (false, eval e X.env) :: starEach es X.env := by rfl) (hpl : (backTo pos (starEach es X.env)).any (·.1) = false := by rfl) :
    WE Z X (.Call (.Name x p) (e :: es) [] pos) env P := fun pins s σ H F O I b o => by
  obtain ⟨fI, fd, g, M, hm, hb⟩ := G.ex
  refine wpAny_Call_Name_kw (ld_glob I hg hm ?_ hdb)
  refine PySem.W.callWith_K (h₀ := X.base) I.ok.mod.kin M.kp (thn ((pa_As (Z := Z)).run pos pins s σ H (PostAs Z σ H F O _) I ⟨env, F, O, _, b, o, h, fun _ _ q => q⟩) fun us s1 ⟨vs, H1, I1, r, F1, O1, as, e1, b1, o1, st, fr, q⟩ => ⟨I1.kIn, ?_⟩) he hpl
  exact thn (make_g M g hr hgd tk hb I1 b1 o1 st r q) (EP.imp fun v H' q => q.from fr)
theorem w_make (G : Ck X.prog X.w X.K X.mg X.base Tq k x C ps sp) (hr : Room (k + 1) X.A) (hgd : X.A.guards = some []) (h : WAs Z X (e :: es) env fun as e1 => callN sp C as e1 (fun t e => P (.t t) e) fun _ _ => False)
    (hg : Gl X x := by rfl) (hdb : (x == ("__debug__" : Str)) = false := by decide) (he : starEach (e :: es) X.env = (false, eval e X.env) :: starEach es X.env := by rfl) (hpl : (backTo pos (starEach es X.env)).any (·.1) = false := by rfl) :
    WE Z X (.Call (.Name x p) (e :: es) [] pos) env P := w_makeX G hr hgd takes_no h hg hdb he hpl
end
end QL

/-! QN: min, max, sorted over data; tuple(reversed(list)). -/
namespace QL
open PySem PySem.Spec PyProof.Rows L2
section
variable {Tq : List (Addr × Str)} {Z : Zb Tq} {X : Cx} {e a b c o : Expr} {es : List Expr} {env : Env} {pos pos2 p p2 : Pos} {P : R → Env → Prop}
/-- what the items of a list are known to be, as the kit's data words take it -/
theorem RpA.readsA {pins : List (Addr × Obj)} {σ : L2.St} {F H : Hp} {s : Shared} (I : Inv X pins σ H s) (sF : Same F H) : ∀ {vs : List V} {us : List Value} {ds : List D}, RpA F vs ds → Vals vs us → PyData.hasDictAll ds = false → ∃ as, ReadsAll s.heap us ds as
  | _, _, _, .nil, .nil, _ => ⟨_, .nil⟩
  | _, _, _, .cons h r, .cons g q, nd => by
    have nd2 := Bool.or_eq_false_iff.mp (show (PyData.hasDict _ || PyData.hasDictAll _) = false from nd)
    obtain ⟨as, k1⟩ := (h.mono sF).reads I g nd2.1
    obtain ⟨bs, k2⟩ := r.readsA I sF q nd2.2
    exact ⟨_, .cons k1 k2⟩
def bestG (f : D → List D → D) (ds : List D) (k : T → Prop) : Prop := ∃ x xs d, (ds = [.list (x :: xs)] ∨ ds = [.tuple (x :: xs)]) ∧ PyData.hasDictAll (x :: xs) = false ∧ W.AlikeAll (x :: xs) ∧ PyData.depthAll (x :: xs) ≤ 60 ∧ f x xs = d ∧ k (.va d)
theorem best_fin {pins : List (Addr × Obj)} {σ : L2.St} {F H : Hp} {s : Shared} {vs : List V} {us : List Value} {ds : List D} {d : D} {k : T → Prop} (I : Inv X pins σ H s) (sF : Same F H) (r : RpA F vs ds) (q : Vals vs us) (nd : PyData.hasDictAll ds = false) (h : k (.va d)) {i : Nat} {v : Value} {h' : Heap} {tk : Nat} {bs : List Addr}
    (hi : us[i]? = some v) (rd : Reads h' v d bs) (kk : ∀ b o, s.heap.get? b = some o → h'.get? b = some o) : EP X pins σ (NewV F H k) v { s with heap := h', toks := tk } := by
  have gv : ∃ x, vs[i]? = some x ∧ L2.RelV x v := by
    cases hx : vs[i]? with
    | none => rw [List.getElem?_eq_none_iff, q.length, ← List.getElem?_eq_none_iff] at hx; rw [hx] at hi; cases hi
    | some x => obtain ⟨u, g, rr⟩ := q.get hx; rw [g] at hi; cases hi; exact ⟨x, rfl, rr⟩
  obtain ⟨x, hx, rx⟩ := gv
  obtain ⟨d', hd, rp⟩ := r.get hx
  have nd' : d'.hasDict = false := by
    have key : ∀ {ds : List D} {i : Nat}, PyData.hasDictAll ds = false → ds[i]? = some d' → d'.hasDict = false := fun {ds} => by
      induction ds with
      | nil => intro i _ z; cases z
      | cons y ys ih =>
        intro i z e
        have z2 := Bool.or_eq_false_iff.mp (show (PyData.hasDict y || PyData.hasDictAll ys) = false from z)
        cases i with
        | zero => cases e; exact z2.1
        | succ i => exact ih z2.2 e
    exact key nd hd
  obtain ⟨as, k1⟩ := (rp.mono sF).reads I rx nd'
  have k2 := PyProof.Rows.Reads.keeps kk k1
  obtain ⟨rfl, _⟩ := Reads.unique k2 _ _ rd
  exact ⟨x, H, I.kept kk, rx, NewV.val sF rp h⟩
theorem dc_minL (hc : X.calm = true) (hu : X.A.units + 110 < cLine) : DCall X (.builtin "min") (bestG W.minD) := fun pins s σ H F vs us ds k I sF ws rv ⟨x, xs, d0, e, nd, al, dp, ed, h⟩ => by
  subst ed
  rcases e with rfl | rfl
  · obtain ⟨v, rfl, w⟩ := ws.one
    obtain ⟨u, rfl, ru⟩ := rv.one
    obtain ⟨p, ys, rfl, h1, r1⟩ := w.lst' sF
    obtain rfl : u = Value.ref p := ru
    obtain ⟨its, rv2, p2, hz⟩ := I.list (SqL.of h1)
    obtain ⟨as, rd⟩ := r1.readsA I sF rv2 nd
    exact W.min_list_data (I.ok.hd hc) p2.isList (by simpa using rd) al (by omega) fun i v h' tk bs hi hr kk => best_fin I sF r1 rv2 nd h (by simpa using hi) hr kk
  · obtain ⟨v, rfl, w⟩ := ws.one
    obtain ⟨u, rfl, ru⟩ := rv.one
    obtain ⟨p, ys, rfl, h1, r1⟩ := w.tup
    obtain rfl : u = Value.ref p := ru
    obtain ⟨its, rv2, p2, hz⟩ := I.tuple ((.inl (rd_mono sF h1)))
    obtain ⟨as, rd⟩ := r1.readsA I sF rv2 nd
    exact W.min_tuple_data (I.ok.hd hc) (show s.heap.IsTuple p its.toArray from p2) (by simpa using rd) al (by omega) fun i v h' tk bs hi hr kk => best_fin I sF r1 rv2 nd h (by simpa using hi) hr kk
/-- tuple(reversed(list)) -/
theorem w_tupRev (hc : X.calm = true) (hm : X.mg "tuple" = none) (hm2 : X.mg "reversed" = none) (h : WA Z X e env fun a1 e1 => View a1 e1 fun d => ∃ xs, d = .list xs ∧ P (.t (.va (.tuple xs.reverse))) e1) (hg : Gl X "tuple" := by rfl) (hg2 : Gl X "reversed" := by rfl)
    (hs : starEach [e] X.env = (false, eval e X.env) :: starEach [] X.env := by rfl)
    (hs2 : starEach [.Call (.Name "reversed" p2) [e] [] pos2] X.env = (false, eval (.Call (.Name "reversed" p2) [e] [] pos2) X.env) :: starEach [] X.env := by rfl) : WE Z X (.Call (.Name "tuple" p) [.Call (.Name "reversed" p2) [e] [] pos2] [] pos) env P :=
  we_of (RT.pe_tupRev hc hg hm hg2 hm2 (pe_A (Z := Z)) hs hs2) fun σ H F O b o => ⟨env, F, O, _, b, o, h, fun v H1 ⟨F1, O1, a1, e1, b1, o1, st, fr, q⟩ => by
    obtain ⟨d, w, xs, rfl, q⟩ := View.vw q o1 st
    obtain ⟨p, vs, rfl, h1, r1⟩ := w.lst' b1.sub
    exact ⟨p, vs, rfl, SqL.of h1, fun p' hp' => ((NewV.tup b1.sub r1.rev hp' (k := fun t => t = .va (.tuple xs.reverse)) rfl).post b1 o1 (fun t e => by subst e; exact q)).from fr⟩⟩
end
end QL

/-! QO: displays with stars, x += e, comprehensions without a state. -/
namespace QL
open PySem PySem.Spec PyProof.Rows L2 StX
inductive Sg
  | a (x : A)
  | s (xs : List D)
def flatS : List Sg → List A
  | [] => []
  | .a x :: r => x :: flatS r
  | .s xs :: r => xs.map A.va ++ flatS r
def absorbS : List Sg → Env → (List D → Env → Prop) → Prop
  | [], env, k => k [] env
  | .a (.va d) :: as, env, k => absorbS as env fun ds env' => k (d :: ds) env'
  | .a (.bor a i p) :: as, env, k => match getP i p env with
    | some t => t.addr = some a ∧ match frzT t with
      | some d => absorbS as (setP i p (.va d) env) fun ds env' => k (d :: ds) env'
      | none => False
    | none => False
  | .s xs :: as, env, k => absorbS as env fun ds env' => k (xs ++ ds) env'
theorem absorb_vas : ∀ (xs : List D) {as : List A} {env : Env} {k : List D → Env → Prop}, absorb as env (fun ds e => k (xs ++ ds) e) → absorb (xs.map A.va ++ as) env k
  | [], _, _, _, h => h
  | x :: xs, _, _, k, h => by
    show absorb _ _ fun ds env' => k (x :: ds) env'
    exact absorb_vas xs (k := fun ds e => k (x :: ds) e) h
theorem absorbS_flat : ∀ {as : List Sg} {env : Env} {k : List D → Env → Prop}, absorbS as env k → absorb (flatS as) env k
  | [], _, _, h => h
  | .a (.va d) :: as, _, k, h => absorbS_flat (as := as) h
  | .a (.bor a i p) :: as, env, k, h => by
    show absorb (.bor a i p :: flatS as) env k
    unfold absorbS at h
    unfold absorb
    cases hg : getP i p env with
    | none => rw [hg] at h; exact h.elim
    | some t =>
      rw [hg] at h
      refine ⟨h.1, ?_⟩
      have h := h.2
      cases hf : frzT t with
      | none => simp only [hf] at h
      | some d => simp only [hf] at h ⊢; exact absorbS_flat h
  | .s xs :: as, env, k, h => absorb_vas xs (absorbS_flat (as := as) h)
def starD (ds : List D) (k : List D → Prop) : Prop := match ds with
  | [.tuple xs] => k xs
  | [.list xs] => k xs
  | _ => False
def starOf : Expr → Option Expr
  | .Starred e _ => some e
  | _ => none
def WAx {Tq : List (Addr × Str)} (Z : Zb Tq) (X : Cx) : List Expr → Env → (List Sg → Env → Prop) → Prop
  | [], env, P => P [] env
  | e :: es, env, P => match starOf e with
    | some e' => (starEach (e :: es) X.env = (true, eval e' X.env) :: starEach es X.env) ∧ WA Z X e' env fun a e1 => absorb [a] e1 fun ds e2 => starD ds fun xs => WAx Z X es e2 fun as e3 => P (.s xs :: as) e3
    | none => (starEach (e :: es) X.env = (false, eval e X.env) :: starEach es X.env) ∧ WA Z X e env fun a e1 => WAx Z X es e1 fun as e2 => P (.a a :: as) e2
def PostX {Tq : List (Addr × Str)} (Z : Zb Tq) (σ : L2.St) (H0 F0 : Hp) (O0 : List Addr) (P : List Sg → Env → Prop) : List V → Hp → Prop := fun vs H => ∃ F O as env, Bas Z F H O ∧ OwE F H O σ env ∧ StAs F vs (flatS as) ∧ Frm Tq H0 F0 O0 H F O ∧ P as env
def tAx {Tq : List (Addr × Str)} (Z : Zb Tq) (X : Cx) (es : List Expr) : TA := fun σ H Q => ∃ env F O P, Bas Z F H O ∧ OwE F H O σ env ∧ WAx Z X es env P ∧ ∀ v H', PostX Z σ H F O P v H' → Q v H'
theorem RpA.stas {F : Hp} : ∀ {vs : List V} {ds : List D}, RpA F vs ds → StAs F vs (ds.map A.va)
  | _, _, .nil => .nil
  | _, _, .cons h r => .cons h r.stas
theorem StAs.app {F : Hp} {vs us : List V} {as bs : List A} (h : StAs F vs as) (g : StAs F us bs) : StAs F (vs ++ us) (as ++ bs) := by
  induction h with
  | nil => exact g
  | cons a _ ih => exact .cons a ih
theorem pa_Ax {Tq : List (Addr × Str)} {Z : Zb Tq} {X : Cx} : ∀ {es : List Expr}, PA X es (tAx Z X es)
  | [] => ⟨fun pos pins s σ H Q I ⟨env, F, O, P, b, o, w, q⟩ => pa_nil.run pos pins s σ H Q I (q [] H ⟨F, O, [], env, b, o, .nil, Frm.refl _ _ _, w⟩)⟩
  | e :: es => ⟨fun pos pins s σ H Q I ⟨env, F, O, P, b, o, w, q⟩ => by
    unfold WAx at w
    cases hs : starOf e with
    | none =>
      simp only [hs] at w
      have hp := pa_cons (X := X) (pe_A (Z := Z) (e := e)) (pa_Ax (Z := Z) (es := es)) w.1
      refine hp.run pos pins s σ H Q I ⟨env, F, O, _, b, o, w.2, ?_⟩
      rintro v1 H1 ⟨F1, O1, a1, env1, b1, o1, st1, fr1, w1⟩
      refine ⟨env1, F1, O1, _, b1, o1, w1, ?_⟩
      rintro vs H2 ⟨F2, O2, as, env2, b2, o2, st2, fr2, w2⟩
      exact q _ _ ⟨F2, O2, .a a1 :: as, env2, b2, o2, .cons (st1.mono fr2.fz) st2, fr1.trans fr2, w2⟩
    | some e' =>
      simp only [hs] at w
      obtain ⟨p, rfl⟩ : ∃ p, e = .Starred e' p := by
        cases e with
        | Starred x p => cases hs; exact ⟨p, rfl⟩
        | _ => cases hs
      have hp := pa_star (X := X) (pe_A (Z := Z) (e := e')) (pa_Ax (Z := Z) (es := es)) w.1
      refine hp.run pos pins s σ H Q I ⟨env, F, O, _, b, o, w.2, ?_⟩
      rintro v1 H1 ⟨F1, O1, a1, env1, b1, o1, st1, fr1, w1⟩
      obtain ⟨F2, O2, ds, e2, b2, o2, r2, fr2, w2⟩ := absorb_ok (.cons st1 .nil) b1 o1 w1
      unfold starD at w2
      split at w2
      · cases r2 with
        | cons r3 rn =>
          cases rn
          cases r3 with
          | tup h3 r3 =>
            refine ⟨_, _, rfl, .inl ((.inl (rd_mono b2.sub h3))), e2, F2, O2, _, b2, o2, w2, ?_⟩
            rintro vs H3 ⟨F3, O3, as, env3, b3, o3, st3, fr3, w3⟩
            exact q _ _ ⟨F3, O3, .s _ :: as, env3, b3, o3, (r3.mono fr3.fz).stas.app st3, (fr1.trans fr2).trans fr3, w3⟩
      · cases r2 with
        | cons r3 rn =>
          cases rn
          cases r3 with
          | lst h3 r3 =>
            refine ⟨_, _, rfl, .inr (SqL.of (b2.sub _ _ h3)), e2, F2, O2, _, b2, o2, w2, ?_⟩
            rintro vs H3 ⟨F3, O3, as, env3, b3, o3, st3, fr3, w3⟩
            exact q _ _ ⟨F3, O3, .s _ :: as, env3, b3, o3, (r3.mono fr3.fz).stas.app st3, (fr1.trans fr2).trans fr3, w3⟩
      · exact w2.elim⟩
section
variable {Tq : List (Addr × Str)} {Z : Zb Tq} {X : Cx} {e a b c o tg iter elt : Expr} {es : List Expr} {env : Env} {pos : Pos} {P : R → Env → Prop}
/-- a tuple with stars -/
theorem w_tupX {x1 : _} (h : WAx Z X es env fun as env1 => absorbS as env1 fun ds env2 => ds.length ≤ sizeLine ∧ P (.t (.va (.tuple ds))) env2) : WE Z X (.Tuple es x1 pos) env P :=
  we_of (pe_tup (pa_Ax (Z := Z))) fun σ H F O b o => ⟨env, F, O, _, b, o, h, fun vs H1 ⟨F1, O1, as, env1, b1, o1, st1, fr1, h1⟩ => by
    obtain ⟨F2, O2, ds, env2, b2, o2, r2, fr2, z, q⟩ := absorb_ok st1 b1 o1 (absorbS_flat h1)
    refine ⟨by rw [r2.len]; exact z, fun p hp => ?_⟩
    exact ((NewV.tup b2.sub r2 hp (k := fun t => t = .va (.tuple ds)) rfl).post b2 o2 (fun t e => by subst e; exact q)).from (fr1.trans fr2)⟩
theorem dip_sub : DOp X (inplaceOp .Sub) subD := by
  intro pins s σ H F v1 v2 u1 u2 d1 d2 k I sF w1 w2 r1 r2 hg
  cases d1 with
  | int i =>
    cases d2 with
    | int j =>
      cases w1.int
      cases w2.int
      exact in_sub pins s σ H _ _ u1 u2 _ I r1 r2 ⟨i, j, rfl, rfl, NewV.val sF (.int _) hg⟩
    | _ => exact hg.elim
  | _ => exact hg.elim
structure FMo (f : TF) : Prop where
  mo : ∀ {d : D} {e : Env} {k k' : Env → Prop}, f d e k → (∀ e', k e' → k' e') → f d e k'
structure FMos (f : TFs) : Prop where
  mo : ∀ {d : List D} {e : Env} {k k' : Env → Prop}, f d e k → (∀ e', k e' → k' e') → f d e k'
theorem fm_name {i : Nat} : FMo (fName i) := ⟨fun h hk => ⟨h.1, hk _ h.2⟩⟩
theorem fm_nil : FMos fNil := ⟨fun h hk => ⟨h.1, hk _ h.2⟩⟩
theorem fm_cons {f : TF} {fs : TFs} (h1 : FMo f) (h2 : FMos fs) : FMos (fCons f fs) := ⟨fun {d e k k'} h hk => by
  cases d with
  | nil => exact h.elim
  | cons d r => exact h1.mo h fun e' w => h2.mo w hk⟩
theorem fm_tup {n : Nat} {fs : TFs} (h1 : FMos fs) : FMo (fTup n fs) := ⟨fun {d e k k'} h hk => by
  unfold fTup at h ⊢
  split at h
  · exact ⟨h.1, h1.mo h.2 hk⟩
  · exact h.elim⟩
theorem fm_tup2 {i j : Nat} : FMo (fTup 2 (fCons (fName i) (fCons (fName j) fNil))) := fm_tup (fm_cons fm_name (fm_cons fm_name fm_nil))
/-- [elt for x in ds]: ds are xs seen by enc, elt of x is g x; env0: the frame behind it -/
theorem lc_map {scope : Scope} {f : TF} (fm : FMo f) {vs : List Nat} {ds : List D} {e1 : Env} {α : Type} (enc : α → D) (xs : List α) (g : α → D) (env0 : Env) (h0 : wipeE e1 vs = env0) (hd : ds = xs.map enc) (hl : xs.length < sizeLine)
    (step : ∀ (k : Nat) x, xs[k]? = some x → f (enc x) env0 fun e' => Blk X scope fun X' => WA Z X' elt e' fun a e3 => absorb [a] e3 fun ds e4 => ds = [g x] ∧ wipeE e4 vs = env0)
    (fin : ∀ p, P (.t (.lst p (xs.map g))) env0) : LcI Z X scope f elt vs (fun e k => k true e) P ds e1 := by
  subst hd
  refine ⟨fun k acc e => e = env0 ∧ acc = (xs.take k).map g, ⟨h0, rfl⟩, ?_, ?_⟩
  · rintro k d acc e hk ⟨rfl, rfl⟩
    rw [List.getElem?_map, Option.map_eq_some_iff] at hk
    obtain ⟨x, hx, rfl⟩ := hk
    have q := step k x hx
    have up : ∀ {e' : Env}, (Blk X scope fun X' => WA Z X' elt e' fun a e3 => absorb [a] e3 fun ds e4 => ds = [g x] ∧ wipeE e4 vs = e) → ((true = true → ElI Z X scope elt vs (fun acc e0 => e0 = e ∧ acc = (xs.take (k + 1)).map g) ((xs.take k).map g) e') ∧ (true = false → (fun acc e0 => e0 = e ∧ acc = (xs.take (k + 1)).map g) ((xs.take k).map g) (wipeE e' vs))) := fun {e'} w => by
      refine ⟨fun _ s H C cl fp => ?_, fun z => nomatch z⟩
      refine WE.imp (w s H C cl fp) fun r e3 hr => ?_
      have ab : ∀ {a : A} {e3 : Env}, absorb [a] e3 (fun ds e4 => ds = [g x] ∧ wipeE e4 vs = e) → absorb [a] e3 fun ds e4 => match ds with | [y] => ((xs.take k).map g).length < sizeLine ∧ (fun acc e0 => e0 = e ∧ acc = (xs.take (k + 1)).map g) ((xs.take k).map g ++ [y]) (wipeE e4 vs) | _ => False := fun {a e3} h => by
        have fin : ∀ {y : D} {e4 : Env}, [y] = [g x] ∧ wipeE e4 vs = e → ((xs.take k).map g).length < sizeLine ∧ (wipeE e4 vs = e ∧ (xs.take k).map g ++ [y] = (xs.take (k + 1)).map g) := fun {y e4} ⟨h1, h2⟩ => by
          cases h1
          refine ⟨?_, h2, ?_⟩
          · rw [List.length_map, List.length_take]; omega
          · rw [List.take_add_one, hx]; simp
        cases a with
        | va d => exact fin h
        | bor a i p =>
          unfold absorb at h ⊢
          split at h
          · refine ⟨h.1, ?_⟩
            have h := h.2
            split at h
            · exact fin h
            · exact h.elim
          · exact h.elim
      cases r with
      | bor a i p => exact ab hr
      | t t =>
        unfold toA at hr ⊢
        simp only at hr ⊢
        split at hr
        · rename_i d hf
          exact ab (a := .va d) hr
        · exact hr.elim
    exact fm.mo q fun e' w => up w
  · rintro acc e ⟨rfl, rfl⟩ p
    rw [List.length_map, List.take_length]
    exact fin p
end
end QL

/-! QP: t[::-1]; a list of one thing sorted; comprehensions with an if. -/
namespace PySem.HTR
open PySem PySem.Spec PyProof.Rows HT PySem.SeqAt PySem.MeetsSeq PySem.MeetsSeq2 PySem.MeetsSeq3
open PySem.AutoSeq1 (wpAny_loadPart')
end PySem.HTR
namespace QL
open PySem PySem.Spec PyProof.Rows L2
section
variable {Tq : List (Addr × Str)} {Z : Zb Tq} {X : Cx} {e a b c o tg iter elt : Expr} {es : List Expr} {env : Env} {pos p1 p2 p3 : Pos} {P : R → Env → Prop} {k : Nat}
theorem WE.to {r0 : R} {e1 : Env} (h : WE Z X e env fun r e2 => r = r0 ∧ e2 = e1) (k : P r0 e1) : WE Z X e env P := WE.imp h fun _ _ ⟨a, b⟩ => by subst a b; exact k
theorem tLc_mono {σ : L2.St} {H : Hp} {g : TG} {tt : TT} {te : TE} {vs : List Nat} {Q Q' : VK} (hq : ∀ v H, Q v H → Q' v H) (h : tLc (tI Z X tg iter) g tt te vs σ H Q) : tLc (tI Z X tg iter) g tt te vs σ H Q' := by
  obtain ⟨env, F, O, P, b, o, w, k⟩ := h
  refine ⟨env, F, O, P, b, o, w, fun J H1 F1 O1 ds e1 b1 o1 fr gv p D hD => ?_⟩
  obtain ⟨W, h0, hs⟩ := k J H1 F1 O1 ds e1 b1 o1 fr gv p D hD
  exact ⟨W, h0, fun i m H hw => (hs i m H hw).imp (fun z => ⟨z.1, hq _ _ z.2⟩) id⟩
/-- y = [..], y a local name -/
theorem ws_setLc (i : Nat) {y : Str} {py pos' : Pos} {g : TG} {f : TF} {ix : List Nat} {scope : Scope} {own : List (Str × Nat)} {PO : Out → Prop} (hc : X.calm = true) (hN : X.N.Nodup) (ok : BlkOk X.N X.env.scope scope own) (hg : Blk X scope fun X' => PG X' tg g) (gk : GOk Z g f ix) (hix : ∀ i ∈ ix, i ∈ own.map (·.2))
    (h : WI Z X tg iter env (LcI Z X scope f elt (own.map (·.2)) (fun e k => k true e) fun r e1 => storeR r i e1 fun e2 => PO (.nx e2))) (hy : X.N[i]? = some y := by rfl) (hyl : X.env.scope.names.lookup y = some .local := by rfl)
    (hsw : swapsWith (.ListComp elt [⟨tg, iter, [], 0⟩] scope pos') (some (.Name y py)) pos.line X.env = pure true := by exact sw_true rfl rfl rfl (by decide +kernel)) (hs : ∀ x, foldedSetIterable iter X.env x = pure x := by intro _; rfl) :
    WS Z X (.Assign [.Name y py] (.ListComp elt [⟨tg, iter, [], 0⟩] scope pos') pos) env PO :=
  ws_of (ps_setLc hc hN hy hyl hsw (pi_I (Z := Z)) ok hg (fun _ _ _ _ _ => pts_nil) (pe_AB (Z := Z)) hs) fun σ H F O b o =>
    tLc_mono (fun v H1 ⟨F1, O1, r, e1, b1, st, fr, p⟩ => by
      obtain ⟨F2, O2, e2, b2, o2, fr2, q⟩ := storeR_ok b1 st p
      exact ⟨F2, O2, e2, b2, o2, fr.trans fr2, q⟩) (lc_read gk hix (fun σ H F O env k Q b o t q => q true H F O env b o (Frm.refl _ _ _) t) b o h)
theorem ws_setLcIf (i : Nat) {y : Str} {py pos' : Pos} {g : TG} {f : TF} {ix : List Nat} {scope : Scope} {own : List (Str × Nat)} {PO : Out → Prop} (hc : X.calm = true) (hN : X.N.Nodup) (ok : BlkOk X.N X.env.scope scope own) (hg : Blk X scope fun X' => PG X' tg g) (gk : GOk Z g f ix) (hix : ∀ i ∈ ix, i ∈ own.map (·.2))
    (h : WI Z X tg iter env (LcI Z X scope f elt (own.map (·.2)) (fun e k => Blk X scope fun X' => WT Z X' c e k) fun r e1 => storeR r i e1 fun e2 => PO (.nx e2))) (hy : X.N[i]? = some y := by rfl) (hyl : X.env.scope.names.lookup y = some .local := by rfl)
    (hsw : swapsWith (.ListComp elt [⟨tg, iter, [c], 0⟩] scope pos') (some (.Name y py)) pos.line X.env = pure true := by exact sw_true rfl rfl rfl (by decide +kernel)) (hs : ∀ x, foldedSetIterable iter X.env x = pure x := by intro _; rfl) :
    WS Z X (.Assign [.Name y py] (.ListComp elt [⟨tg, iter, [c], 0⟩] scope pos') pos) env PO :=
  ws_of (ps_setLc hc hN hy hyl hsw (pi_I (Z := Z)) ok hg (fun s H C cl fp => pts_one (pt_TB (Z := Z) s H C cl fp)) (pe_AB (Z := Z)) hs) fun σ H F O b o =>
    tLc_mono (fun v H1 ⟨F1, O1, r, e1, b1, st, fr, p⟩ => by
      obtain ⟨F2, O2, e2, b2, o2, fr2, q⟩ := storeR_ok b1 st p
      exact ⟨F2, O2, e2, b2, o2, fr.trans fr2, q⟩) (lc_read gk hix (fun σ H F O env k Q b o t q => ⟨env, F, O, k, b, o, t, fun v H' ⟨F1, O1, e1, b1, o1, fr1, p⟩ => q v H' F1 O1 e1 b1 o1 fr1 p⟩) b o h)
/-- [elt for x in ds if c]: c of x is t x -/
theorem lc_filt {scope : Scope} {f : TF} (fm : FMo f) {vs : List Nat} {ds : List D} {e1 : Env} {α : Type} (enc : α → D) (xs : List α) (t : α → Bool) (g : α → D) (env0 : Env) (h0 : wipeE e1 vs = env0) (hd : ds = xs.map enc) (hl : xs.length < sizeLine)
    (step : ∀ (k : Nat) x, xs[k]? = some x → f (enc x) env0 fun e' => Blk X scope fun X' => WT Z X' c e' fun bb e2 => bb = t x ∧ (t x = true → Blk X scope fun X' => WA Z X' elt e2 fun a e3 => absorb [a] e3 fun ds e4 => ds = [g x] ∧ wipeE e4 vs = env0) ∧ (t x = false → wipeE e2 vs = env0))
    (fin : ∀ p, P (.t (.lst p ((xs.filter t).map g))) env0) : LcI Z X scope f elt vs (fun e k => Blk X scope fun X' => WT Z X' c e k) P ds e1 := by
  subst hd
  refine ⟨fun k acc e => e = env0 ∧ acc = ((xs.take k).filter t).map g, ⟨h0, rfl⟩, ?_, ?_⟩
  · rintro k d acc e hk ⟨rfl, rfl⟩
    rw [List.getElem?_map, Option.map_eq_some_iff] at hk
    obtain ⟨x, hx, rfl⟩ := hk
    have q := step k x hx
    have tk : xs.take (k + 1) = xs.take k ++ [x] := by rw [List.take_add_one, hx]; rfl
    refine fm.mo q fun e' w s H C cl fp => ?_
    refine WT.imp (w s H C cl fp) fun bb e2 ⟨hb, hT, hF⟩ => ?_
    subst hb
    refine ⟨fun ht s2 H2 C2 cl2 fp2 => ?_, fun hf => ⟨hF hf, ?_⟩⟩
    · refine WE.imp (hT ht s2 H2 C2 cl2 fp2) fun r e3 hr => ?_
      have ab : ∀ {a : A} {e3 : Env}, absorb [a] e3 (fun ds e4 => ds = [g x] ∧ wipeE e4 vs = e) → absorb [a] e3 fun ds e4 => match ds with | [y] => (((xs.take k).filter t).map g).length < sizeLine ∧ (fun acc e0 => e0 = e ∧ acc = ((xs.take (k + 1)).filter t).map g) (((xs.take k).filter t).map g ++ [y]) (wipeE e4 vs) | _ => False := fun {a e3} h => by
        have fin : ∀ {y : D} {e4 : Env}, [y] = [g x] ∧ wipeE e4 vs = e → (((xs.take k).filter t).map g).length < sizeLine ∧ (wipeE e4 vs = e ∧ ((xs.take k).filter t).map g ++ [y] = ((xs.take (k + 1)).filter t).map g) := fun {y e4} ⟨h1, h2⟩ => by
          cases h1
          refine ⟨?_, h2, ?_⟩
          · rw [List.length_map]
            have := List.length_filter_le t (xs.take k)
            rw [List.length_take] at this
            omega
          · rw [tk, List.filter_append]; simp [ht]
        cases a with
        | va d => exact fin h
        | bor a i p =>
          unfold absorb at h ⊢
          split at h
          · refine ⟨h.1, ?_⟩
            have h := h.2
            split at h
            · exact fin h
            · exact h.elim
          · exact h.elim
      cases r with
      | bor a i p => exact ab hr
      | t t =>
        unfold toA at hr ⊢
        simp only at hr ⊢
        split at hr
        · exact ab (a := .va _) hr
        · exact hr.elim
    · show ((xs.take k).filter t).map g = ((xs.take (k + 1)).filter t).map g
      rw [tk, List.filter_append]; simp [hf]
  · rintro acc e ⟨rfl, rfl⟩ p
    rw [List.length_map, List.take_length]
    exact fin p
end
end QL

/-! QR: o.m(..), o.f where o is made on the spot. -/
namespace QL
open PySem PySem.Spec PyProof.Rows L2
section
variable {Tq : List (Addr × Str)} {Z : Zb Tq} {X : Cx} {e a b c o value : Expr} {es : List Expr} {env : Env} {pos pos' apos p : Pos} {P : R → Env → Prop} {f x m : Str} {k : Nat} {C : Addr} {ps : List Str} {sp : Spc}
def callT (sp : Spc) (tx : T) (as : List A) (env : Env) (PT : T → Env → Prop) (ET : Ex → Env → Prop) : Prop :=
  deref as env fun ts e2 => sp (tx :: ts) (fun t ts' => match ts' with
      | _ :: ts'' => putb as ts'' e2 fun e3 => PT t e3
      | _ => False)
    (fun ex ts' => match ts' with
      | _ :: ts'' => putb as ts'' e2 fun e3 => ET ex e3
      | [] => False)
theorem call_own {fI : Addr} {fd : FuncData} {ET : Ex → Env → Prop} {as : List A} {vs : List V} {us us0 : List Value} {kw : List (Str × Value)} {pins : List (Addr × Obj)} {s : Shared} {σ : L2.St} {H F : Hp} {O Ox : List Addr} {vx : V} {ux : Value} {tx : T}
    (G : FnG X.prog X.w X.K X.mg X.base Tq k fI fd ps sp) (hr : Room k X.A) (hg : X.A.guards = some []) (tk : Takes X (wxOf Z ET)) (hb : BindsTo s fd ⟨us0, kw⟩ (ps.zip (ux :: us))) (I : Inv X pins σ H s) (b : Bas Z F H (O ++ Ox)) (o : OwE F H O σ env) (wx : Ow F H Ox vx tx) (rx : RelV vx ux)
    (st : StAs F vs as) (r : Vals vs us) (h : callT sp tx as env (fun t e => P (.t t) e) ET) : wpAny (model X.prog X.w) X.A (call (.ref fI) us0 kw) (EP X pins σ (Post Z σ H F (O ++ Ox) P)) X.xe s := by
  obtain ⟨ts, e2, Oc, Or, pm, sv, o2, h⟩ := deref_ok st o h
  have ex : ∀ c ∈ Or, Held H c := o2.held
  have pm2 : (O ++ Ox).Perm ((Ox ++ Oc) ++ Or) := (List.perm_append_comm (l₁ := O)).trans (by rw [List.append_assoc]; exact pm.append_left Ox)
  have bc := (b.perm pm2).left.entry
  have sv2 : StV F H (Ox ++ Oc) (vx :: vs) (tx :: ts) := .cons wx sv
  have r2 : Vals (vx :: vs) (ux :: us) := .cons rx r
  refine wpAny_call (codeAny_mono (G.run X.A X.stack s H ⟨us0, kw⟩ (ux :: us) (vx :: vs) F (Ox ++ Oc) (tx :: ts) _ _
    (fun cls d H' => ∃ e ts' F' O', Bas ⟨H, F, Ox ++ Oc, (b.perm pm2).left.tabs⟩ F' H' O' ∧ StVO F' H' O' (vx :: vs) ts' ∧ ExAt F' e cls d ∧ (match ts' with | _ :: ts'' => putb as ts'' e2 fun e3 => ET e e3 | [] => False)) (b.perm pm2).left.tabs hr hg I.env0 hb r2 bc sv2 h
    fun e ts' cls d H' F' O' b' s' x' q => ⟨e, ts', F', O', b', s', x', q⟩) fun rs s' hq => ?_)
  have back : ∀ {F' H' : Hp} {O1 O2 : List Addr} {ts' : List (Option T)} {kk : Env → Prop}, Bas ⟨H, F, Ox ++ Oc, (b.perm pm2).left.tabs⟩ F' H' (O1 ++ O2) → StVO F' H' O1 vs ts' → putb as ts' e2 kk →
      ∃ e3 O3, OwE F' H' O3 σ e3 ∧ Bas Z F' H' (O3 ++ O2) ∧ Frm Tq H F (O ++ Ox) H' F' (O3 ++ O2) ∧ kk e3 := fun {F' H' O1 O2 ts' kk} b' s' q => by
    have fr := b'.abs
    have b3 := Bas.frame fr (b.perm pm2) b' ex
    have keep := fr.rest (R := Or) (pm2.nodup b.nd) ex
    obtain ⟨e3, O3, Od, o3, p3, q3⟩ := putb_ok st s' (o2.stay fr.fz keep) q
    have p4 : ((O1 ++ O2) ++ Or).Perm ((O3 ++ O2) ++ Od) := by
      have e1 : ((O1 ++ O2) ++ Or).Perm ((O1 ++ Or) ++ O2) := by
        rw [List.append_assoc, List.append_assoc]
        exact List.perm_append_comm.append_left O1
      have e2 : ((O3 ++ O2) ++ Od).Perm ((O3 ++ Od) ++ O2) := by
        rw [List.append_assoc, List.append_assoc]
        exact List.perm_append_comm.append_left O3
      exact e1.trans ((p3.append_right O2).trans e2.symm)
    exact ⟨e3, O3, o3, (b3.perm p4).left, (fr.frame (R := Or)).perm (fun c => pm2.symm.mem_iff) (fun c hc => p4.mem_iff.mpr (List.mem_append_left _ hc)), q3⟩
  cases rs with
  | error e =>
    refine tk e s' (XE.of_call I (fun cls d H' hE => ?_) hq)
    obtain ⟨y, ts', F', O', b', sv', xa, q⟩ := hE
    cases sv' with
    | un sv' =>
      obtain ⟨e3, O3, o3, b3, fr3, q3⟩ := back (O2 := []) (by rw [List.append_nil]; exact b') sv' q
      rw [List.append_nil] at b3 fr3
      exact ⟨F', O3, e3, y, b3, o3, xa, q3⟩
    | cons w sv' =>
      rename_i Ou O1' u ts''
      obtain ⟨e3, O3, o3, b3, fr3, q3⟩ := back (O1 := O1') (O2 := Ou) (b'.perm List.perm_append_comm) sv' q
      exact ⟨F', O3, e3, y, b3.left, o3, xa, q3⟩
  | ok fl =>
    cases fl with
    | ret u =>
      refine EP.imp (fun v H' q => ?_) u s' (I.after hq)
      obtain ⟨F', O1, O2, t, ts', b', sv', w', q⟩ := q
      cases sv' with
      | un sv' =>
        obtain ⟨e3, O3, o3, b3, fr3, q3⟩ := back b' sv' q
        exact ⟨F', O3 ++ O2, .t t, e3, b3, ⟨O3, O2, rfl, o3, w'⟩, fr3, q3⟩
      | cons wu sv' =>
        rename_i Ou O1' u' ts''
        have pmx : ((Ou ++ O1') ++ O2).Perm (O1' ++ (O2 ++ Ou)) := by
          rw [List.append_assoc]
          refine List.perm_append_comm.trans ?_
          rw [List.append_assoc]
        obtain ⟨e3, O3, o3, b3, fr3, q3⟩ := back (O1 := O1') (O2 := O2 ++ Ou) (b'.perm pmx) sv' q
        rw [← List.append_assoc] at b3 fr3
        exact ⟨F', O3 ++ O2, .t t, e3, b3.left, ⟨O3, O2, rfl, o3, w'⟩, fr3.perm (fun _ => Iff.rfl) fun c hc => List.mem_append_left _ hc, q3⟩
    | next => exact hq.elim
    | brk => exact hq.elim
    | cont => exact hq.elim
/-- the receiver is made on the spot -/
def methTR {Tq : List (Addr × Str)} (as : List Expr) (Z : Zb Tq) (X : Cx) (C : Addr) (m : Str) (r : R) (e1 : Env) (k : T → List A → Env → Prop) : Prop := match r with
  | .t (.ins a C' fs) => (C' = C ∧ fs.lookup m = none) ∧ WAs Z X as e1 fun as' e2 => k (.ins a C fs) as' e2
  | _ => False
theorem methTR_ok {σ : L2.St} {F H : Hp} {O : List Addr} {v : V} {r : R} {e1 : Env} {kk : T → List A → Env → Prop} (st : StR F H O σ e1 v r) (h : methTR es Z X C m r e1 kk) :
    ∃ a fs dx vs Oa Ob, v = .ref a ∧ H a = some (.ins C dx vs) ∧ vs.lookup m = none ∧ O = Oa ++ Ob ∧ OwE F H Oa σ e1 ∧ Ow F H Ob v (.ins a C fs) ∧ WAs Z X es e1 fun as' e2 => kk (.ins a C fs) as' e2 := by
  unfold methTR at h
  split at h
  · rename_i a C' fs
    obtain ⟨⟨rfl, hm⟩, h⟩ := h
    obtain ⟨Oa, Ob, rfl, o1, w1⟩ := st
    cases w1 with
    | ins ha hd rr =>
      refine ⟨_, fs, _, _, Oa, _, rfl, ha, ?_, rfl, o1, .ins ha hd rr, h⟩
      rcases rr.look (f := m) with ⟨_, e2⟩ | ⟨t, w, Ot, e2, _, _⟩
      · exact e2
      · rw [hm] at e2; cases e2
  · exact h.elim
theorem w_methT {pl : Sem Bool} (G : Mf X.prog X.w X.K X.mg X.base Tq k C m ps sp) (hr : Room k X.A) (hgd : X.A.guards = some [])
    (h : WE Z X o env fun r e1 => methTR (e :: es) Z X C m r e1 fun tx as e2 => callT sp tx as e2 (fun t e => P (.t t) e) fun _ _ => False)
    (hst : starEach (e :: es) X.env = (false, eval e X.env) :: starEach es X.env := by rfl) (hpl : (backTo pos (starEach es X.env)).any (·.1) = false := by rfl)
    (ht : eval (.Call (.Attribute o m apos) (e :: es) [] pos) X.env = (do
      let ov ← eval o X.env
      standAt apos.atName
      let (f, first) ← holding [ov] (getMethod ov m pl)
      callWith pos f first (backTo pos (starEach (e :: es) X.env)) (backToKw pos (keywordEach [] X.env))) := by rfl) :
    WE Z X (.Call (.Attribute o m apos) (e :: es) [] pos) env P := fun pins s σ H F O I b o0 => by
  obtain ⟨f, fd, g, c, hm, hb⟩ := G.ex
  refine PySem.W.methodCall_KW (pl := pl) (thn (h pins s σ H F O I b o0) fun u s1 ⟨v, H1, I1, rx, F1, O1, r, e1, b1, st, fr, q⟩ => ?_) ht
  obtain ⟨a, fs, dx, vs, Oa, Ob, rfl, ha, hl, rfl, o1, wx, q⟩ := methTR_ok st q
  obtain rfl : u = Value.ref a := rx
  refine getmeth_ok I1 ha c hm hl ?_
  refine PySem.W.callWith_K (first := [.ref a]) (h₀ := X.base) I1.ok.mod.kin hm.kp (thn ((pa_As (Z := Z)).run pos pins s1 σ H1 (PostAs Z σ H1 F1 Oa _) I1 ⟨e1, F1, Oa, _, b1.left, o1, q, fun _ _ q => q⟩) fun us s2 ⟨vs2, H2, I2, r2, F2, O2, as, e2, b2, o2, st2, fr2, q2⟩ => ⟨I2.kIn, ?_⟩) hst hpl
  have exb := wx.held
  have b3 := Bas.frame fr2 b1 b2 exb
  have wx2 := wx.stay fr2.fz (fr2.rest b1.nd exb)
  have hl2 : (Value.ref a :: us ++ []).length = ps.length := by
    obtain ⟨ts, e3, Oc, Or, pm, sv, o3, hh⟩ := deref_ok st2 o2 q2
    rw [← g.len _ _ _ hh, List.append_nil]
    show us.length + 1 = ts.length + 1
    rw [← sv.len, ← r2.length]
  have hb2 := hb s2 (Value.ref a :: us) I2.kIn hl2
  rw [List.append_nil] at hb2
  exact thn (call_own (us0 := .ref a :: us) (kw := []) g hr hgd takes_no hb2 I2 b3 o2 wx2 rfl st2 r2 q2) (EP.imp fun v H' q => q.from (fr.trans fr2.frame))
end
/-- a promise drawn from another -/
theorem FnG.weaken {P : Program} {w : World} {K : PySem.W.Frag} {mg : Str → Option Value} {base : Heap} {Tq : List (Addr × Str)} {k : Nat} {f : Addr} {fd : FuncData} {ps : List Str} {sp sp' : Spc} (G : FnG P w K mg base Tq k f fd ps sp) (h : ∀ ts QT ET, sp' ts QT ET → sp ts QT ET) : FnG P w K mg base Tq k f fd ps sp' :=
  ⟨fun ts Q E c => G.len ts Q E (h ts Q E c), fun A outer s H args us vs F O ts QT ET E tbs hr hg e0 hb r b sv hsp hE => G.run A outer s H args us vs F O ts QT ET E tbs hr hg e0 hb r b sv (h ts QT ET hsp) hE⟩
end QL

/-! QTJ: classes and methods called by names alone. -/
namespace QL
open PySem PySem.Spec PyProof.Rows L2
/-- what is written by names, behind the object -/
def KwOkS (K : PySem.W.Frag) (fd : FuncData) (ps ks : List Str) (ns : List Nat) : Prop := ∀ (s : Shared) (v : Value) (us : List Value), K.In s.heap → us.length = ks.length → BindsTo s fd ⟨[v], ks.zip us⟩ (ps.zip (v :: pick ns us))
structure MfK (P : Program) (w : World) (K : PySem.W.Frag) (mg : Str → Option Value) (base : Heap) (Tq : List (Addr × Str)) (k : Nat) (C : Addr) (m : Str) (ps ks : List Str) (ns : List Nat) (sp : Spc) : Prop where
  ex : ∃ f fd, FnG P w K mg base Tq k f fd ps sp ∧ Cls K C ∧ Meth K C m f ∧ KwOkS K fd ps ks ns
theorem MfK.mono {P : Program} {w : World} {K : PySem.W.Frag} {mg : Str → Option Value} {base : Heap} {Tq : List (Addr × Str)} {j k : Nat} {C : Addr} {m : Str} {ps ks : List Str} {ns : List Nat} {sp : Spc} (G : MfK P w K mg base Tq j C m ps ks ns sp) (h : j ≤ k) : MfK P w K mg base Tq k C m ps ks ns sp :=
  let ⟨f, fd, g, r⟩ := G.ex; ⟨f, fd, g.mono h, r⟩
structure CkK (P : Program) (w : World) (K : PySem.W.Frag) (mg : Str → Option Value) (base : Heap) (Tq : List (Addr × Str)) (k : Nat) (x : Str) (C : Addr) (ps ks : List Str) (ns : List Nat) (sp : Spc) : Prop where
  ex : ∃ f fd, FnG P w K mg base Tq k f fd ps sp ∧ Mk K C f ∧ mg x = some (.ref C) ∧ KwOkS K fd ps ks ns
theorem CkK.mono {P : Program} {w : World} {K : PySem.W.Frag} {mg : Str → Option Value} {base : Heap} {Tq : List (Addr × Str)} {j k : Nat} {x : Str} {C : Addr} {ps ks : List Str} {ns : List Nat} {sp : Spc} (G : CkK P w K mg base Tq j x C ps ks ns sp) (h : j ≤ k) : CkK P w K mg base Tq k x C ps ks ns sp :=
  let ⟨f, fd, g, r⟩ := G.ex; ⟨f, fd, g.mono h, r⟩
section
variable {Tq : List (Addr × Str)} {Z : Zb Tq} {X : Cx} {e a b c o value : Expr} {es : List Expr} {env : Env} {pos pos' apos p : Pos} {P : R → Env → Prop} {f x m : Str} {k : Nat} {C : Addr} {ps ks : List Str} {ns : List Nat} {sp : Spc} {kws : List Keyword}
theorem make_gK {us0 : List Value} {kw : List (Str × Value)} {fI : Addr} {fd : FuncData} {ET : Ex → Env → Prop} {as : List A} {vs : List V} {us : List Value} {pins : List (Addr × Obj)} {s : Shared} {σ : L2.St} {H F : Hp} {O : List Addr}
    (M : Mk X.K C fI) (G : FnG X.prog X.w X.K X.mg X.base Tq k fI fd ps sp) (hr : Room (k + 1) X.A) (hg : X.A.guards = some []) (tk : Takes X (wxOf Z ET)) (hb : ∀ (s : Shared) (v : Value), X.K.In s.heap → ps.length = us.length + 1 → BindsTo s fd ⟨v :: us0, kw⟩ (ps.zip (v :: us))) (I : Inv X pins σ H s) (b : Bas Z F H O) (o : OwE F H O σ env)
    (st : StAs F vs as) (r : Vals vs us) (h : callN sp C as env (fun t e => P (.t t) e) ET) : wpAny (model X.prog X.w) X.A (call (.ref C) us0 kw) (EP X pins σ (Post Z σ H F O P)) X.xe s := by
  have nx : H (s.heap.objs.size + 1) = none := I.hok.fresh (Nat.le_succ _)
  have ndx : H s.heap.objs.size = none := I.hok.fresh (Nat.le_refl _)
  have nex : s.heap.objs.size ≠ s.heap.objs.size + 1 := Nat.ne_of_lt (Nat.lt_succ_self _)
  have h := h (s.heap.objs.size + 1)
  have I2 := Inv.made (C := C) I
  generalize eH : upd (upd H s.heap.objs.size (.own (s.heap.objs.size + 1))) (s.heap.objs.size + 1) (.ins C s.heap.objs.size []) = H2 at I2
  have h2x : H2 (s.heap.objs.size + 1) = some (.ins C s.heap.objs.size []) := by rw [← eH, upd_same]
  have h2d : H2 s.heap.objs.size = some (.own (s.heap.objs.size + 1)) := by rw [← eH, upd_ne nex, upd_same]
  have s2 : Same H H2 := fun c y e => by rw [← eH, upd_ne (ne_of_none e nx), upd_ne (ne_of_none e ndx)]; exact e
  obtain ⟨ts, e2, Oc, Or, pm, sv, o2, h⟩ := deref_ok st o h
  have ex : ∀ c ∈ Or, Held H c := o2.held
  have exc : ∀ c ∈ Oc, Held H c := fun c hc => o.held c (pm.mem_iff.mpr (List.mem_append_left _ hc))
  have keep2 : ∀ c, H c ≠ none → H2 c = H c := fun c hc => by
    cases q : H c with
    | none => exact absurd q hc
    | some y => exact s2 c y q
  -- the new instance beside the arguments
  have Fx : F (s.heap.objs.size + 1) = none := b.sub.free nx
  have Fd : F s.heap.objs.size = none := b.sub.free ndx
  have fr0 : Frm Tq H F O H2 F (O ++ [s.heap.objs.size + 1, s.heap.objs.size]) := ⟨Same.refl _, fun c y e _ _ => s2 c y e, fun c e => by rw [keep2 c e]; exact e, fun c e => .inl e, fun c hc => by
    rcases List.mem_append.mp hc with z | z
    · exact .inl z
    · rcases List.mem_cons.mp z with rfl | z
      · exact .inr nx
      · rw [List.mem_singleton.mp z]; exact .inr ndx, tab_same s2⟩
  have b0 : Bas Z F H2 (O ++ [s.heap.objs.size + 1, s.heap.objs.size]) := ⟨b.sub.trans s2, List.nodup_append.mpr ⟨b.nd, List.nodup_cons.mpr ⟨fun z => nex (List.mem_singleton.mp z).symm, List.nodup_cons.mpr ⟨fun z => (nomatch z), List.nodup_nil⟩⟩, fun c hc d hd z => by
      subst z
      have := o.there c hc
      rcases List.mem_cons.mp hd with z | z
      · exact this (z ▸ nx)
      · exact this ((List.mem_singleton.mp z) ▸ ndx)⟩, fun c hc => by
      rcases List.mem_append.mp hc with z | z
      · exact b.dis c z
      · rcases List.mem_cons.mp z with rfl | z
        · exact Fx
        · rw [List.mem_singleton.mp z]; exact Fd, b.abs.trans fr0⟩
  have pm2 : (O ++ [s.heap.objs.size + 1, s.heap.objs.size]).Perm (((s.heap.objs.size + 1) :: s.heap.objs.size :: Oc) ++ Or) := (List.perm_append_comm (l₁ := O)).trans ((pm.cons s.heap.objs.size).cons (s.heap.objs.size + 1))
  have bc := (b0.perm pm2).left.entry
  have sv2 : StV F H2 ((s.heap.objs.size + 1) :: s.heap.objs.size :: Oc) (.ref (s.heap.objs.size + 1) :: vs) (.ins (s.heap.objs.size + 1) C [] :: ts) := by
    have w0 : Ow F H2 [s.heap.objs.size + 1, s.heap.objs.size] (.ref (s.heap.objs.size + 1)) (.ins (s.heap.objs.size + 1) C []) := .ins h2x h2d .nil
    have svs : StV F H2 Oc vs ts := by
      have key : ∀ {Oc : List Addr} {vs : List V} {ts : List T}, StV F H Oc vs ts → (∀ c ∈ Oc, H2 c = H c) → StV F H2 Oc vs ts := fun {Oc vs ts} z => by
        induction z with
        | nil => intro _; exact .nil
        | cons w r ih => intro kk; exact .cons (w.stay (Same.refl _) fun c hc => kk c (List.mem_append_left _ hc)) (ih fun c hc => kk c (List.mem_append_right _ hc))
      exact key sv fun c hc => keep2 c (exc c hc).ne
    exact .cons w0 svs
  have r2 : Vals (V.ref (s.heap.objs.size + 1) :: vs) (Value.ref (s.heap.objs.size + 1) :: us) := .cons rfl r
  have hl : (Value.ref (s.heap.objs.size + 1) :: us ++ []).length = ps.length := by
    rw [List.append_nil, ← r2.length, sv2.len, G.len _ _ _ h]
  have ex2 : ∀ c ∈ Or, Held H2 c := fun c hc => let ⟨y, e, n⟩ := ex c hc; ⟨y, s2 c y e, n⟩
  refine wpAny_call (make_map (f := fI) I.kIn M.makes M.init (beq_iff_eq.mp M.fn) ?_)
  have hb2 := hb _ (Value.ref (s.heap.objs.size + 1)) I2.kIn (by rw [List.append_nil] at hl; exact hl.symm)
  have run := G.run (X.A.under (.builtin "type.__call__" ⟨.ref C :: us0, kw⟩)) X.stack _ H2 ⟨Value.ref (s.heap.objs.size + 1) :: us0, kw⟩ (Value.ref (s.heap.objs.size + 1) :: us) (V.ref (s.heap.objs.size + 1) :: vs) F ((s.heap.objs.size + 1) :: s.heap.objs.size :: Oc) (.ins (s.heap.objs.size + 1) C [] :: ts) _ _
    (fun cls d H' => ∃ e ts' F' O', Bas ⟨H2, F, (s.heap.objs.size + 1) :: s.heap.objs.size :: Oc, (b0.perm pm2).left.tabs⟩ F' H' O' ∧ StVO F' H' O' (.ref (s.heap.objs.size + 1) :: vs) ts' ∧ ExAt F' e cls d ∧ (match ts' with | _ :: ts'' => putb as ts'' e2 fun e3 => ET e e3 | [] => False)) (b0.perm pm2).left.tabs (hr.make C us0 kw) (guards_make hg) (I2.env0.make C us0 kw) hb2 r2 bc sv2 h
    fun e ts' cls d H' F' O' b' s' x' q => ⟨e, ts', F', O', b', s', x', q⟩
  refine codeAny_mono (run) fun rs s' hq => ?_
  have back : ∀ {F' H' : Hp} {O1 O2 : List Addr} {ts' : List (Option T)} {kk : Env → Prop}, Bas ⟨H2, F, _ :: s.heap.objs.size :: Oc, (b0.perm pm2).left.tabs⟩ F' H' (O1 ++ O2) → StVO F' H' O1 vs ts' → putb as ts' e2 kk →
      ∃ e3 O3, OwE F' H' O3 σ e3 ∧ Bas Z F' H' (O3 ++ O2) ∧ Frm Tq H F O H' F' (O3 ++ O2) ∧ kk e3 := fun {F' H' O1 O2 ts' kk} b' s' q => by
    have fr := b'.abs
    have b3 := Bas.frame fr (b0.perm pm2) b' ex2
    have keep := fr.rest (R := Or) (pm2.nodup b0.nd) ex2
    obtain ⟨e3, O3, Od, o3, p3, q3⟩ := putb_ok (F := F') (H := H') (st) s' (o2.stay fr.fz fun c hc => (keep c hc).trans (keep2 c (ex c hc).ne)) q
    have p4 : ((O1 ++ O2) ++ Or).Perm ((O3 ++ O2) ++ Od) := by
      have e1 : ((O1 ++ O2) ++ Or).Perm ((O1 ++ Or) ++ O2) := by
        rw [List.append_assoc, List.append_assoc]
        exact List.perm_append_comm.append_left O1
      have e2 : ((O3 ++ O2) ++ Od).Perm ((O3 ++ Od) ++ O2) := by
        rw [List.append_assoc, List.append_assoc]
        exact List.perm_append_comm.append_left O3
      exact e1.trans ((p3.append_right O2).trans e2.symm)
    exact ⟨e3, O3, o3, (b3.perm p4).left, fr0.trans ((fr.frame (R := Or)).perm (fun c => pm2.symm.mem_iff) (fun c hc => p4.mem_iff.mpr (List.mem_append_left _ hc))), q3⟩
  cases rs with
  | error e =>
    refine tk e s' (XE.of_call I2 (fun cls d H' hE => ?_) hq)
    obtain ⟨y, ts', F', O', b', sv', xa, q⟩ := hE
    cases sv' with
    | un sv' =>
      obtain ⟨e3, O3, o3, b3, fr3, q3⟩ := back (O2 := []) (by rw [List.append_nil]; exact b') sv' q
      rw [List.append_nil] at b3 fr3
      exact ⟨F', O3, e3, y, b3, o3, xa, q3⟩
    | cons w sv' =>
      rename_i Ou O1' u ts''
      obtain ⟨e3, O3, o3, b3, fr3, q3⟩ := back (O1 := O1') (O2 := Ou) (b'.perm List.perm_append_comm) sv' q
      exact ⟨F', O3, e3, y, b3.left, o3, xa, q3⟩
  | ok fl =>
    cases fl with
    | ret u =>
      obtain ⟨v, H', I3, rv, F', O1, O2, t, ts', b', sv', w', rfl, q⟩ := I2.after hq
      cases w' with
      | va rr =>
        cases rr
        refine ⟨rv, ?_⟩
        cases sv' with
        | un sv' => exact q.elim
        | cons w sv' =>
          rename_i Ou O1' u ts''
          obtain ⟨hu, q⟩ := q
          have pmx : ((Ou ++ O1') ++ []).Perm (O1' ++ Ou) := by rw [List.append_nil]; exact List.perm_append_comm
          obtain ⟨e3, O3, o3, b3, fr3, q3⟩ := back (O1 := O1') (O2 := Ou) (b'.perm pmx) sv' q
          exact ⟨V.ref (s.heap.objs.size + 1), H', I3, rfl, F', O3 ++ Ou, .t u, e3, b3, ⟨O3, Ou, rfl, o3, w⟩, fr3, q3⟩
    | next => exact hq.elim
    | brk => exact hq.elim
    | cont => exact hq.elim

end
end QL

/-! QS: a, b, c = x, y, z. -/
namespace QL
open PySem PySem.Spec PyProof.Rows L2
section
variable {Tq : List (Addr × Str)} {Z : Zb Tq} {X : Cx} {env : Env} {PO : Out → Prop} {a b c : Expr} {pos : Pos}
theorem ws_par3 (i j l : Nat) {x y z : Str} {px py pz pt : Pos} {kt k2 pt2} (hc : X.calm = true) (hN : X.N.Nodup)
    (h : WAs Z X [a, b, c] env fun as e1 => absorb as e1 fun ds e2 => ∃ d1 d2 d3, ds = [d1, d2, d3] ∧ i < e2.length ∧ j < e2.length ∧ l < e2.length ∧ PO (.nx (((e2.set i (some (.va d1))).set j (some (.va d2))).set l (some (.va d3)))))
    (hi : X.N[i]? = some x := by rfl) (hj : X.N[j]? = some y := by rfl) (hl : X.N[l]? = some z := by rfl) (hij : i ≠ j := by decide) (hil : i ≠ l := by decide) (hjl : j ≠ l := by decide)
    (hx : X.env.scope.names.lookup x = some .local := by rfl) (hy : X.env.scope.names.lookup y = some .local := by rfl) (hz : X.env.scope.names.lookup z = some .local := by rfl)
    (hw : swappedStores [.Tuple [.Name x px, .Name y py, .Name z pz] kt pt] (.Tuple [a, b, c] k2 pt2) X.env = pure (some [x, y, z]) := by rfl)
    (hs : swapsWithSole [.Tuple [.Name x px, .Name y py, .Name z pz] kt pt] (.Tuple [a, b, c] k2 pt2) pos.line X.env = pure false := by rfl) :
    WS Z X (.Assign [.Tuple [.Name x px, .Name y py, .Name z pz] kt pt] (.Tuple [a, b, c] k2 pt2) pos) env PO :=
  ws_of (ps_par3 hc hN hi hj hl hij hil hjl hx hy hz (pa_As (Z := Z)) hw hs) fun σ H F O b0 o => by
    refine ⟨env, F, O, _, b0, o, h, fun vs H1 ⟨F1, O1, as, e1, b1, o1, st1, fr1, h1⟩ => ?_⟩
    obtain ⟨F2, O2, ds, e2, b2, o2, r2, fr2, d1, d2, d3, hd, li, lj, ll, p⟩ := absorb_ok st1 b1 o1 h1
    subst hd
    cases r2 with
    | @cons v1 _ _ _ q1 r2 =>
    cases r2 with
    | @cons v2 _ _ _ q2 r2 =>
    cases r2 with
    | @cons v3 _ _ _ q3 r2 =>
    cases r2
    obtain ⟨O5, P5, o5, p5⟩ := o2.set i (.va q1) li
    obtain ⟨O6, P6, o6, p6⟩ := o5.set j (.va q2) (by rw [List.length_set]; exact lj)
    obtain ⟨O7, P7, o7, p7⟩ := o6.set l (.va q3) (by rw [List.length_set, List.length_set]; exact ll)
    rw [List.nil_append] at p5 p6 p7
    obtain ⟨b5, f5⟩ := b2.dropP p5
    obtain ⟨b6, f6⟩ := b5.dropP p6
    obtain ⟨b7, f7⟩ := b6.dropP p7
    exact ⟨v1, v2, v3, rfl, F2, O7, _, b7, o7, (((fr1.trans fr2).trans f5).trans f6).trans f7, p⟩
theorem rgV_rp {F : Hp} (i j : Int) : RpA F (rgV i j) (rangeD i (j - i).toNat) := by
  unfold rgV rangeD
  generalize List.range (j - i).toNat = ks
  induction ks with
  | nil => exact .nil
  | cons k ks ih => exact .cons (.int _) ih
section
variable {P : R → Env → Prop} {p p2 pos2 : Pos}
theorem w_lstRg2 (hc : X.calm = true) (hm : X.mg "list" = none) (hm2 : X.mg "range" = none)
    (h : WE Z X a env fun r1 e1 => ∃ i, r1 = .t (.va (.int i)) ∧ WE Z X b e1 fun r2 e2 => ∃ j, r2 = .t (.va (.int j)) ∧ RgOk i j ∧ ∀ q, P (.t (.lst q (rangeD i (j - i).toNat))) e2)
    (hg : Gl X "list" := by rfl) (hg2 : Gl X "range" := by rfl)
    (na : starEach [a, b] X.env = (false, eval a X.env) :: starEach [b] X.env := by rfl) (nb : starEach [b] X.env = (false, eval b X.env) :: starEach [] X.env := by rfl) (hp : (backTo pos2 (starEach [b] X.env)).any (·.1) = false := by rfl)
    (hs : starEach [.Call (.Name "range" p2) [a, b] [] pos2] X.env = (false, eval (.Call (.Name "range" p2) [a, b] [] pos2) X.env) :: starEach [] X.env := by rfl) :
    WE Z X (.Call (.Name "list" p) [.Call (.Name "range" p2) [a, b] [] pos2] [] pos) env P :=
  we_of (pe_listRg hc hg hm (prg_2 hg2 hm2 (pe_E (Z := Z)) (pe_E (Z := Z)) na nb hp) hs) fun σ H F O b0 o => ⟨env, F, O, _, b0, o, h, fun x H1 h1 => by
    obtain ⟨i, F1, O1, e1, rfl, b1, o1, fr1, p⟩ := post_int h1
    exact ⟨e1, F1, O1, _, b1, o1, p, fun y H2 h2 => by
      obtain ⟨j, F2, O2, e2, rfl, b2, o2, fr2, ok, p⟩ := post_int h2
      exact ⟨i, j, rfl, rfl, ok, fun q hq => ((NewV.lst b2.sub (rgV_rp i j) hq (k := fun t => t = .lst q (rangeD i (j - i).toNat)) rfl).post b2 o2 (fun t e => by subst e; exact p q)).from (fr1.trans fr2)⟩⟩⟩
end
end
end QL

/-! QT: dicts: d[k]; dicts locked for good. -/
namespace QL
open PySem PySem.Spec PyProof.Rows L2
def valT (kvs : List (Key × D)) (k : Key) : Option D := (kvs.find? fun kv => decide (kv.1 = k)).map (·.2)
theorem kD_inj : ∀ {a b : Key}, kD a = kD b → a = b
  | .inl _, .inl _, h => by cases h; rfl
  | .inr _, .inr _, h => by cases h; rfl
  | .inl _, .inr _, h => nomatch h
  | .inr _, .inl _, h => nomatch h
theorem RpK.val {F : Hp} : ∀ {kvs : List (Key × V)} {ds : List (Key × D)} {k : Key} {d : D}, RpK F kvs (ds.map fun p => (kD p.1, p.2)) → valT ds k = some d → ∃ v, valV kvs k = some v ∧ Rp F v d
  | [], [], k, d, _, h => nomatch h
  | [], q :: ds, k, d, r, h => nomatch r
  | p :: kvs, [], k, d, r, h => nomatch r
  | p :: kvs, q :: ds, k, d, r, h => by
    obtain ⟨k1, v1⟩ := p
    obtain ⟨k2, d2⟩ := q
    have r' : RpK F ((k1, v1) :: kvs) ((kD k2, d2) :: ds.map fun p => (kD p.1, p.2)) := r
    generalize hz : kD k2 = z at r'
    cases r' with
    | cons r1 r2 =>
      have ek : k2 = k1 := kD_inj hz
      subst ek
      unfold valT valV at *
      rw [List.find?_cons] at h ⊢
      by_cases e : k2 = k
      · simp only [e, decide_true] at h ⊢
        cases h
        exact ⟨v1, rfl, r1⟩
      · simp only [e, decide_false] at h ⊢
        exact RpK.val r2 h
def dixG (d1 d2 : D) (k : T → Prop) : Prop := ∃ (kvs : List (Key × D)) (y : Key) (v : D), d1 = .dict (kvs.map fun p => (kD p.1, p.2)) ∧ d2 = kD y ∧ valT kvs y = some v ∧ k (.va v)
section
variable {Tq : List (Addr × Str)} {Z : Zb Tq} {X : Cx} {env : Env} {P : R → Env → Prop} {a b : Expr} {pos : Pos}
theorem Rp.key {F : Hp} {v : V} {y : Key} (r : Rp F v (kD y)) : v = kV y := by
  cases y with
  | inl i => cases r; rfl
  | inr x => cases r; rfl
theorem w_dix (hu : X.A.units + 1 < cLine) (h : WA Z X a env fun a1 e1 => WA Z X b e1 fun a2 e2 => View a1 e2 fun d1 => View a2 e2 fun d2 => dixG d1 d2 fun t => P (.t t) e2) (hs : NoSl b := by intro _ _; rfl) : WE Z X (.Subscript a b pos) env P :=
  we_of (pe_dget hu (pe_A (Z := Z)) (pe_A (Z := Z)) hs) fun σ H F O b0 o => ⟨env, F, O, _, b0, o, h, fun x H1 ⟨F1, O1, a1, e1, b1, o1, st1, fr1, h1⟩ => ⟨e1, F1, O1, _, b1, o1, h1, fun y H2 ⟨F2, O2, a2, e2, b2, o2, st2, fr2, h2⟩ => by
    obtain ⟨d1, w1, h3⟩ := View.vw h2 o2 (st1.mono fr2.fz)
    obtain ⟨d2, w2, kvs, k, v, rfl, rfl, hv, q⟩ := View.vw h3 o2 st2
    have ey : y = kV k := by
      cases k with
      | inl i => cases w2; rename_i r; exact r.key (y := .inl i)
      | inr x => cases w2; rename_i r; exact r.key (y := .inr x)
    cases w1 with
    | pure r =>
      cases r with
      | dic hd rk =>
        obtain ⟨z, hz, rz⟩ := RpK.val rk hv
        refine ⟨_, z, rfl, .inl ⟨_, k, rd_mono b2.sub hd, ey, hz.symm⟩, ?_⟩
        exact ⟨F2, O2, .t (.va v), e2, b2, ⟨O2, [], (List.append_nil O2).symm, o2, .va rz⟩, fr1.trans fr2, q⟩
    | dic hd rk =>
      obtain ⟨z, hz, rz⟩ := RpK.val rk hv
      refine ⟨_, z, rfl, .inl ⟨_, k, .inl hd, ey, hz.symm⟩, ?_⟩
      exact ⟨F2, O2, .t (.va v), e2, b2, ⟨O2, [], (List.append_nil O2).symm, o2, .va rz⟩, fr1.trans fr2, q⟩⟩⟩
theorem RpT.at_ {F : Hp} : ∀ {vs : List (Key × V)} {ds : List (Key × D)} {i : Nat} {k : Key} {d : D}, RpT F vs ds → ds[i]? = some (k, d) → ∃ v, vs[i]? = some (k, v) ∧ Rp F v d
  | _, _, i, k, d, .nil, h => by simp at h
  | _, _, 0, k, d, .cons r _, h => by simp at h; obtain ⟨rfl, rfl⟩ := h; exact ⟨_, rfl, r⟩
  | _, _, i + 1, k, d, .cons _ r, h => by
    rw [List.getElem?_cons_succ] at h ⊢
    exact RpT.at_ r h
theorem RpT.len {F : Hp} : ∀ {vs : List (Key × V)} {ds : List (Key × D)}, RpT F vs ds → vs.length = ds.length
  | _, _, .nil => rfl
  | _, _, .cons _ r => congrArg (· + 1) r.len
theorem rp_key {F : Hp} : ∀ (k : Key), Rp F (kV k) (kD k)
  | .inl i => .int i
  | .inr x => .str x
theorem gives_items {a : Addr} {o : Obj} {vs : List (Key × V)} {ds : List (Key × D)} {F : Hp} (h : F a = some (.frz o (.dK vs))) (r : RpT F vs ds) : Gives (Iti a o vs) (ds.map fun p => PyData.tuple [kD p.1, p.2]) F := fun F' H' s1 s2 i => by
  have q := s2 _ _ (s1 _ _ h)
  have hl := r.len
  refine ⟨fun d hd => ?_, fun hn => ?_⟩
  · rw [List.getElem?_map, Option.map_eq_some_iff] at hd
    obtain ⟨⟨k, d1⟩, hz, e⟩ := hd
    subst e
    obtain ⟨v1, g1, w1⟩ := r.at_ hz
    refine ⟨⟨q, (List.getElem?_eq_some_iff.mp g1).1⟩, fun v H'' ⟨T, k2, v2, g2, ev, hT, eH⟩ => ?_⟩
    subst ev eH
    have e1 := g2.symm.trans g1
    cases e1
    have nf : F' T = none := s2.free hT
    refine ⟨upd F' T (.tup [kV k, v1]), .tup (.inl upd_same) (.cons (rp_key k) (.cons (w1.mono (s1.trans (same_new nf))) .nil)), same_new nf, same_new hT, same_upd2 s2, fun c hc => ?_⟩
    by_cases z : c = T
    · subst z; exact .inr hT
    · rw [upd_ne z] at hc; exact .inl hc
  · rw [List.getElem?_eq_none_iff, List.length_map] at hn
    exact ⟨q, by omega⟩
def itemsR (r : R) (e1 : Env) (k : List D → Prop) : Prop := match r with
  | .bor a i p => match getP i p e1 with
    | some (.fdc a' kvs) => a' = a ∧ k (kvs.map fun p => PyData.tuple [kD p.1, p.2])
    | _ => False
  | _ => False
theorem wi_items {P : List D → Env → Prop} {e : Expr} {apos cpos tpos : Pos} {elts : List Expr} {kk : Nat} (h : WE Z X e env fun r e1 => itemsR r e1 fun xs => P xs e1)
    (hbase : attributeBase e "items" X.env (eval e X.env) = eval e X.env := by rfl) (hline : (apos.endLine == cpos.line) = true := by rfl) :
    WI Z X (.Tuple elts kk tpos) (.Call (.Attribute e "items" apos) [] [] cpos) env P :=
  wi_of (pi_items (pe_E (Z := Z)) hbase hline) fun σ H F O b0 o0 => ⟨env, F, O, _, b0, o0, h, fun x H1 ⟨F1, O1, r, e1, b1, st, fr, q⟩ => by
    unfold itemsR at q
    cases r with
    | t t => exact q.elim
    | bor a i p =>
      simp only at q
      obtain ⟨o1, ex⟩ := st
      subst ex
      cases hg : getP i p e1 with
      | none => rw [hg] at q; exact q.elim
      | some u =>
        rw [hg] at q
        obtain ⟨w, ⟨Oj, O', h1, _, _⟩, _⟩ := o1.focus hg
        cases h1 with
        | fdc hf rt =>
          obtain ⟨rfl, q⟩ := q
          exact ⟨_, _, _, rfl, b1.sub _ _ hf, F1, O1, _, e1, b1, o1, fr, gives_items hf rt, q⟩
        | _ => exact q.elim⟩
end
end QL

/-! QTd: a dict comprehension whose dict is locked for good. -/
namespace QL
open PySem PySem.Spec PyProof.Rows L2
/-- as a value that is locked from now on -/
def tDcL (wi : TI) (g : TG) (tt : TT) (tk tv : TE) (vs : List Nat) : TE := fun σ H Q => tDc wi g tt tk tv vs σ H fun v H1 => ∃ D kvs, v = .ref D ∧ H1 D = some (.dK kvs) ∧ ∀ od, Q v (upd H1 D (.frz od (.dK kvs)))
theorem RpT.app {F : Hp} {k : Key} {v : V} {d : D} : ∀ {vs : List (Key × V)} {ds : List (Key × D)}, RpT F vs ds → Rp F v d → RpT F (vs ++ [(k, v)]) (ds ++ [(k, d)])
  | _, _, .nil, r => .cons r .nil
  | _, _, .cons r1 r2, r => .cons r1 (r2.app r)
theorem RpT.put {F : Hp} {k : Key} {v : V} {d : D} {vs : List (Key × V)} {ds : List (Key × D)} (r : RpT F vs ds) (q : Rp F v d) (h : ∀ p ∈ ds, p.1 ≠ k) : RpT F (putK vs k v) (ds ++ [(k, d)]) := by
  have e : (vs.any fun kv => decide (kv.1 = k)) = false := by
    induction r with
    | nil => rfl
    | cons r1 r2 ih =>
      rw [List.any_cons, ih fun p hp => h p (List.mem_cons_of_mem _ hp), decide_eq_false (h _ List.mem_cons_self)]
      rfl
  unfold putK
  rw [e, if_neg (by decide)]
  exact r.app q
section
variable {Tq : List (Addr × Str)} {Z : Zb Tq} {X : Cx} {env : Env} {PR : R → Env → Prop} {tg iter kx vx c : Expr} {pos : Pos}
/-- one turn's entry -/
def ElD {Tq : List (Addr × Str)} (Z : Zb Tq) (X : Cx) (scope : Scope) (kx vx : Expr) (vs : List Nat) (I : List (Key × D) → Env → Prop) (acc : List (Key × D)) (e2 : Env) : Prop :=
  Blk X scope fun X' => WA Z X' kx e2 fun a3 e3 => ∃ k : Key, a3 = .va (kD k) ∧ Blk X scope fun X' => WA Z X' vx e3 fun a4 e4 => ∃ y, a4 = .va y ∧ acc.length < sizeLine ∧ (∀ p ∈ acc, p.1 ≠ k) ∧ I (acc ++ [(k, y)]) (wipeE e4 vs)
structure DcI {Tq : List (Addr × Str)} (Z : Zb Tq) (X : Cx) (scope : Scope) (f : TF) (kx vx : Expr) (vs : List Nat) (T : Env → (Bool → Env → Prop) → Prop) (P : R → Env → Prop) (ds : List D) (e1 : Env) : Prop where
  ex : ∃ I : Nat → List (Key × D) → Env → Prop, I 0 [] (wipeE e1 vs) ∧ (∀ k d acc e, ds[k]? = some d → I k acc e → f d e fun e' => T e' fun bb e2 => (bb = true → ElD Z X scope kx vx vs (I (k + 1)) acc e2) ∧ (bb = false → I (k + 1) acc (wipeE e2 vs))) ∧
    ∀ acc e, I ds.length acc e → ∀ p, P (.t (.fdc p acc)) e
theorem dc_read {g : TG} {f : TF} {ix : List Nat} {scope : Scope} {vs : List Nat} {tt : TT} {T : Env → (Bool → Env → Prop) → Prop} (gk : GOk Z g f ix) (hix : ∀ i ∈ ix, i ∈ vs)
    (tk : ∀ σ H F O env k (Q : Bool → Hp → Prop), Bas Z F H O → OwE F H O σ env → T env k → (∀ bb H' F' O' e', Bas Z F' H' O' → OwE F' H' O' σ e' → Frm Tq H F O H' F' O' → k bb e' → Q bb H') → tt σ H Q)
    {σ0 : L2.St} {H0 F0 : Hp} {O0 : List Addr} (b0 : Bas Z F0 H0 O0) (o0 : OwE F0 H0 O0 σ0 env) (h : WI Z X tg iter env (DcI Z X scope f kx vx vs T PR)) :
    tDcL (tI Z X tg iter) g tt (tAB Z X scope kx) (tAB Z X scope vx) vs σ0 H0 (Post Z σ0 H0 F0 O0 PR) := by
  refine ⟨env, F0, O0, _, b0, o0, h, fun J H1 F1 O1 ds e1 b1 o1 fr1 gv ⟨I, i0, step, done⟩ D hD => ?_⟩
  have fD : F1 D = none := b1.sub.free hD
  refine ⟨fun i m H => m = ds.length - i ∧ i ≤ ds.length ∧ ∃ F O e e0 acc accV, Bas Z F H (O ++ [D]) ∧ OwE F H O (wipe σ0 vs) e ∧ e = wipeE e0 vs ∧ H D = some (.dK accV) ∧ RpT F accV acc ∧ Frm Tq H1 F1 O1 H F (O ++ [D]) ∧ I i acc e, ⟨_, rfl, Nat.zero_le _, ?_⟩, ?_⟩
  · -- the start
    obtain ⟨O2, Od, h2, h3⟩ := o1.wipeO vs
    have hn : ∀ a ∈ O1, a ≠ D := fun a ha z => by subst z; exact o1.there a ha hD
    have fr : Frm Tq H1 F1 O1 (upd H1 D (.dK [])) F1 (O2 ++ [D]) := ⟨Same.refl _, fun a o e _ _ => same_new hD a o e, fun a e => by
      by_cases z : a = D
      · subst z; rw [upd_same]; exact fun z => nomatch z
      · rw [upd_ne z]; exact e, fun a e => .inl e, fun a ha => (List.mem_append.mp ha).elim (fun z => .inl (h3.mem_iff.mpr (List.mem_append_left _ z))) fun z => .inr (by rw [List.mem_singleton.mp z]; exact hD), tab_new hD⟩
    have b2 := (b1.dropP h3).1
    refine ⟨F1, O2, wipeE e1 vs, e1, [], [], ⟨b1.sub.trans (same_new hD), List.nodup_append.mpr ⟨b2.nd, List.nodup_cons.mpr ⟨fun z => (nomatch z), List.nodup_nil⟩, fun a ha c hc z => ?_⟩, fun a ha => ?_, b1.abs.trans fr⟩, ?_, rfl, upd_same, .nil, fr, i0⟩
    · rw [List.mem_singleton.mp hc] at z
      exact hn a (h3.mem_iff.mpr (List.mem_append_left _ ha)) z
    · rcases List.mem_append.mp ha with ha | ha
      · exact b2.dis a ha
      · rw [List.mem_singleton.mp ha]; exact fD
    · have o3 : OwE F1 (upd H1 D (.dK [])) O2 σ0 (wipeE e1 vs) := h2.stay (Same.refl _) fun a ha => upd_ne (hn a (h3.mem_iff.mpr (List.mem_append_left _ ha)))
      exact o3.wiped wipe_wipe
  · rintro i m H ⟨rfl, hi, F, O, e, e0, acc, accV, b, o, he0, hDl, rA, fr, hI⟩
    obtain ⟨g1, g2⟩ := gv F H fr.fz b.sub i
    by_cases hlt : i < ds.length
    · obtain ⟨go, yl⟩ := g1 ds[i] (List.getElem?_eq_getElem hlt)
      refine .inr ⟨go, fun H' => ∃ F O e e0 acc accV, Bas Z F H' (O ++ [D]) ∧ OwE F H' O (wipe σ0 vs) e ∧ e = wipeE e0 vs ∧ H' D = some (.dK accV) ∧ RpT F accV acc ∧ Frm Tq H1 F1 O1 H' F (O ++ [D]) ∧ I (i + 1) acc e, fun H' q => ⟨ds.length - (i + 1), by omega, rfl, hlt, q⟩, fun x H' y => ?_⟩
      obtain ⟨F', rx, s1, s2, s3, nf⟩ := yl x H' y
      have dD : ∀ a ∈ [D], Held H a := fun a ha => by rw [List.mem_singleton.mp ha]; exact ⟨_, hDl, fun _ z => nomatch z⟩
      have bL := b.left
      obtain ⟨b2, o2, fr2⟩ := bL.grow o s1 s2 s3 nf
      have b2D : Bas Z F' H' (O ++ [D]) := Bas.frame fr2 b b2 dD
      refine gk x _ (wipe σ0 vs) H' F' O e _ _ b2 o2 rx (step i _ acc e (List.getElem?_eq_getElem hlt) hI) fun σ3 O3 e3 b3 o3 s3' w3 h3 => ?_
      have hw : wipe σ3 vs = wipe (wipe σ0 vs) vs := w3 vs hix
      rw [wipe_wipe] at hw
      refine ⟨hw, ?_⟩
      have hD3 : H' D = some (.dK accV) := s2 _ _ hDl
      have dD3 : ∀ a ∈ [D], Held H' a := fun a ha => by rw [List.mem_singleton.mp ha]; exact ⟨_, hD3, fun _ z => nomatch z⟩
      have fr23 : Frm Tq H F O H' F' O3 := fr2.perm (fun _ => Iff.rfl) s3'
      have b3D : Bas Z F' H' (O3 ++ [D]) := Bas.frame fr23 b b3 dD
      have frD : Frm Tq H1 F1 O1 H' F' (O3 ++ [D]) := fr.trans fr23.frame
      refine tk σ3 H' F' O3 e3 _ _ b3 o3 h3 fun bb H4 F4 O4 e4 b4 o4 fr4 h4 => ?_
      have hD4 : H4 D = some (.dK accV) := fr4.out D _ hD3 (fun _ z => nomatch z) fun z => (List.nodup_append.mp b3D.nd).2.2 D z D (List.mem_singleton.mpr rfl) rfl
      have b4D : Bas Z F4 H4 (O4 ++ [D]) := Bas.frame fr4 b3D b4 dD3
      have frD4 : Frm Tq H1 F1 O1 H4 F4 (O4 ++ [D]) := frD.trans fr4.frame
      have dD4 : ∀ a ∈ [D], Held H4 a := fun a ha => by rw [List.mem_singleton.mp ha]; exact ⟨_, hD4, fun _ z => nomatch z⟩
      -- a turn's end
      have fin : ∀ {H5 F5 : Hp} {O5 : List Addr} {e5 : Env} {acc5 : List (Key × PyData)} {accV5 : List (Key × V)}, Bas Z F5 H5 (O5 ++ [D]) → OwE F5 H5 O5 σ3 e5 → H5 D = some (.dK accV5) → RpT F5 accV5 acc5 → Frm Tq H1 F1 O1 H5 F5 (O5 ++ [D]) → I (i + 1) acc5 (wipeE e5 vs) →
          ∃ F O e e0 acc accV, Bas Z F H5 (O ++ [D]) ∧ OwE F H5 O (wipe σ0 vs) e ∧ e = wipeE e0 vs ∧ H5 D = some (.dK accV) ∧ RpT F accV acc ∧ Frm Tq H1 F1 O1 H5 F (O ++ [D]) ∧ I (i + 1) acc e := fun {H5 F5 O5 e5 acc5 accV5} b5 o5 hD5 r5 fr5 hI5 => by
        obtain ⟨O6, Od6, h6, p6⟩ := o5.wipeO vs
        have p6' : (O5 ++ [D]).Perm ((O6 ++ [D]) ++ Od6) := (p6.append_right [D]).trans (by
          rw [List.append_assoc, List.append_assoc]
          exact List.perm_append_comm.append_left O6)
        refine ⟨F5, O6, wipeE e5 vs, e5, acc5, accV5, (b5.perm p6').left, h6.wiped ?_, rfl, hD5, r5, fr5.perm (fun _ => Iff.rfl) fun c hc => p6'.mem_iff.mpr (List.mem_append_left _ hc), hI5⟩
        rw [wipe_wipe]
        exact hw.symm
      cases bb with
      | false => exact iteF (fin b4D o4 hD4 (rA.mono (s1.trans fr4.fz)) frD4 (h4.2 rfl))
      | true =>
        refine iteT ⟨e4, F4, O4, _, b4, o4, h4.1 rfl, fun yk H5 ⟨F5, O5, a5, e5, b5, o5, st5, fr5, k, ea5, p5⟩ => ?_⟩
        subst ea5
        have eyk : yk = kV k := Rp.key st5
        have hD5 : H5 D = some (.dK accV) := fr5.out D _ hD4 (fun _ z => nomatch z) fun z => (List.nodup_append.mp b4D.nd).2.2 D z D (List.mem_singleton.mpr rfl) rfl
        have b5D : Bas Z F5 H5 (O5 ++ [D]) := Bas.frame fr5 b4D b5 dD4
        have frD5 : Frm Tq H1 F1 O1 H5 F5 (O5 ++ [D]) := frD4.trans fr5.frame
        have dD5 : ∀ a ∈ [D], Held H5 a := fun a ha => by rw [List.mem_singleton.mp ha]; exact ⟨_, hD5, fun _ z => nomatch z⟩
        refine ⟨e5, F5, O5, _, b5, o5, p5, fun y H6 ⟨F6, O6, a6, e6, b6, o6, st6, fr6, d6, ea6, hz, hk, q7⟩ => ?_⟩
        subst ea6
        have r7 : Rp F6 y d6 := st6
        have hD6 : H6 D = some (.dK accV) := fr6.out D _ hD5 (fun _ z => nomatch z) fun z => (List.nodup_append.mp b5D.nd).2.2 D z D (List.mem_singleton.mpr rfl) rfl
        have b6D : Bas Z F6 H6 (O6 ++ [D]) := Bas.frame fr6 b5D b6 dD5
        have frD6 : Frm Tq H1 F1 O1 H6 F6 (O6 ++ [D]) := frD5.trans fr6.frame
        have nD : ∀ a ∈ O6, a ≠ D := fun a ha z => (List.nodup_append.mp b6D.nd).2.2 a ha D (List.mem_singleton.mpr rfl) z
        have fD6 : F6 D = none := b6D.dis D (List.mem_append_right _ (List.mem_singleton.mpr rfl))
        have rA6 : RpT F6 accV acc := rA.mono (s1.trans (fr4.fz.trans (fr5.fz.trans fr6.fz)))
        refine ⟨accV, k, eyk, hD6, by rw [rA6.len]; exact hz, ?_⟩
        have hs : Same F6 (upd H6 D (.dK (putK accV k y))) := fun a x ha => by
          have z : a ≠ D := fun z => by subst z; rw [fD6] at ha; cases ha
          rw [upd_ne z]; exact b6D.sub a x ha
        have fr7 : Frm Tq H6 F6 (O6 ++ [D]) (upd H6 D (.dK (putK accV k y))) F6 (O6 ++ [D]) := ⟨Same.refl _, fun a x ha _ hn => by
          rw [upd_ne fun z => hn (by rw [z]; exact List.mem_append_right _ (List.mem_singleton.mpr rfl))]; exact ha, fun a ha => by
          by_cases z : a = D
          · subst z; rw [upd_same]; exact fun z => nomatch z
          · rw [upd_ne z]; exact ha, fun a ha => .inl ha, fun a ha => .inl ha, tab_own hD6⟩
        exact fin ⟨hs, b6D.nd, b6D.dis, b6D.abs.trans fr7⟩ (o6.stay (Same.refl _) fun a ha => upd_ne (nD a ha)) upd_same (rA6.put r7 hk) (frD6.trans fr7) q7
    · have e' : i = ds.length := by omega
      subst e'
      refine .inl ⟨g2 (List.getElem?_eq_none (Nat.le_refl _)), D, accV, rfl, hDl, fun od => ?_⟩
      have nD : ∀ a ∈ O, a ≠ D := fun a ha z => (List.nodup_append.mp b.nd).2.2 a ha D (List.mem_singleton.mpr rfl) z
      have fDn : F D = none := b.dis D (List.mem_append_right _ (List.mem_singleton.mpr rfl))
      have sF : Same F (upd F D (.frz od (.dK accV))) := same_new fDn
      have sub' : Same (upd F D (.frz od (.dK accV))) (upd H D (.frz od (.dK accV))) := fun a x ha => by
        by_cases z : a = D
        · subst z; rw [upd_same] at ha ⊢; exact ha
        · rw [upd_ne z] at ha ⊢; exact b.sub a x ha
      have frL : Frm Tq H F (O ++ [D]) (upd H D (.frz od (.dK accV))) (upd F D (.frz od (.dK accV))) O := ⟨sF, fun a x ha _ hn => by
        rw [upd_ne fun z => hn (by rw [z]; exact List.mem_append_right _ (List.mem_singleton.mpr rfl))]; exact ha, fun a ha => by
        by_cases z : a = D
        · subst z; rw [upd_same]; exact fun z => nomatch z
        · rw [upd_ne z]; exact ha, fun a ha => by
        by_cases z : a = D
        · subst z; exact .inr (.inr (List.mem_append_right _ (List.mem_singleton.mpr rfl)))
        · rw [upd_ne z] at ha; exact .inl ha, fun a ha => .inl (List.mem_append_left _ ha), tab_own hDl⟩
      have bN : Bas Z (upd F D (.frz od (.dK accV))) (upd H D (.frz od (.dK accV))) O := ⟨sub', (List.nodup_append.mp b.nd).1, fun a ha => by rw [upd_ne (nD a ha)]; exact b.dis a (List.mem_append_left _ ha), b.abs.trans frL⟩
      have oN : OwE (upd F D (.frz od (.dK accV))) (upd H D (.frz od (.dK accV))) O (wipe σ0 vs) e := o.stay sF fun a ha => upd_ne (nD a ha)
      refine ⟨upd F D (.frz od (.dK accV)), O, .t (.fdc D acc), e, bN, ⟨O, [], (List.append_nil O).symm, ?_, .fdc upd_same (rA.mono sF)⟩, fr1.trans (fr.trans frL), done acc e hI D⟩
      subst he0
      exact oN.wiped wipe_wipe.symm
theorem pe_dcL {wi : TI} {g : TG} {tt : TT} {tk tv : TE} {vs : List Nat} {e : Expr} (h : PE X e (tDc wi g tt tk tv vs)) : PE X e (tDcL wi g tt tk tv vs) :=
  ⟨fun pins s σ H Q I hq => thn (h.run pins s σ H (fun v H1 => ∃ D kvs, v = .ref D ∧ H1 D = some (.dK kvs) ∧ ∀ od, Q v (upd H1 D (.frz od (.dK kvs)))) I hq) fun v s1 ⟨x, H1, I1, r, q⟩ => by
    obtain ⟨D, kvs, ex, hD, q⟩ := q
    obtain ⟨od, I2⟩ := I1.lock hD trivial
    exact ⟨x, _, I2, r, q od⟩⟩
theorem w_dcIf {g : TG} {f : TF} {ix : List Nat} {scope : Scope} {own : List (Str × Nat)} (hc : X.calm = true) (hN : X.N.Nodup) (ok : BlkOk X.N X.env.scope scope own) (hg : Blk X scope fun X' => PG X' tg g) (gk : GOk Z g f ix) (hix : ∀ i ∈ ix, i ∈ own.map (·.2))
    (h : WI Z X tg iter env (DcI Z X scope f kx vx (own.map (·.2)) (fun e k => Blk X scope fun X' => WT Z X' c e k) PR)) (hs : ∀ x, foldedSetIterable iter X.env x = pure x := by intro _; rfl) : WE Z X (.DictComp kx vx [⟨tg, iter, [c], 0⟩] scope pos) env PR :=
  we_of (pe_dcL (pe_dc (own := own) hc hN (pi_I (Z := Z)) ok hg (fun s H C cl fp => pts_one (pt_TB (Z := Z) s H C cl fp)) (pe_AB (Z := Z)) (pe_AB (Z := Z)) hs)) fun σ H F O b o =>
    dc_read gk hix (fun σ H F O env k Q b o t q => ⟨env, F, O, k, b, o, t, fun v H' ⟨F1, O1, e1, b1, o1, fr1, p⟩ => q v H' F1 O1 e1 b1 o1 fr1 p⟩) b o h
end
end QL

/-! QTe: dict comprehensions by a filter and two functions. -/
namespace QL
open PySem PySem.Spec PyProof.Rows L2
section
variable {Tq : List (Addr × Str)} {Z : Zb Tq} {X : Cx} {env : Env} {P : R → Env → Prop} {tg iter kx vx c : Expr} {pos : Pos}
theorem toA_mono {r : R} {k k' : A → Prop} (h : toA r k) (m : ∀ a, k a → k' a) : toA r k' := by
  cases r with
  | bor a i p => exact m _ h
  | t t =>
    unfold toA at h ⊢
    simp only at h ⊢
    split at h
    · exact m _ h
    · exact h.elim
theorem fm_tup3 {i j l : Nat} : FMo (fTup 3 (fCons (fName i) (fCons (fName j) (fCons (fName l) fNil)))) := fm_tup (fm_cons fm_name (fm_cons fm_name (fm_cons fm_name fm_nil)))
theorem dc_filt {scope : Scope} {f : TF} (fm : FMo f) {vs : List Nat} {ds : List D} {e1 : Env} {α : Type} (enc : α → D) (xs : List α) (t : α → Bool) (gk : α → Key) (gv : α → D) (env0 : Env) (h0 : wipeE e1 vs = env0) (hd : ds = xs.map enc) (hl : xs.length < sizeLine) (nd : (xs.map gk).Nodup)
    (step : ∀ (k : Nat) x, xs[k]? = some x → f (enc x) env0 fun e' => Blk X scope fun X' => WT Z X' c e' fun bb e2 => bb = t x ∧ (t x = true → Blk X scope fun X' => WA Z X' kx e2 fun a3 e3 => a3 = .va (kD (gk x)) ∧ Blk X scope fun X' => WA Z X' vx e3 fun a4 e4 => a4 = .va (gv x) ∧ wipeE e4 vs = env0) ∧ (t x = false → wipeE e2 vs = env0))
    (fin : ∀ p, P (.t (.fdc p ((xs.filter t).map fun x => (gk x, gv x)))) env0) : DcI Z X scope f kx vx vs (fun e k => Blk X scope fun X' => WT Z X' c e k) P ds e1 := by
  subst hd
  refine ⟨fun k acc e => e = env0 ∧ acc = ((xs.take k).filter t).map fun x => (gk x, gv x), ⟨h0, rfl⟩, ?_, ?_⟩
  · rintro k d acc e hk ⟨rfl, rfl⟩
    rw [List.getElem?_map, Option.map_eq_some_iff] at hk
    obtain ⟨x, hx, rfl⟩ := hk
    have q := step k x hx
    have tk : xs.take (k + 1) = xs.take k ++ [x] := by rw [List.take_add_one, hx]; rfl
    refine fm.mo q fun e' w s H C cl fp => ?_
    refine WT.imp (w s H C cl fp) fun bb e2 ⟨hb, hT, hF⟩ => ?_
    subst hb
    refine ⟨fun ht s2 H2 C2 cl2 fp2 => ?_, fun hf => ⟨hF hf, ?_⟩⟩
    · refine WE.imp (hT ht s2 H2 C2 cl2 fp2) fun r e3 hr => ?_
      have key : ∀ {a : A} {e3 : Env}, (a = .va (kD (gk x)) ∧ Blk X scope fun X' => WA Z X' vx e3 fun a4 e4 => a4 = .va (gv x) ∧ wipeE e4 vs = e) → ∃ kk : Key, a = .va (kD kk) ∧ Blk X scope fun X' => WA Z X' vx e3 fun a4 e4 => ∃ y, a4 = .va y ∧ (((xs.take k).filter t).map fun x => (gk x, gv x)).length < sizeLine ∧ (∀ p ∈ (((xs.take k).filter t).map fun x => (gk x, gv x)), p.1 ≠ kk) ∧ (wipeE e4 vs = e ∧ (((xs.take k).filter t).map fun x => (gk x, gv x)) ++ [(kk, y)] = ((xs.take (k + 1)).filter t).map fun x => (gk x, gv x)) := fun {a e3} ⟨h1, h2⟩ => by
        refine ⟨gk x, h1, fun s4 H4 C4 cl4 fp4 => ?_⟩
        refine WE.imp (h2 s4 H4 C4 cl4 fp4) fun r e5 hr => ?_
        have val : ∀ {a : A} {e5 : Env}, (a = .va (gv x) ∧ wipeE e5 vs = e) → ∃ y, a = .va y ∧ (((xs.take k).filter t).map fun x => (gk x, gv x)).length < sizeLine ∧ (∀ p ∈ (((xs.take k).filter t).map fun x => (gk x, gv x)), p.1 ≠ gk x) ∧ (wipeE e5 vs = e ∧ (((xs.take k).filter t).map fun x => (gk x, gv x)) ++ [(gk x, y)] = ((xs.take (k + 1)).filter t).map fun x => (gk x, gv x)) := fun {a e5} ⟨g1, g2⟩ => by
          refine ⟨gv x, g1, ?_, fun p hp => ?_, g2, ?_⟩
          · rw [List.length_map]
            have := List.length_filter_le t (xs.take k)
            rw [List.length_take] at this
            omega
          · obtain ⟨y, hy, rfl⟩ := List.mem_map.mp hp
            have hy := (List.mem_filter.mp hy).1
            intro e9
            have hn : ((xs.take (k + 1)).map gk).Nodup := List.Sublist.nodup ((List.take_sublist _ _).map gk) nd
            rw [tk, List.map_append, List.nodup_append] at hn
            exact hn.2.2 (gk y) (List.mem_map.mpr ⟨y, hy, rfl⟩) (gk x) (by simp) e9
          · rw [tk, List.filter_append, List.map_append]
            simp [ht]
        exact toA_mono hr fun a h => val h
      exact toA_mono hr fun a h => key h
    · rw [tk, List.filter_append]
      simp [hf]
  · rintro acc e ⟨rfl, rfl⟩ p
    rw [List.length_map, List.take_length]
    exact fin p
end
end QL

/-! QTs: sorted(a set of ints), the set a comprehension. -/
namespace QL
open PySem PySem.Spec PyProof.Rows L2
/-! ### a set comprehension of ints, over the kit's turn of its loop -/
section
variable {X : Cx}
/-- what a turn adds: the int c to the set at D -/
def addsI (w : World) (D : Addr) (y : V) (H : Hp) (Nx : Hp → Prop) : Prop := ∃ (c : Int) (S : Int → Bool) (n : Nat), y = .int c ∧ H D = some (SetO w D S n) ∧ n + 1 < scanBound ∧ Nx (upd H D (SetO w D (fun j => S j || decide (j = c)) (if S c = true then n else n + 1)))
def tScI (w : World) (wi : TI) (g : TG) (te : TE) (vs : List Nat) : TE := fun σ H Q => wi σ H fun J H1 => ∀ D, H1 D = none → ∃ W : Nat → Nat → Hp → Prop, (∃ m, W 0 m (upd H1 D (SetO w D (fun _ => false) 0))) ∧ ∀ i m H, W i m H →
  (J.stop i H ∧ Q (.ref D) H) ∨ (J.go i H ∧ ∃ Nx : Hp → Prop, (∀ H', Nx H' → ∃ m', m' < m ∧ W (i + 1) m' H') ∧ ∀ x H', J.yld i H x H' → g x (wipe σ vs) H' fun σ2 H2 => wipe σ2 vs = wipe σ vs ∧ te σ2 H2 fun y H4 => addsI w D y H4 Nx)
/-- a set is no code object -/
theorem setO_code {w : World} {D : Addr} {S : Int → Bool} {n : Nat} {q : Str} : SetO w D S n ≠ LamX.CodeO D q := fun z => by
  unfold SetO LamX.CodeO at z
  have e := HO.ext.inj z
  let o : Obj := { cls := .none, data := .fields #[.none, .str q default] }
  let h : Heap := { objs := (Array.replicate D o).push o }
  have hg : h.get? D = some o := by
    unfold Heap.get?
    have : h.objs[D]? = some o := by
      show ((Array.replicate D o).push o)[D]? = some o
      rw [Array.getElem?_push, Array.size_replicate, if_pos rfl]
    rw [this]
  have c : ∃ (oc : Obj) (vs : Array Value) (t : Tok), h.get? D = some oc ∧ oc.data = .fields vs ∧ vs[1]? = some (.str q t) := ⟨o, _, default, hg, rfl, rfl⟩
  have e2 := congrFun e h
  obtain ⟨o', es, ep, t, h1, _, h3, _⟩ := e2.mpr c
  rw [hg] at h1
  cases h1
  cases h3

theorem adds_ok {pins : List (Addr × Obj)} {σ : L2.St} {H : Hp} {s : Shared} {E : Value → Shared → Prop} {D : Addr} {y : V} {v : Value} {Nx : Hp → Prop} {Q : Value → Shared → Prop} (I : Inv X pins σ H s) (r : L2.RelV y v) (h : addsI X.w D y H Nx)
    (q : ∀ s' H', Inv X pins σ H' s' → Nx H' → Q .none s') : wpAny (model X.prog X.w) X.A (call (.builtin "set.add") [.ref D, v]) Q E s := by
  obtain ⟨c, S, n, rfl, hD, room, nx⟩ := h
  obtain ⟨tk, rfl⟩ := r
  refine setR_add (setO_get I hD) room fun h' sb new => ?_
  have ⟨o, _, _, _, ho, _⟩ := new
  exact q _ _ (I.write (e := D) (t' := s.toks + 1) (by rw [hD]; trivial) (.inl rfl) (fun b u hb hu => (sb.2 b hb).trans hu) ⟨o, ho⟩ (setO_new new)) nx
theorem pe_scI {elt tg iter : Expr} {scope : Scope} {own : List (Str × Nat)} {pos : Pos} {wi : TI} {g : TG} {te : TE} (hc : X.calm = true) (hN : X.N.Nodup) (hi : PI X tg iter wi) (ok : BlkOk X.N X.env.scope scope own)
    (hg : Blk X scope fun X' => PG X' tg g) (he : Blk X scope fun X' => PE X' elt te) (hs : ∀ x, foldedSetIterable iter X.env x = pure x := by intro _; rfl) : PE X (.SetComp elt [⟨tg, iter, [], 0⟩] scope pos) (tScI X.w wi g te (own.map (·.2))) := by
  refine ⟨fun pins s σ H Q I h => ?_⟩
  rw [PpSet.eval_SetComp]
  have hfree : ∀ y ∈ scope.names, y.2 = .free → ∃ c, X.env.cells.lookup y.1 = some c := fun y hy e => by
    rcases ok.free y hy e with k | k
    · exact I.ok.has _ (.inl k)
    · exact I.ok.has _ (.inr k)
  refine wpAny_comprehension_free rfl hs (closure_ok hfree) ok.kind (fun y hy e => by rw [ok.uniq y hy, e]) (thn (hi.run pins s σ H _ I h) fun xv s1 hx => thn hx fun itv s2 h2 => ?_)
  obtain ⟨it, fp, tn, J, H2, e, I2, T, st2, f2, q⟩ := h2
  subst e
  refine PpSet.newSet_ok (newEnv_comp ?_)
  generalize hD : s2.heap.objs.size = D
  obtain ⟨W, ⟨m0, w0⟩, turn⟩ := q D (I2.hok.fresh (Nat.le_of_eq hD))
  generalize hob : ({ cls := .type "set", dict := none, data := .set #[] 0 (.fresh 0 0 (!X.w.params.followText "set-order")) } : Obj) = ob
  generalize hs3 : ({ s2 with heap := s2.heap.push ob } : Shared) = s3
  have I3 : Inv X pins σ (upd H2 D (SetO X.w D (fun _ => false) 0)) s3 := by
    rw [← hs3]
    refine I2.laid (t' := s2.toks) (fun b o e => Heap.get?_push_of_some _ e) (Nat.le_of_eq hD) ?_
    rw [← hD, ← hob]
    exact setO_new (setR_fresh X.w)
  have h3 : s3.heap = s2.heap.push ob := by rw [← hs3]
  have sz : ∀ b ∈ fp, b < s2.heap.objs.size := fun b hb => by
    obtain ⟨o, e, _⟩ := T.obj _ _ st2 b hb
    exact Heap.lt_size e
  have f3 : ∀ b ∈ fp, FpOk X pins (upd H2 D (SetO X.w D (fun _ => false) 0)) b ∧ b < s3.heap.objs.size := fun b hb => by
    have hlt := sz b hb
    refine ⟨⟨?_, (f2 b hb).2⟩, by rw [h3, Heap.size_push]; exact Nat.lt_succ_of_lt hlt⟩
    rw [upd_ne (by rw [← hD]; exact Nat.ne_of_lt hlt)]
    exact (f2 b hb).1
  have st3 : tn 0 s3.heap := T.keep _ _ _ st2 fun b _ o e => by rw [h3]; exact Heap.get?_push_of_some _ e
  generalize hHD : upd H2 D (SetO X.w D (fun _ => false) 0) = H3 at I3 w0 f3
  have I4 := block_start I3 ok hN f3
  have pg := hg s3 H3 s3.heap.objs.size (cellsFrom (s3.heap.objs.size + 1) scope.names (cloFrom X.env.cells scope.names [])) fp
  have pe := he s3 H3 s3.heap.objs.size (cellsFrom (s3.heap.objs.size + 1) scope.names (cloFrom X.env.cells scope.names [])) fp
  show codeAny _ _ (.compStart (.SetComp elt [⟨tg, iter, [], 0⟩] scope pos) 0 (.ref it) (.ref D) (compEnvC scope (cellsFrom (s3.heap.objs.size + 1) scope.names (cloFrom X.env.cells scope.names [])) s3.heap.objs.size X.env)) (compPost (model X.prog X.w) X.A X.xe none (EP X pins σ Q) (.ref D) s3.heap.objs.size) { s3 with heap := pushCells (s3.heap.push { cls := .type "dict", data := .dict #[] }) scope.names }
  have nfp : ∀ b ∈ fp, H3 b = none := fun b hb => (f3 b hb).1.1
  generalize hce : compEnvC scope (cellsFrom (s3.heap.objs.size + 1) scope.names (cloFrom X.env.cells scope.names [])) s3.heap.objs.size X.env = ce at I4 pg pe ⊢
  have cL : ce.locals = s3.heap.objs.size := by subst hce; rfl
  generalize hs4 : ({ s3 with heap := pushCells (s3.heap.push { cls := .type "dict", data := .dict #[] }) scope.names } : Shared) = s4 at I4 ⊢
  have st4 : tn 0 s4.heap := T.keep _ _ _ st3 fun b _ o e => by rw [← hs4]; exact pushCells_keeps _ _ _ _ (Heap.get?_push_of_some _ e)
  have stat : ∀ {σ' : L2.St} {H' : Hp} {s' : Shared}, Inv (X.blk s3 H3 scope ce fp) [] σ' H' s' → (∀ b ∈ fp, H' b = none) → ∀ b ∈ fp, FpOk (X.blk s3 H3 scope ce fp) [] H' b := fun {σ' H' s'} I' hn b hb =>
    ⟨hn b hb, (I'.ok.exf b hb).1, I'.ok.exfs b hb, .inl hb, fun x c e => (I'.ok.exf b hb).2 x c e, fun p hp => absurd (show p ∈ ([] : List (Addr × Obj)) ++ [] from hp) (by simp)⟩
  have loop : codeAny (model X.prog X.w) X.A (.compLoop (.SetComp elt [⟨tg, iter, [], 0⟩] scope pos) 0 (.ref it) (.ref D) ce) (compPost (model X.prog X.w) X.A X.xe none (EP X pins σ Q) (.ref D) s3.heap.objs.size) s4 := by
    refine PpSet.compLoopS_any (fun n s' => ∃ i H', Inv (X.blk s3 H3 scope ce fp) [] (wipe σ (own.map (·.2))) H' s' ∧ tn i s'.heap ∧ (∀ b ∈ fp, H' b = none) ∧ W i n H') ?_ m0 ⟨0, H3, I4, st4, nfp, w0⟩
    rintro n s5 ⟨i, H5, I5, st5, n5, w5⟩
    rcases turn i n H5 w5 with ⟨stop, qq⟩ | ⟨go, Nx, hNx, step⟩
    · refine thnF (T.done (X.blk s3 H3 scope ce fp) rfl rfl rfl hc i [] s5 _ H5 (fun _ _ => False) I5 (stat I5 n5) st5 stop) fun r s6 ⟨hr, I6⟩ => ?_
      subst hr
      have I7 : Inv X pins σ H5 s6 := I3.call' (ch := fp) I6.os I6.base I6.hok I6.bare fun b hb => ⟨(f3 b hb).1.2.2.2.1, (f3 b hb).1.2.1, (f3 b hb).1.2.2.2.2.1, (f3 b hb).1.2.2.2.2.2⟩
      have nC : H5 s3.heap.objs.size = none := by
        have z : H5 ce.locals = none := I6.free
        rw [cL] at z
        exact z
      obtain ⟨m, hn, _⟩ := I6.loc
      have hn : s6.heap.Ns ce.locals m := hn
      rw [cL] at hn
      obtain ⟨f0, f1, f2, f3, f4, f5⟩ := I3.fpOk (Nat.le_refl _) nC
      exact ⟨m, hn, fun h'' sb => ⟨.ref D, H5, I7.turned (t' := s6.toks) (fun b o hb e => (sb.2 b hb).trans e) f0 f1 f3 f4 f5, rfl, qq⟩⟩
    · refine thnF (T.item (X.blk s3 H3 scope ce fp) rfl rfl rfl hc i [] s5 _ H5 (fun _ _ => False) I5 (stat I5 n5) st5 go) fun r s6 ⟨u, hr, h6⟩ => ?_
      subst hr
      refine thnF h6 fun _ s7 ⟨x, H7, I7, r7, y7, st7, n7⟩ => ?_
      have I7' := I7.pinned (stat I7 n7) (T.obj _ _ st7)
      refine thnF (pg.run _ s7 _ H7 x u _ I7' r7 (step x H7 y7)) fun _ s8 ⟨σ8, H8, I8, hw8, q8⟩ => ?_
      refine wpAny_pure ?_
      simp only [if_true]
      refine thnF (pe.run _ s8 σ8 H8 _ I8 q8) fun z s10 ⟨yv, H10, I10, r10, ad⟩ => ?_
      refine adds_ok (X := X.blk s3 H3 scope ce fp) I10 r10 ad fun s' H' I' nx => ?_
      obtain ⟨m', hm, w'⟩ := hNx H' nx
      have pin' : ∀ b ∈ fp, ∀ o, s7.heap.get? b = some o → s'.heap.get? b = some o ∧ H' b = none := fun b hb o e =>
        let z := I'.pin (b, o) (List.mem_append_right _ (List.mem_append_right _ (mem_pinsAt hb e)))
        ⟨z.1, z.2.1⟩
      have hl : (wipe σ (own.map (·.2))).length = σ8.length := by rw [← hw8, wipe_length]
      refine ⟨m', hm, i + 1, H', (I'.unpinned (pins := [])).weak hl (fun j v e => ?_), T.keep _ _ _ st7 fun b hb o e => (pin' b hb o e).1, fun b hb => ?_, w'⟩
      · rw [← hw8] at e
        exact (wipe_some e).1
      · obtain ⟨o, e, _⟩ := T.obj _ _ st7 b hb
        exact (pin' b hb o e).2
  exact PpSet.codeAny_compStart_set loop (T.self X.A 0 _ _ _ st4 loop)
/-! ### sorted(s), s a set of ints, of any number -/
theorem ints_each {h : Heap} : ∀ {us : List Value} {ns : List Int}, IntsAre us ns → W.EachIs (fun v n => ∃ t, v = Value.int n t) us ns ∧ W.EachIs (fun v n => ∃ as, Reads h v (PyData.int n) as) us ns
  | _, _, .nil => ⟨.nil, .nil⟩
  | _, _, .cons k t r => ⟨.cons ⟨t, rfl⟩ (ints_each (h := h) r).1, .cons ⟨[], .int _ _⟩ (ints_each (h := h) r).2⟩
theorem each_ints : ∀ {us : List Value} {ns : List Int}, W.EachIs (fun v n => ∃ t, v = Value.int n t) us ns → IntsAre us ns
  | _, _, .nil => .nil
  | _, _, .cons ⟨t, e⟩ r => by subst e; exact .cons _ _ (each_ints r)
theorem dataLe_I (a b : Int) : W.dataLe false PyData.int a b = decide (a ≤ b) := by
  rw [W.dataLe_eq]
  show (!W.dataLt (.int b) (.int a)) = _
  rw [W.dataLt_int]
  by_cases h : b < a
  · rw [decide_eq_true h, decide_eq_false (by omega)]; rfl
  · rw [decide_eq_false h, decide_eq_true (by omega)]; rfl
theorem sorted_setAny {P : Program} {w : World} {A : Around} {E : Value → Shared → Prop} {s : Shared} {a : Addr} {S : Int → Bool} {n : Nat} {Q : Value → Shared → Prop} (R : SetR w s.heap a S n) (hh : A.handled = none) (hn16 : n ≤ sizeLine) (hu : A.units + 10 < cLine)
    (hQ : ∀ s' p (out : Array Value) (c : Nat) (ns : List Int), (∀ b o, s.heap.get? b = some o → s'.heap.get? b = some o) → s'.gens = s.gens → s'.os = s.os → s.heap.objs.size ≤ p →
      s'.heap.get? p = some (seqObj "list" out c) → IntsAre out.toList ns → ns.Pairwise (· < ·) → (∀ k, k ∈ ns ↔ S k = true) → ns.length = n → Q (.ref p) s') :
    wpAny (model P w) A (call (.builtin "sorted") [.ref a]) Q E s := by
  obtain ⟨o, es, ep, t, ho, hex, hd, g, nd, hm, hb, hf, hn, hr, hl⟩ := R
  refine Calls.call_function_entry kind_sorted plain_sorted entry_sorted (args_sorted1 _) ?_
  unfold Builtin.«sorted»
  refine wpAny_bind (m := checkCount "sorted" 1 1 _) (wpAny_pure ?_)
  refine wpAny_bind (collect_set (A := A.in1) hh ⟨o, ho, hex.1, hd⟩ hf hb hr hl fun s1 vs k1 hz g1 o1 pm => ?_)
  have hvl : vs.length = n := by rw [pm.length_eq, List.length_map, Array.length_toList]; exact hn
  have hI : IntsAre vs (vs.map Builtin.Re.reRawOf) := ints_of vs fun v hv => by
    obtain ⟨e, he, q⟩ := List.mem_map.mp (pm.mem_iff.mp hv)
    obtain ⟨k, tk, h1, _⟩ := g e he
    exact ⟨k, tk, by rw [← q]; exact h1⟩
  have pk : (vs.map Builtin.Re.reRawOf).Perm (es.toList.map keyOf) := by
    have q := pm.map Builtin.Re.reRawOf
    rw [List.map_map] at q
    exact q
  generalize hns : vs.map Builtin.Re.reRawOf = ns0 at hI pk
  refine wpAny_bind (wpAny_newList ?_ (by rw [hvl]; exact hn16))
  have hoL : (s1.heap.push (seqObj "list" vs.toArray 0)).get? s1.heap.objs.size = some (seqObj "list" vs.toArray 0) := Heap.get?_push_size _ rfl
  obtain ⟨e1, e2⟩ := ints_each (h := W.sortingHeap (s1.heap.push (seqObj "list" vs.toArray 0)) s1.heap.objs.size vs) hI
  have al : W.AllAlike (ns0.map PyData.int) := fun x hx y hy => by
    obtain ⟨i, _, rfl⟩ := List.mem_map.mp hx
    obtain ⟨j, _, rfl⟩ := List.mem_map.mp hy
    rfl
  have hk : W.Sortable (ns0.map PyData.int) := .inr fun d hd => by
    obtain ⟨i, _, rfl⟩ := List.mem_map.mp hd
    exact ⟨fun z => (nomatch z), fun _ z => nomatch z⟩
  refine wpAny_bind (wpAny_holding (wpAny_call_entry slot_list_sort ⟨_, hoL, rfl⟩ entry_list_sort
    (W.list_sort_vals (s := { s1 with heap := s1.heap.push (seqObj "list" vs.toArray 0) }) (κ := W.dataKind (W.sortingHeap (s1.heap.push (seqObj "list" vs.toArray 0)) s1.heap.objs.size vs) (ns0.map PyData.int)) hoL
      (W.SortsAt.data (s := { s1 with heap := W.sortingHeap (s1.heap.push (seqObj "list" vs.toArray 0)) s1.heap.objs.size vs }) (W.each_map (R := fun v d => ∃ as, Reads (W.sortingHeap (s1.heap.push (seqObj "list" vs.toArray 0)) s1.heap.objs.size vs) v d as) PyData.int e2) al hk (fun d hd => by
        obtain ⟨i, _, rfl⟩ := List.mem_map.mp hd
        show _ + 0 < cLine
        show A.units + 1 + 1 + 0 < cLine
        omega)) (by rw [hvl]; exact hn16) ⟨_, rfl, ?_⟩) (args_list_sort _)))
  have so := W.sortVals_data (enc := PyData.int) (bs := ns0) false e1 e2 al
  generalize W.sortVals (W.dataKind (W.sortingHeap (s1.heap.push (seqObj "list" vs.toArray 0)) s1.heap.objs.size vs) (ns0.map PyData.int)) false vs vs = out at so ⊢
  obtain ⟨c, hc⟩ := sortedHeap_at (vs := vs) (out := out.toArray) hoL
  have pn : (ns0.mergeSort (W.dataLe false PyData.int)).Perm (es.toList.map keyOf) := (List.mergeSort_perm _ _).trans pk
  have srt : (ns0.mergeSort (W.dataLe false PyData.int)).Pairwise (· ≤ ·) := by
    have q := List.pairwise_mergeSort (le := W.dataLe false PyData.int) (fun a b c h1 h2 => by rw [dataLe_I, decide_eq_true_eq] at *; omega) (fun a b => by rw [dataLe_I, dataLe_I, Bool.or_eq_true, decide_eq_true_eq, decide_eq_true_eq]; omega) ns0
    exact q.imp fun {a b} h => by rw [dataLe_I, decide_eq_true_eq] at h; exact h
  refine wpAny_pure ⟨_, rfl, hQ _ s1.heap.objs.size out.toArray c _ (fun b u e => ?_) g1 o1 hz hc (each_ints so) (lt_of_le_nodup _ srt (pn.nodup_iff.mpr nd)) (fun k => by rw [pn.mem_iff, ← hm k]) ?_⟩
  · have q := k1 b u e
    have hlt := Heap.lt_size q
    show (sortedHeap (s1.heap.push (seqObj "list" vs.toArray 0)) s1.heap.objs.size vs out.toArray).get? b = some u
    rw [sortedHeap_old (Nat.ne_of_lt hlt) (by rw [size_push']; exact Nat.lt_succ_of_lt hlt)]
    exact Heap.get?_push_of_some _ q
  · rw [pn.length_eq, List.length_map, Array.length_toList]; exact hn
end
section
variable {X : Cx}
def rSortS (w : World) : List V → Hp → VK → Prop := fun vs H Q => ∃ (a : Addr) (S : Int → Bool) (n : Nat), vs = [V.ref a] ∧ H a = some (SetO w a S n) ∧ n < 4096 ∧
  ∀ (ns : List Int) (p : Addr), ns.Pairwise (· < ·) → (∀ k : Int, k ∈ ns ↔ S k = true) → ns.length = n → H p = none → Q (.ref p) (upd H p (.lst (ns.map V.int)))
theorem cr_sortS (hc : X.calm = true) (hu : X.A.units + 110 < cLine) : CallR X (.builtin "sorted") (rSortS X.w) := by
  intro pins s σ H vs us Q I r h
  obtain ⟨a, S, n, rfl, ha, hn, q⟩ := h
  have hz : n ≤ sizeLine := by rw [sizeLine_eq]; omega
  rw [Vals.ref1 r]
  refine sorted_setAny (setO_get I ha) (I.ok.hd hc) hz (by omega) fun s' p out c ns k g o hp hg hi hs hm hl => ?_
  have hp0 : H p = none := I.hok.fresh hp
  have J : Inv X pins σ (upd H p (.lst (ns.map V.int))) { s with heap := s'.heap, gens := s'.gens, drawn := s'.drawn, toks := s'.toks } := I.call (ch := []) (Un.laid k hp hp0) (I.hok.laid k hp ⟨by rw [List.length_map, hl]; exact hz, out.toList, c, vals_of_ints hi, hg⟩) (by rw [g]; exact I.bare) (fun _ z => nomatch z)
  have e : s' = { s with heap := s'.heap, gens := s'.gens, drawn := s'.drawn, toks := s'.toks } := by
    cases s'
    cases s
    cases o
    rfl
  rw [e]
  exact ⟨.ref p, _, J, rfl, q ns p hs hm hl hp0⟩
end
section
variable {Tq : List (Addr × Str)} {Z : Zb Tq} {X : Cx} {env : Env} {PR : R → Env → Prop} {tg iter elt : Expr} {pos : Pos}
theorem rpa_ints {F : Hp} : ∀ ns : List Int, RpA F (ns.map V.int) (ns.map PyData.int)
  | [] => .nil
  | n :: ns => .cons (.int n) (rpa_ints ns)
/-- a set comprehension of ints, sorted -/
structure ScI {Tq : List (Addr × Str)} (Z : Zb Tq) (X : Cx) (scope : Scope) (f : TF) (elt : Expr) (vs : List Nat) (P : R → Env → Prop) (ds : List D) (e1 : Env) : Prop where
  ex : ds.length < 4000 ∧ ∃ I : Nat → List Int → Env → Prop, I 0 [] (wipeE e1 vs) ∧ (∀ k d acc e, ds[k]? = some d → I k acc e → f d e fun e' => Blk X scope fun X' => WA Z X' elt e' fun a e2 => ∃ c : Int, a = .va (.int c) ∧ I (k + 1) (acc ++ [c]) (wipeE e2 vs)) ∧
    ∀ acc e, I ds.length acc e → ∀ (ns : List Int) p, ns.Pairwise (· < ·) → (∀ c, c ∈ ns ↔ c ∈ acc) → P (.t (.lst p (ns.map PyData.int))) e
theorem sc_read {g : TG} {f : TF} {ix : List Nat} {scope : Scope} {vs : List Nat} (gk : GOk Z g f ix) (hix : ∀ i ∈ ix, i ∈ vs)
    {σ0 : L2.St} {H0 F0 : Hp} {O0 : List Addr} (b0 : Bas Z F0 H0 O0) (o0 : OwE F0 H0 O0 σ0 env) (h : WI Z X tg iter env (ScI Z X scope f elt vs PR)) :
    tCB (rSortS X.w) (tCons (tScI X.w (tI Z X tg iter) g (tAB Z X scope elt) vs) tNil) σ0 H0 (Post Z σ0 H0 F0 O0 PR) := by
  refine ⟨env, F0, O0, _, b0, o0, h, fun J H1 F1 O1 ds e1 b1 o1 fr1 gv ⟨hds, I, i0, step, done⟩ D hD => ?_⟩
  have fD : F1 D = none := b1.sub.free hD
  refine ⟨fun i m H => m = ds.length - i ∧ i ≤ ds.length ∧ ∃ F O e e0 acc S n, Bas Z F H (O ++ [D]) ∧ OwE F H O (wipe σ0 vs) e ∧ e = wipeE e0 vs ∧ H D = some (SetO X.w D S n) ∧ n ≤ i ∧ (∀ c, S c = true ↔ c ∈ acc) ∧ Frm Tq H1 F1 O1 H F (O ++ [D]) ∧ I i acc e, ⟨_, rfl, Nat.zero_le _, ?_⟩, ?_⟩
  · -- the start
    obtain ⟨O2, Od, h2, h3⟩ := o1.wipeO vs
    have hn : ∀ a ∈ O1, a ≠ D := fun a ha z => by subst z; exact o1.there a ha hD
    have fr : Frm Tq H1 F1 O1 (upd H1 D (SetO X.w D (fun _ => false) 0)) F1 (O2 ++ [D]) := ⟨Same.refl _, fun a o e _ _ => same_new hD a o e, fun a e => by
      by_cases z : a = D
      · subst z; rw [upd_same]; exact fun z => nomatch z
      · rw [upd_ne z]; exact e, fun a e => .inl e, fun a ha => (List.mem_append.mp ha).elim (fun z => .inl (h3.mem_iff.mpr (List.mem_append_left _ z))) fun z => .inr (by rw [List.mem_singleton.mp z]; exact hD), tab_new hD⟩
    have b2 := (b1.dropP h3).1
    refine ⟨F1, O2, wipeE e1 vs, e1, [], fun _ => false, 0, ⟨b1.sub.trans (same_new hD), List.nodup_append.mpr ⟨b2.nd, List.nodup_cons.mpr ⟨fun z => (nomatch z), List.nodup_nil⟩, fun a ha c hc z => ?_⟩, fun a ha => ?_, b1.abs.trans fr⟩, ?_, rfl, upd_same, Nat.le_refl _, fun c => by simp, fr, i0⟩
    · rw [List.mem_singleton.mp hc] at z
      exact hn a (h3.mem_iff.mpr (List.mem_append_left _ ha)) z
    · rcases List.mem_append.mp ha with ha | ha
      · exact b2.dis a ha
      · rw [List.mem_singleton.mp ha]; exact fD
    · have o3 : OwE F1 (upd H1 D (SetO X.w D (fun _ => false) 0)) O2 σ0 (wipeE e1 vs) := h2.stay (Same.refl _) fun a ha => upd_ne (hn a (h3.mem_iff.mpr (List.mem_append_left _ ha)))
      exact o3.wiped wipe_wipe
  · rintro i m H ⟨rfl, hi, F, O, e, e0, acc, S, n, b, o, he0, hDl, hni, hS, fr, hI⟩
    obtain ⟨g1, g2⟩ := gv F H fr.fz b.sub i
    by_cases hlt : i < ds.length
    · obtain ⟨go, yl⟩ := g1 ds[i] (List.getElem?_eq_getElem hlt)
      refine .inr ⟨go, fun H' => ∃ F O e e0 acc S n, Bas Z F H' (O ++ [D]) ∧ OwE F H' O (wipe σ0 vs) e ∧ e = wipeE e0 vs ∧ H' D = some (SetO X.w D S n) ∧ n ≤ i + 1 ∧ (∀ c, S c = true ↔ c ∈ acc) ∧ Frm Tq H1 F1 O1 H' F (O ++ [D]) ∧ I (i + 1) acc e, fun H' q => ⟨ds.length - (i + 1), by omega, rfl, hlt, q⟩, fun x H' y => ?_⟩
      obtain ⟨F', rx, s1, s2, s3, nf⟩ := yl x H' y
      have dD : ∀ a ∈ [D], Held H a := fun a ha => by rw [List.mem_singleton.mp ha]; exact ⟨_, hDl, fun _ z => nomatch z⟩
      have bL := b.left
      obtain ⟨b2, o2, fr2⟩ := bL.grow o s1 s2 s3 nf
      have b2D : Bas Z F' H' (O ++ [D]) := Bas.frame fr2 b b2 dD
      refine gk x _ (wipe σ0 vs) H' F' O e _ _ b2 o2 rx (step i _ acc e (List.getElem?_eq_getElem hlt) hI) fun σ3 O3 e3 b3 o3 s3' w3 h3 => ?_
      have hw : wipe σ3 vs = wipe (wipe σ0 vs) vs := w3 vs hix
      rw [wipe_wipe] at hw
      refine ⟨hw, ?_⟩
      have hD3 : H' D = some (SetO X.w D S n) := s2 _ _ hDl
      have dD3 : ∀ a ∈ [D], Held H' a := fun a ha => by rw [List.mem_singleton.mp ha]; exact ⟨_, hD3, fun _ z => nomatch z⟩
      have fr23 : Frm Tq H F O H' F' O3 := fr2.perm (fun _ => Iff.rfl) s3'
      have b3D : Bas Z F' H' (O3 ++ [D]) := Bas.frame fr23 b b3 dD
      have frD : Frm Tq H1 F1 O1 H' F' (O3 ++ [D]) := fr.trans fr23.frame
      refine ⟨e3, F', O3, _, b3, o3, h3, fun y H6 ⟨F6, O6, a6, e6, b6, o6, st6, fr6, c, ea6, q7⟩ => ?_⟩
      subst ea6
      have ey : y = .int c := by cases (show Rp F6 y (.int c) from st6); rfl
      have hD6 : H6 D = some (SetO X.w D S n) := fr6.out D _ hD3 (fun _ z => nomatch z) fun z => (List.nodup_append.mp b3D.nd).2.2 D z D (List.mem_singleton.mpr rfl) rfl
      have b6D : Bas Z F6 H6 (O6 ++ [D]) := Bas.frame fr6 b3D b6 dD3
      have frD6 : Frm Tq H1 F1 O1 H6 F6 (O6 ++ [D]) := frD.trans fr6.frame
      have nD : ∀ a ∈ O6, a ≠ D := fun a ha z => (List.nodup_append.mp b6D.nd).2.2 a ha D (List.mem_singleton.mpr rfl) z
      have fD6 : F6 D = none := b6D.dis D (List.mem_append_right _ (List.mem_singleton.mpr rfl))
      refine ⟨c, S, n, ey, hD6, by show n + 1 < 4096; omega, ?_⟩
      generalize hnew : SetO X.w D (fun j => S j || decide (j = c)) (if S c = true then n else n + 1) = ob
      have hs : Same F6 (upd H6 D ob) := fun a x ha => by
        have z : a ≠ D := fun z => by subst z; rw [fD6] at ha; cases ha
        rw [upd_ne z]; exact b6D.sub a x ha
      have fr7 : Frm Tq H6 F6 (O6 ++ [D]) (upd H6 D ob) F6 (O6 ++ [D]) := ⟨Same.refl _, fun a x ha _ hn => by
        rw [upd_ne fun z => hn (by rw [z]; exact List.mem_append_right _ (List.mem_singleton.mpr rfl))]; exact ha, fun a ha => by
        by_cases z : a = D
        · subst z; rw [upd_same]; exact fun z => nomatch z
        · rw [upd_ne z]; exact ha, fun a ha => .inl ha, fun a ha => .inl ha, tab_own hD6 (fun _ z => nomatch z) fun _ => setO_code⟩
      have b7 : Bas Z F6 (upd H6 D ob) (O6 ++ [D]) := ⟨hs, b6D.nd, b6D.dis, b6D.abs.trans fr7⟩
      have o7 : OwE F6 (upd H6 D ob) O6 σ3 e6 := o6.stay (Same.refl _) fun a ha => upd_ne (nD a ha)
      obtain ⟨O8, Od8, h8, p8⟩ := o7.wipeO vs
      have p8' : (O6 ++ [D]).Perm ((O8 ++ [D]) ++ Od8) := (p8.append_right [D]).trans (by
        rw [List.append_assoc, List.append_assoc]
        exact List.perm_append_comm.append_left O8)
      refine ⟨F6, O8, wipeE e6 vs, e6, acc ++ [c], _, _, (b7.perm p8').left, h8.wiped ?_, rfl, by rw [upd_same, ← hnew], by split <;> omega, fun d => ?_, (frD6.trans fr7).perm (fun _ => Iff.rfl) fun c hc => p8'.mem_iff.mpr (List.mem_append_left _ hc), q7⟩
      · rw [wipe_wipe]
        exact hw.symm
      · rw [Bool.or_eq_true, decide_eq_true_eq, hS, List.mem_append, List.mem_singleton]
    · have e' : i = ds.length := by omega
      subst e'
      refine .inl ⟨g2 (List.getElem?_eq_none (Nat.le_refl _)), D, S, n, rfl, hDl, by omega, fun ns p pw mem len hp => ?_⟩
      have oN : OwE F H O σ0 e := by
        subst he0
        exact o.wiped wipe_wipe.symm
      have frN : Frm Tq H0 F0 O0 H F O := fr1.trans (fr.perm (fun _ => Iff.rfl) fun c hc => List.mem_append_left _ hc)
      exact ((NewV.lst b.left.sub (rpa_ints ns) hp (k := fun t => t = .lst p (ns.map PyData.int)) rfl).post b.left oN (fun t e => by subst e; exact done acc _ hI ns p pw fun c => (mem c).trans (hS c))).from frN
theorem w_sortSc {g : TG} {f : TF} {ix : List Nat} {scope : Scope} {own : List (Str × Nat)} {p pos2 : Pos} (hu : X.A.units + 110 < cLine) (hm : X.mg "sorted" = none) (hc : X.calm = true) (hN : X.N.Nodup) (ok : BlkOk X.N X.env.scope scope own) (hg : Blk X scope fun X' => PG X' tg g) (gk : GOk Z g f ix) (hix : ∀ i ∈ ix, i ∈ own.map (·.2))
    (h : WI Z X tg iter env (ScI Z X scope f elt (own.map (·.2)) PR)) (hg2 : Gl X "sorted" := by rfl) (hs : ∀ x, foldedSetIterable iter X.env x = pure x := by intro _; rfl)
    (he : starEach [.SetComp elt [⟨tg, iter, [], 0⟩] scope pos] X.env = (false, eval (.SetComp elt [⟨tg, iter, [], 0⟩] scope pos) X.env) :: starEach [] X.env := by rfl) : WE Z X (.Call (.Name "sorted" p) [.SetComp elt [⟨tg, iter, [], 0⟩] scope pos] [] pos2) env PR :=
  we_of (pe_callB (cr_sortS hc hu) hg2 hm (by rfl) (pa_cons (pe_scI (own := own) hc hN (pi_I (Z := Z)) ok hg (pe_AB (Z := Z)) hs) pa_nil he) (by decide) (by decide) he) fun σ H F O b o => sc_read gk hix b o h
end
end QL

/-! QTu: sorted(set(e)), e a list or a tuple of ints. -/
namespace QL
open PySem PySem.Spec PyProof.Rows L2
theorem rpa_ints_inv {F : Hp} : ∀ {vs : List V} {ns : List Int}, RpA F vs (ns.map PyData.int) → vs = ns.map V.int
  | [], [], _ => rfl
  | [], n :: ns, h => nomatch h
  | v :: vs, [], h => nomatch h
  | v :: vs, n :: ns, h => by
    cases h with
    | cons a b =>
      cases a
      rw [rpa_ints_inv b]; rfl
end QL

/-! QTw: xs.extend(list); d[k] = v, sorted(d) and d.get(k, x) of a dict that this name alone holds. -/
namespace QL
open PySem PySem.Spec PyProof.Rows L2
section
variable {Tq : List (Addr × Str)} {Z : Zb Tq} {X : Cx} {env : Env} {P : R → Env → Prop} {PO : Out → Prop} {e o ix f : Expr} {pos : Pos}
theorem w_extend {apos : Pos} (h : WE Z X o env fun r e1 => ∃ a i p ds0, r = .bor a i p ∧ getP i p e1 = some (.lst a ds0) ∧ WA Z X e e1 fun a1 e2 => View a1 e2 fun d => ∃ ys ds1, d = .list ys ∧ getP i p e2 = some (.lst a ds1) ∧ ds1.length + ys.length ≤ sizeLine ∧ P (.t (.va .none)) (setP i p (.lst a (ds1 ++ ys)) e2))
    (hbase : attributeBase o "extend" X.env (eval o X.env) = eval o X.env := by rfl)
    (hfew : ((backTo pos (starEach [e] X.env)).all (fun x => !x.1) && (backToKw pos (keywordEach [] X.env)).all (fun x => x.1.isSome)
      && decide (([e] : List Expr).length + ([] : List Keyword).length + (if ([] : List Keyword).isEmpty then 0 else 1) < 30)) = true := by rfl)
    (hline : (apos.endLine == pos.line) = true := by rfl) (hs : starEach [e] X.env = (false, eval e X.env) :: starEach [] X.env := by rfl) (hpl : (backTo pos (starEach [] X.env)).any (·.1) = false := by rfl) :
    WE Z X (.Call (.Attribute o "extend" apos) [e] [] pos) env P :=
  we_of (pe_bm PySem.F.plainAttrs_list PySem.F.slot_list_extend PySem.F.type_list_extend mt_extend (pe_E (Z := Z)) (pa_cons (pe_A (Z := Z)) pa_nil hs) hbase hfew hline hs hpl) fun σ H F O b0 o0 =>
    ⟨env, F, O, _, b0, o0, h, fun v H1 ⟨F1, O1, r, e1, b1, st, fr1, a, i, p, ds0, er, hg, q⟩ => by
      subst er
      obtain ⟨o1, ev⟩ := st
      subst ev
      refine ⟨lst_at o1 hg, e1, F1, O1, _, b1, o1, q, fun v2 H2 ⟨F2, O2, a2, e2, b2, o2, st2, fr2, q2⟩ => ?_⟩
      obtain ⟨d, w, ys, ds1, rfl, hg3, hz, q3⟩ := View.vw q2 o2 st2
      obtain ⟨pb, vs, rfl, hb, r1⟩ := w.lst' b2.sub
      obtain ⟨xs, hH, rx, up⟩ := mutL b2 o2 hg3
      obtain ⟨O4, b4, o4, fr4⟩ := up (xs ++ vs) (ds1 ++ ys) (rx.app r1)
      exact ⟨a, pb, xs, vs, rfl, rfl, hH, hb, by rw [rx.len, r1.len]; exact hz, (post_val b4 o4 .non q3).from ((fr1.trans fr2).trans fr4)⟩⟩
/-! ### dicts that are owned -/
theorem mutD {F H : Hp} {O : List Addr} {σ : L2.St} {i : Nat} {p : List Str} {a : Addr} {ds : List (Key × D)} (b : Bas Z F H O) (o : OwE F H O σ env) (hg : getP i p env = some (.dic a ds)) :
    ∃ xs, H a = some (.dK xs) ∧ RpT F xs ds ∧ ∀ ys es, RpT F ys es → ∃ O', Bas Z F (upd H a (.dK ys)) O' ∧ OwE F (upd H a (.dK ys)) O' σ (setP i p (.dic a es) env) ∧ Frm Tq H F O (upd H a (.dK ys)) F O' := by
  obtain ⟨w, ⟨Oj, O', h1, h2, h3⟩, _⟩ := o.focus hg
  cases h1 with
  | dic hH r =>
    refine ⟨_, hH, r, fun ys es r' => ?_⟩
    have nd := h2.nodup b.nd
    have ha : a ∈ O := h2.mem_iff.mpr (List.mem_append_left _ (List.mem_singleton.mpr rfl))
    have hn : ∀ c ∈ O', c ≠ a := fun c hc z => (List.nodup_append.mp nd).2.2 a (List.mem_singleton.mpr rfl) c hc z.symm
    obtain ⟨O'', q1, q2⟩ := h3 F (upd H a (.dK ys)) [a] (.dic a es) (Same.refl _) (fun c hc => upd_ne (hn c hc)) (.dic upd_same r')
    have pm : O.Perm O'' := h2.trans q2.symm
    have fr : Frm Tq H F O (upd H a (.dK ys)) F O'' := ⟨Same.refl _, fun c x e _ n => by rw [upd_ne fun z => n (by rw [z]; exact ha)]; exact e, fun c e => by
      by_cases z : c = a
      · subst z; rw [upd_same]; exact fun z => nomatch z
      · rw [upd_ne z]; exact e, fun c e => .inl e, fun c hc => .inl (pm.mem_iff.mpr hc), tab_own hH⟩
    have da := b.dis a ha
    refine ⟨O'', ⟨fun c x e => ?_, pm.nodup b.nd, fun c hc => b.dis c (pm.mem_iff.mpr hc), b.abs.trans fr⟩, q1, fr⟩
    rw [upd_ne fun z => by rw [z, da] at e; cases e]
    exact b.sub c x e
theorem RpK.keys {F : Hp} : ∀ {kvs : List (Key × V)} {ds : List (Key × D)}, RpK F kvs (ds.map fun p => (kD p.1, p.2)) → kvs.map (·.1) = ds.map (·.1)
  | [], [], _ => rfl
  | [], q :: ds, r => nomatch r
  | p :: kvs, [], r => nomatch r
  | p :: kvs, q :: ds, r => by
    obtain ⟨k1, v1⟩ := p
    obtain ⟨k2, d2⟩ := q
    have r' : RpK F ((k1, v1) :: kvs) ((kD k2, d2) :: ds.map fun p => (kD p.1, p.2)) := r
    generalize hz : kD k2 = z at r'
    cases r' with
    | cons r1 r2 =>
      have ek : k2 = k1 := kD_inj hz
      subst ek
      rw [List.map_cons, List.map_cons, RpK.keys r2]
end
end QL

/-! QW: data whose text is short; data that may be compared. -/
namespace QL
open PySem PySem.Spec PyProof.Rows L2
mutual
def nodes : D → Nat
  | .list xs => 1 + nodesA xs
  | .tuple xs => 1 + nodesA xs
  | _ => 1
def nodesA : List D → Nat
  | [] => 0
  | x :: xs => nodes x + nodesA xs
end
mutual
/-- no text, no dict; ints below 2 ** 200 -/
def smallD : D → Bool
  | .list xs => smallA xs
  | .tuple xs => smallA xs
  | .int i => decide (i.natAbs < 2 ^ 200)
  | .none => true
  | .bool _ => true
  | _ => false
def smallA : List D → Bool
  | [] => true
  | x :: xs => smallD x && smallA xs
end
theorem small_int {i : Int} (h : i.natAbs < 2 ^ 200) : (PyData.shown (.int i)).length ≤ 256 ∧ (PyData.int i).weight ≤ 200 ∧ i.natAbs.log2 < 1920 := by
  have l : i.natAbs.log2 < 200 := by
    by_cases z : i.natAbs = 0
    · rw [z]; decide
    · exact (Nat.log2_lt z).mpr h
  refine ⟨?_, ?_, by omega⟩
  · show (PySem.Str.ofString (toString i)).length ≤ 256
    have big : (2 : Nat) ^ 200 < 10 ^ 61 := by decide
    by_cases z : i < 0
    · rw [len_text_neg z]
      have := PyProof.Rows.toString_length_le (v := 0 - i) (by omega) (k := 61) (by decide) (by omega)
      omega
    · have := PyProof.Rows.toString_length_le (v := i) (by omega) (k := 61) (by decide) (by omega)
      omega
  · show (if i == 0 then 0 else i.natAbs.log2 + 1) ≤ 200
    split <;> omega
mutual
theorem show_sm : ∀ d : D, smallD d = true → d.leavesShort 256 = true ∧ d.weight + 1 ≤ 203 * nodes d ∧ d.showable = true ∧ d.hasDict = false ∧ d.canLay0 = true
  | .none, _ => ⟨rfl, (by decide : 0 + 1 ≤ 203 * 1), rfl, rfl, rfl⟩
  | .bool _, _ => ⟨rfl, (by decide : 0 + 1 ≤ 203 * 1), rfl, rfl, rfl⟩
  | .int i, h => by
    obtain ⟨h1, h2, h3⟩ := small_int (of_decide_eq_true (by simpa only [smallD] using h))
    exact ⟨by simp only [PyData.leavesShort, decide_eq_true_eq]; exact h1, (by simp only [nodes]; omega), by simp only [PyData.showable, decide_eq_true_eq]; exact h3, rfl, rfl⟩
  | .str _, h => by simp [smallD] at h
  | .dict _, h => by simp [smallD] at h
  | .list xs, h => by
    obtain ⟨h1, h2, h3, h4, h5⟩ := show_smA xs (by simpa only [smallD] using h)
    exact ⟨by simpa only [PyData.leavesShort] using h1, by simp only [PyData.weight, nodes]; omega, by simpa only [PyData.showable] using h3, by simpa only [PyData.hasDict] using h4, by simpa only [PyData.canLay0] using h5⟩
  | .tuple xs, h => by
    obtain ⟨h1, h2, h3, h4, h5⟩ := show_smA xs (by simpa only [smallD] using h)
    exact ⟨by simpa only [PyData.leavesShort] using h1, by simp only [PyData.weight, nodes]; omega, by simpa only [PyData.showable] using h3, by simpa only [PyData.hasDict] using h4, by simpa only [PyData.canLay0] using h5⟩
theorem show_smA : ∀ ds : List D, smallA ds = true → PyData.leavesShortAll 256 ds = true ∧ PyData.weightAll ds ≤ 203 * nodesA ds ∧ PyData.showableAll ds = true ∧ PyData.hasDictAll ds = false ∧ PyData.canLayAll0 ds = true
  | [], _ => ⟨rfl, Nat.zero_le _, rfl, rfl, rfl⟩
  | d :: ds, h => by
    simp only [smallA, Bool.and_eq_true] at h
    obtain ⟨h1, h2, h3, h4, h5⟩ := show_sm d h.1
    obtain ⟨g1, g2, g3, g4, g5⟩ := show_smA ds h.2
    have np : 1 ≤ nodes d := by cases d <;> simp only [nodes] <;> omega
    exact ⟨by simp only [PyData.leavesShortAll, h1, g1, Bool.and_self], by simp only [PyData.weightAll, nodesA]; omega, by simp only [PyData.showableAll, h3, g3, Bool.and_self], by simp only [PyData.hasDictAll, h4, g4, Bool.or_self], by simp only [PyData.canLayAll0, h5, g5, Bool.and_self]⟩
end
theorem shaped_sm {d : D} (h : smallD d = true) (hd : d.depth ≤ 60) : SeqAt.shaped d = true := by
  unfold SeqAt.shaped
  rw [(show_sm d h).2.2.2.2, Bool.true_and]
  exact decide_eq_true (by omega)
theorem smallA_map {α : Type} {f : α → D} : ∀ {xs : List α}, (∀ x ∈ xs, smallD (f x) = true) → smallA (xs.map f) = true
  | [], _ => rfl
  | x :: xs, h => by simp only [List.map_cons, smallA, h x List.mem_cons_self, smallA_map (fun y hy => h y (List.mem_cons_of_mem _ hy)), Bool.and_self]
theorem depthAll_map {α : Type} {f : α → D} {k : Nat} : ∀ {xs : List α}, (∀ x ∈ xs, (f x).depth ≤ k) → PyData.depthAll (xs.map f) ≤ k
  | [], _ => Nat.zero_le _
  | x :: xs, h => by
    have h1 := h x List.mem_cons_self
    have h2 := depthAll_map (xs := xs) fun y hy => h y (List.mem_cons_of_mem _ hy)
    simp only [List.map_cons, PyData.depthAll]
    omega
theorem iDs_small {ns : List Int} (h : ∀ x ∈ ns, x.natAbs < 2 ^ 200) : smallA (iDs ns) = true := smallA_map fun x hx => by simp only [smallD, decide_eq_true_eq]; exact h x hx
theorem iDs_depth (ns : List Int) : PyData.depthAll (iDs ns) = 0 := Nat.le_zero.mp (depthAll_map fun x _ => Nat.le_refl 0)
end QL

/-! QTz: in, not in rows of ints; xs[i] += n; {k: x, l: y}; d.get(k, x); xs.remove(n); max(xs, default=n). -/
namespace QL
open PySem PySem.Spec PyProof.Rows L2
section
variable {X : Cx}
theorem inV_ints (i : Int) : ∀ ns : List Int, inV (.int i) (ns.map V.int) = decide (i ∈ ns)
  | [] => rfl
  | n :: ns => by
    show ((n == i) || inV (.int i) (ns.map V.int)) = _
    rw [inV_ints i ns]
    by_cases e : n = i
    · subst e; simp
    · have h1 : (n == i) = false := by simpa using e
      rw [h1, Bool.false_or]
      congr 1
      rw [List.mem_cons]
      exact propext ⟨.inr, fun h => h.resolve_left fun z => e z.symm⟩
theorem flat_ints : ∀ ns : List Int, (ns.map V.int).all flatV = true
  | [] => rfl
  | n :: ns => flat_ints ns
def inG (neg : Bool) (d1 d2 : D) (k : T → Prop) : Prop := ∃ (i : Int) (ns : List Int), d1 = .int i ∧ (d2 = .list (ns.map PyData.int) ∨ d2 = .tuple (ns.map PyData.int)) ∧ k (.va (.bool (if neg = true then !decide (i ∈ ns) else decide (i ∈ ns))))
theorem in_at {F H : Hp} {K : PySem.W.Frag} {v : V} {d : D} {ns : List Int} (sF : Same F H) (w : Vw F H v d) (hd : d = .list (ns.map PyData.int) ∨ d = .tuple (ns.map PyData.int)) : ∃ p, v = .ref p ∧ (SqL K H p (ns.map V.int) ∨ SqT K H p (ns.map V.int)) := by
  rcases hd with rfl | rfl
  · obtain ⟨p, vs, rfl, h1, r1⟩ := w.lst' sF
    rw [rpa_ints_inv r1] at h1
    exact ⟨p, rfl, .inl (SqL.of h1)⟩
  · obtain ⟨p, vs, rfl, h1, r1⟩ := w.tup
    rw [rpa_ints_inv r1] at h1
    exact ⟨p, rfl, .inr ((.inl (rd_mono sF h1)))⟩
theorem dop_in : DOp X (compareOp .In) (inG false) := by
  intro pins s σ H F v1 v2 u1 u2 d1 d2 k I sF w1 w2 r1 r2 ⟨i, ns, e1, hd, q⟩
  subst e1
  cases w1.int
  obtain ⟨p, rfl, hp⟩ := in_at (K := X.K) sF w2 hd
  exact op_in_seq pins s σ H _ _ u1 u2 _ I r1 r2 ⟨p, _, rfl, hp, rfl, flat_ints ns, by rw [inV_ints]; exact NewV.val sF (.bl _) q⟩
theorem dop_notin : DOp X (compareOp .NotIn) (inG true) := by
  intro pins s σ H F v1 v2 u1 u2 d1 d2 k I sF w1 w2 r1 r2 ⟨i, ns, e1, hd, q⟩
  subst e1
  cases w1.int
  obtain ⟨p, rfl, hp⟩ := in_at (K := X.K) sF w2 hd
  exact op_notIn_seq pins s σ H _ _ u1 u2 _ I r1 r2 ⟨p, _, rfl, hp, rfl, flat_ints ns, by rw [inV_ints]; exact NewV.val sF (.bl _) q⟩
/-! ### xs[i] += n -/
def rGetL (K : PySem.W.Frag) : V → V → Hp → VK → Prop := fun o i H Q => ∃ (p : Addr) (xs : List V) (k : Nat) (y : V), o = .ref p ∧ i = .int (k : Int) ∧ k < 16777217 ∧ SqL K H p xs ∧ xs[k]? = some y ∧ Q y H
theorem get_lst : PGet X (rGetL X.K) := by
  intro pins s σ H o i ov iv Q I ro ri h
  obtain ⟨p, xs, k, y, rfl, rfl, hk, hq, hy, q⟩ := h
  cases ro
  obtain ⟨t, rfl⟩ := ri
  obtain ⟨its, r, pl, hz⟩ := I.list hq
  obtain ⟨w, ew, rw'⟩ := r.get hy
  exact wpAny_getItem_list pl.isList (by omega) (by omega) (by rw [Int.toNat_natCast]; simpa using ew) ⟨y, H, I, rw', q⟩
end
section
variable {Tq : List (Addr × Str)} {Z : Zb Tq} {X : Cx} {env : Env} {P : R → Env → Prop} {PO : Out → Prop} {e o ix f : Expr} {pos : Pos}
theorem ws_augix {tp : Pos} (h : WE Z X o env fun r e1 => ∃ a i p, r = .bor a i p ∧ WE Z X ix e1 fun r2 e2 => ∃ (j : Nat) (ds : List D) (c : Int), r2 = .t (.va (.int (j : Int))) ∧ getP i p e2 = some (.lst a ds) ∧ ds.length ≤ 16777216 ∧ ds[j]? = some (.int c) ∧
      WE Z X e e2 fun r3 e3 => ∃ (m : Int) (ds' : List D), r3 = .t (.va (.int m)) ∧ getP i p e3 = some (.lst a ds') ∧ ixN ds'.length (j : Int) = some j ∧ PO (.nx (setP i p (.lst a (ds'.set j (.int (c + m)))) e3)))
    (ha : ∀ ov iv new, augStore ix ov iv new = (do holding [new, ov, iv] (setItem ov iv new); release [new, ov, iv] []; pure .next) := by intros; rfl) : WS Z X (.AugAssign (.Subscript o ix tp) .Add e pos) env PO :=
  ws_of (ps_augS (pe_E (Z := Z)) (pe_E (Z := Z)) get_lst (pe_E (Z := Z)) ip_add set_list ha) fun σ H F O b0 o0 => ⟨env, F, O, _, b0, o0, h, fun ov H1 ⟨F1, O1, r, e1, b1, st1, fr1, a, i, p, er, q1⟩ => by
    subst er
    obtain ⟨o1, eov⟩ := st1
    subst eov
    refine ⟨e1, F1, O1, _, b1, o1, q1, fun iv H2 ⟨F2, O2, r2, e2, b2, st2, fr2, j, ds, c, er2, hg, hl, hc, q2⟩ => ?_⟩
    subst er2
    obtain ⟨Oa, Ob, rfl, o2, w2⟩ := st2
    cases w2 with
    | va rj =>
      cases rj
      rw [List.append_nil] at b2 fr2
      obtain ⟨xs, hH, rx, _⟩ := mutL b2 o2 hg
      obtain ⟨y, hy, ry⟩ := RpA.get' rx hc
      have hj : j < ds.length := (List.getElem?_eq_some_iff.mp hc).1
      refine ⟨a, xs, j, y, rfl, rfl, by omega, SqL.of hH, hy, ?_⟩
      cases ry
      refine ⟨e2, F2, Oa, _, b2, o2, q2, fun v H3 ⟨F3, O3, r3, e3, b3, st3, fr3, m, ds', er3, hg3, hj3, q3⟩ => ?_⟩
      subst er3
      obtain ⟨Oc, Od, rfl, o3, w3⟩ := st3
      cases w3 with
      | va rm =>
        cases rm
        rw [List.append_nil] at b3 fr3
        refine ⟨c, m, rfl, rfl, ?_⟩
        obtain ⟨ys, hH3, ry3, up⟩ := mutL b3 o3 hg3
        obtain ⟨O5, b5, o5, fr5⟩ := up (ys.set j (.int (c + m))) (ds'.set j (.int (c + m))) (ry3.set (.int _) j)
        refine ⟨a, ys, (j : Int), j, rfl, rfl, hH3, by rw [ry3.len]; exact hj3, ?_⟩
        exact ⟨F3, O5, _, b5, o5, ((fr1.trans fr2).trans fr3).trans fr5, q3⟩⟩
/-! ### dicts -/
theorem RpT.valo {F : Hp} {k : Key} : ∀ {vs : List (Key × V)} {ds : List (Key × D)}, RpT F vs ds → (valV vs k = none ∧ valT ds k = none) ∨ ∃ v d, valV vs k = some v ∧ valT ds k = some d ∧ Rp F v d
  | _, _, .nil => .inl ⟨rfl, rfl⟩
  | _, _, .cons (k := k2) r1 r => by
    unfold valV valT
    rw [List.find?_cons, List.find?_cons]
    by_cases e : k2 = k
    · simp only [e, decide_true]
      exact .inr ⟨_, _, rfl, rfl, r1⟩
    · simp only [e, decide_false]
      exact RpT.valo r
theorem lt1 {n : Nat} (h : n + 64 < cLine) : n + 1 < cLine := by omega
theorem w_dget2 {apos : Pos} (hu : X.A.units + 1 < cLine) (h : WE Z X o env fun r e1 => ∃ a i p ds0, r = .bor a i p ∧ getP i p e1 = some (.dic a ds0) ∧ WA Z X e e1 fun a2 e2 => WA Z X f e2 fun a3 e3 => ∃ (k : Key) (ds : List (Key × D)) (d : D), a2 = .va (kD k) ∧ a3 = .va d ∧ getP i p e3 = some (.dic a ds) ∧ P (.t (.va ((valT ds k).getD d))) e3)
    (m : M2 X o "get" apos e f pos := by exact ⟨rfl, rfl, rfl, rfl⟩) : WE Z X (.Call (.Attribute o "get" apos) [e, f] [] pos) env P :=
  we_of (pe_dget2 hu (pe_E (Z := Z)) (pe_A (Z := Z)) (pe_A (Z := Z)) m) fun σ H F O b0 o0 => ⟨env, F, O, _, b0, o0, h, fun v H1 ⟨F1, O1, r, e1, b1, st1, fr1, a, i, p, ds0, er, hg, q1⟩ => by
    subst er
    obtain ⟨o1, ev⟩ := st1
    subst ev
    obtain ⟨xs0, hH0, _, _⟩ := mutD b1 o1 hg
    refine ⟨a, rfl, .inl ⟨xs0, .inl hH0⟩, e1, F1, O1, _, b1, o1, q1, fun y H2 ⟨F2, O2, a2, e2, b2, o2, st2, fr2, q2⟩ => ⟨e2, F2, O2, _, b2, o2, q2, fun z H3 ⟨F3, O3, a3, e3, b3, o3, st3, fr3, k, ds, d, ea2, ea3, hg3, q3⟩ => ?_⟩⟩
    subst ea2 ea3
    have ey : y = kV k := Rp.key st2
    have rz : Rp F3 z d := st3
    obtain ⟨xs, hH, rx, _⟩ := mutD b3 o3 hg3
    refine ⟨valV xs k, .inl ⟨xs, k, .inl hH, ey, rfl⟩, ?_⟩
    rcases rx.valo (k := k) with ⟨n1, n2⟩ | ⟨v1, d1, n1, n2, rv⟩
    · rw [n1]
      rw [n2] at q3
      exact (post_val b3 o3 rz q3).from ((fr1.trans fr2).trans fr3)
    · rw [n1]
      rw [n2] at q3
      exact (post_val b3 o3 rv q3).from ((fr1.trans fr2).trans fr3)⟩
/-- {k1: v1, k2: v2} -/
theorem w_dict2 {k1 k2 v1 v2 : Expr} (h : WE Z X k1 env fun r1 e1 => ∃ y1 : Key, r1 = .t (.va (kD y1)) ∧ WE Z X v1 e1 fun r2 e2 => ∃ d1, r2 = .t (.va d1) ∧ WE Z X k2 e2 fun r3 e3 => ∃ y2 : Key, r3 = .t (.va (kD y2)) ∧ WE Z X v2 e3 fun r4 e4 => ∃ d2, r4 = .t (.va d2) ∧ y1 ≠ y2 ∧ ∀ p, P (.t (.dic p [(y1, d1), (y2, d2)])) e4) :
    WE Z X (.Dict [some k1, some k2] [v1, v2] pos) env P :=
  we_of (pe_disp (pps_cons (pe_E (Z := Z)) (pe_E (Z := Z)) (pps_cons (pe_E (Z := Z)) (pe_E (Z := Z)) pps_nil)) rfl rfl (by simp) (by simp)) fun σ H F O b o p hp => by
    obtain ⟨bp, op, frp⟩ := b.grow o (Same.refl _) (same_new (o := .dK []) hp) (b.sub.trans (same_new hp)) fun _ z => .inl z
    have hpO : p ∉ O := fun z => o.there p z hp
    -- each value is data
    have one : ∀ {F O : Hp → Prop}, True := fun {F O} => trivial
    refine ⟨env, F, O, _, bp, op, h, fun x1 H1 ⟨F1, O1, r1, e1, b1, st1, fr1, y1, er1, q1⟩ => ?_⟩
    subst er1
    obtain ⟨Oa, Ob, rfl, o1, w1⟩ := st1
    cases w1 with
    | va rk1 =>
    rw [List.append_nil] at b1 fr1
    have ek1 := rk1.key
    refine ⟨e1, F1, Oa, _, b1, o1, q1, fun x2 H2 ⟨F2, O2, r2, e2, b2, st2, fr2, d1, er2, q2⟩ => ?_⟩
    subst er2
    obtain ⟨Oc, Od, rfl, o2, w2⟩ := st2
    cases w2 with
    | va rv1 =>
    rw [List.append_nil] at b2 fr2
    refine ⟨e2, F2, Oc, _, b2, o2, q2, fun x3 H3 ⟨F3, O3, r3, e3, b3, st3, fr3, y2, er3, q3⟩ => ?_⟩
    subst er3
    obtain ⟨Oe, Of, rfl, o3, w3⟩ := st3
    cases w3 with
    | va rk2 =>
    rw [List.append_nil] at b3 fr3
    have ek2 := rk2.key
    refine ⟨e3, F3, Oe, _, b3, o3, q3, fun x4 H4 ⟨F4, O4, r4, e4, b4, st4, fr4, d2, er4, ne, q4⟩ => ?_⟩
    subst er4
    obtain ⟨Og, Oh, rfl, o4, w4⟩ := st4
    cases w4 with
    | va rv2 =>
    rw [List.append_nil] at b4 fr4
    have fr : Frm Tq (upd H p (.dK [])) F O H4 F4 Og := ((fr1.trans fr2).trans fr3).trans fr4
    have hp4 : H4 p = some (.dK []) := fr.out p _ upd_same (fun _ z => nomatch z) hpO
    have fp : F p = none := b.sub.free hp
    have fp4 : F4 p = none := by
      cases z : F4 p with
      | none => rfl
      | some x =>
        rcases fr.newF p (by rw [z]; exact fun z => nomatch z) with y | y | y
        · exact absurd fp y
        · rw [upd_same] at y; cases y
        · exact absurd y hpO
    have pa : p ∉ Og := fun z => (fr.newO p z).elim hpO fun y => by rw [upd_same] at y; cases y
    refine ⟨hp4, [(y1, x2), (y2, x4)], by rw [ek1, ek2]; rfl, by simp, ?_⟩
    have em : mergeK [] [(y1, x2), (y2, x4)] = [(y1, x2), (y2, x4)] := by
      show putK (putK [] y1 x2) y2 x4 = _
      unfold putK
      simp [ne]
    rw [em]
    generalize hob : (HO.dK [(y1, x2), (y2, x4)] : HO) = ob
    have s1 : Same F4 (upd H4 p ob) := fun c y z => by
      rw [upd_ne fun y => by rw [y, fp4] at z; cases z]
      exact b4.sub c y z
    have keep : ∀ c ∈ Og, upd H4 p ob c = H4 c := fun c hc => upd_ne fun z => pa (z ▸ hc)
    have fr2' : Frm Tq H F O (upd H4 p ob) F4 (Og ++ [p]) := by
      have f := frp.trans fr
      refine ⟨f.fz, fun c y hc nt n => ?_, fun c hc => ?_, fun c hc => ?_, fun c hc => ?_, f.tb.trans (tab_own hp4)⟩
      · have : c ≠ p := fun z => by rw [z, hp] at hc; cases hc
        rw [upd_ne this]
        exact f.out c y hc nt n
      · by_cases z : c = p
        · subst z; rw [upd_same]; exact fun z => nomatch z
        · rw [upd_ne z]; exact f.al c hc
      · exact f.newF c hc
      · rcases List.mem_append.mp hc with z | z
        · exact f.newO c z
        · rw [List.mem_singleton.mp z]; exact .inr hp
    refine ⟨F4, Og ++ [p], .t (.dic p [(y1, d1), (y2, d2)]), e4, ⟨s1, List.nodup_append.mpr ⟨b4.nd, List.nodup_cons.mpr ⟨fun z => (nomatch z), List.nodup_nil⟩, fun c hc c' hc' z => ?_⟩, fun c hc => ?_, b.abs.trans fr2'⟩, ⟨Og, [p], rfl, o4.stay (Same.refl _) keep, .dic (by rw [upd_same, ← hob]) (.cons (rv1.mono (fr3.fz.trans fr4.fz)) (.cons rv2 .nil))⟩, fr2', q4 p⟩
    · rw [List.mem_singleton.mp hc'] at z
      exact pa (z ▸ hc)
    · rcases List.mem_append.mp hc with z | z
      · exact b4.dis c z
      · rw [List.mem_singleton.mp z]; exact fp4
end
end QL

/-! QTn: for i, x in enumerate(t), enumerate(t, k), t a tuple. -/
namespace QL
open PySem PySem.Spec PyProof.Rows L2
end QL

/-! QTm: x = a list that is frozen at once. -/
namespace QL
open PySem PySem.Spec PyProof.Rows L2
theorem toA_imp {r : R} {k k' : A → Prop} (h : toA r k) (hk : ∀ a, k a → k' a) : toA r k' := by
  cases r with
  | bor a i p => exact hk _ h
  | t t =>
    unfold toA at h ⊢
    revert h
    simp only
    cases frzT t with
    | none => exact fun z => z
    | some d => exact hk _
theorem WA.imp {Tq : List (Addr × Str)} {Z : Zb Tq} {X : Cx} {e : Expr} {env : Env} {P P' : A → Env → Prop} (h : WA Z X e env P) (hp : ∀ a env, P a env → P' a env) : WA Z X e env P' := WE.imp h fun _ env q => toA_imp q fun a => hp a env
end QL

/-! QTo: `is` and `is not` between booleans. -/
namespace QL
open PySem PySem.Spec PyProof.Rows L2
variable {X : Cx}
end QL

/-! QTA: x, y, z = anything, anything, anything. -/
namespace QL
open PySem PySem.Spec PyProof.Rows L2
variable {Tq : List (Addr × Str)} {Z : Zb Tq} {X : Cx} {env : Env} {PO : Out → Prop} {a b c : Expr} {pos : Pos}
end QL

/-! QTC: things of one's own, one after another; o.f, o.g = e1, e2. -/
namespace QL
open PySem PySem.Spec PyProof.Rows L2
theorem StV.stay {F H F' H' : Hp} (s : Same F F') : ∀ {O : List Addr} {vs : List V} {ts : List T}, StV F H O vs ts → (∀ a ∈ O, H' a = H a) → StV F' H' O vs ts
  | _, _, _, .nil, _ => .nil
  | _, _, _, .cons h r, k => .cons (h.stay s fun a ha => k a (List.mem_append_left _ ha)) (r.stay s fun a ha => k a (List.mem_append_right _ ha))
theorem StV.held {F H : Hp} : ∀ {O : List Addr} {vs : List V} {ts : List T}, StV F H O vs ts → ∀ a ∈ O, Held H a
  | _, _, _, .nil, a, ha => nomatch ha
  | _, _, _, .cons h r, a, ha => (List.mem_append.mp ha).elim (h.held a) (r.held a)
theorem StV.there {F H : Hp} : ∀ {O : List Addr} {vs : List V} {ts : List T}, StV F H O vs ts → ∀ a ∈ O, H a ≠ none
  | _, _, _, .nil, a, ha => nomatch ha
  | _, _, _, .cons h r, a, ha => (List.mem_append.mp ha).elim (h.there a) (r.there a)
end QL

/-! QTD: f(e), e a thing that has no name yet. -/
namespace QL
open PySem PySem.Spec PyProof.Rows L2
end QL

/-! QTK: methods with *args: def m(self, *xs). -/
namespace QL
open PySem PySem.Spec PyProof.Rows L2 StX
/-- a def's promise to its callers, by the arguments as they are written (by place alone) -/
structure FnS (P : Program) (w : World) (K : PySem.W.Frag) (mg : Str → Option Value) (base : Heap) (Tq : List (Addr × Str)) (k : Nat) (f : Addr) (sp : Spc) : Prop where
  run : ∀ (A : Around) (outer : List PySem.Env) (s : Shared) (H : Hp) (us : List Value) (vs : List V) (F : Hp) (O : List Addr) (ts : List T) (QT : T → List (Option T) → Prop) (ET : Ex → List (Option T) → Prop) (E : XK) (tbs : TabZ Tq H F O),
    Room k A → A.guards = some [] → Env0 P w K mg base A outer s H → Vals vs us → Bas ⟨H, F, O, tbs⟩ F H O → StV F H O vs ts → sp ts QT ET →
    (∀ ex ts' cls d H' F' O', Bas ⟨H, F, O, tbs⟩ F' H' O' → StVO F' H' O' vs ts' → ExAt F' ex cls d → ET ex ts' → E cls d H') →
    codeAny (model P w) A (.call (.ref f) ⟨us, []⟩) (CR (L2.CX P w) outer P w H s (fun v H' => ∃ F' O1 O2 t ts', Bas ⟨H, F, O, tbs⟩ F' H' (O1 ++ O2) ∧ StVO F' H' O1 vs ts' ∧ Ow F' H' O2 v t ∧ QT t ts') E) s
theorem FnS.mono {P : Program} {w : World} {K : PySem.W.Frag} {mg : Str → Option Value} {base : Heap} {Tq : List (Addr × Str)} {j k : Nat} {f : Addr} {sp : Spc} (G : FnS P w K mg base Tq j f sp) (h : j ≤ k) : FnS P w K mg base Tq k f sp :=
  ⟨fun A outer s H us vs F O ts QT ET E tbs hr => G.run A outer s H us vs F O ts QT ET E tbs (hr.mono h)⟩
/-- one thing, then data that make a tuple -/
def spStar (sp : Spc) : Spc := fun ts QT ET => ∃ t0 ds, ts = t0 :: ds.map T.va ∧ ds.length ≤ sizeLine ∧
  sp [t0, .va (.tuple ds)] (fun t ts' => match ts' with | x :: _ => QT t (x :: ds.map fun _ => none) | [] => False) (fun ex ts' => match ts' with | x :: _ => ET ex (x :: ds.map fun _ => none) | [] => False)
structure MfS (P : Program) (w : World) (K : PySem.W.Frag) (mg : Str → Option Value) (base : Heap) (Tq : List (Addr × Str)) (k : Nat) (C : Addr) (m : Str) (sp : Spc) : Prop where
  ex : ∃ f, FnS P w K mg base Tq k f (spStar sp) ∧ Cls K C ∧ Meth K C m f ∧ (PySem.W.specialIn K (.ref f) "__get__" = some (some (.builtin "function.__get__")) ∧ PySem.W.takesIn K (.ref f) = some false ∧ PySem.W.copiedNames.contains m = false ∧ PySem.W.fnIn K f = true)
theorem MfS.mono {P : Program} {w : World} {K : PySem.W.Frag} {mg : Str → Option Value} {base : Heap} {Tq : List (Addr × Str)} {j k : Nat} {C : Addr} {m : Str} {sp : Spc} (G : MfS P w K mg base Tq j C m sp) (h : j ≤ k) : MfS P w K mg base Tq k C m sp :=
  let ⟨f, g, r⟩ := G.ex; ⟨f, g.mono h, r⟩
end QL

/-! QLa: a lambda without parameters, handed to a def that calls it. -/
namespace QL
open PySem PySem.Spec PyProof.Rows L2
theorem lam_ne (q : Str) : q ++ "<lambda>" ≠ ("()" : Str) := fun e => by
  have h : (q.cps ++ ("<lambda>" : Str).cps).size = ("()" : Str).cps.size := congrArg (fun s : Str => s.cps.size) e
  have h8 : ("<lambda>" : Str).cps.size = 8 := by decide +kernel
  have h2 : ("()" : Str).cps.size = 2 := by decide +kernel
  rw [Array.size_append] at h
  omega

theorem among_mono {p' : Pos} {cv : Value} (l m : List Value) (hc : codeAmong p' l = some cv) : codeAmong p' (l ++ m) = some cv := by
  fun_induction codeAmong p' l with
  | case1 line t col u c rest hq => simp only [List.cons_append, codeAmong]; rw [if_pos hq]; exact hc
  | case2 line t col u c rest hq ih => simp only [List.cons_append, codeAmong]; rw [if_neg hq]; exact ih hc
  | case3 l h => cases hc
theorem among_new {pos : Pos} {c : Value} (l : List Value) (h : TriplesOk l) (hn : codeAmong pos l = none) : codeAmong pos (l ++ [rawInt pos.line, rawInt pos.col, c]) = some c := by
  fun_induction TriplesOk l with
  | case1 => simp [rawInt, codeAmong]
  | case2 a t b u x rest ih =>
    simp only [List.cons_append, codeAmong] at hn ⊢
    split at hn
    · cases hn
    · rename_i q
      rw [if_neg q]
      exact ih h hn
  | case3 l h1 h2 => exact h.elim

/-! ### the slots after an error -/
def DomT (x y : Option T) : Prop := match y with
  | none => True
  | some (.va d) => x = some (.va d)
  | some t' => match t'.addr with
    | some a => ∃ t, x = some t ∧ t.addr = some a
    | none => False
/-- what e' says stands in the same values as what e said -/
def Dom : Env → Env → Prop
  | [], [] => True
  | x :: e, y :: e' => DomT x y ∧ Dom e e'
  | _, _ => False
theorem OwE.dom {F H F' H' : Hp} (s : Same F F') : ∀ {e e' : Env} {σ σ' : L2.St} {O O' : List Addr}, OwE F H O σ e → OwE F' H' O' σ' e' → Dom e e' → OwE F' H' O' σ e'
  | [], [], _, _, _, _, .nil, .nil, _ => .nil
  | [], _ :: _, _, _, _, _, _, _, h => h.elim
  | _ :: _, [], _, _, _, _, _, _, h => h.elim
  | x :: e, y :: e', _, _, _, _, o, o', h => by
    cases o' with
    | un o' =>
      cases o with
      | un o => exact .un (OwE.dom s o o' h.2)
      | so w o => exact .un (OwE.dom s o o' h.2)
    | @so O1 O2 σ2 _ v t' w' o' =>
      have h1 := h.1
      cases o with
      | un o =>
        exfalso
        cases t' with
        | va d => have h1 : (none : Option T) = some (.va d) := h1; cases h1
        | _ =>
          simp only [DomT] at h1
          split at h1
          · obtain ⟨_, z, _⟩ := h1; cases z
          · exact h1
      | @so P1 P2 τ _ u t w o =>
        refine .so ?_ (OwE.dom s o o' h.2)
        have addr : ∀ a, t'.addr = some a → t.addr = some a → Ow F' H' O1 u t' := fun a e1 e2 => by
          have := w'.ref e1
          subst this
          have := w.ref e2
          subst this
          exact w'
        cases ht : t' with
        | va d =>
          subst ht
          have h1 : some t = some (.va d) := h1
          cases h1
          cases w with
          | va r =>
            cases w' with
            | va r' => exact .va (r.mono s)
        | _ =>
          rw [ht] at h1
          have h2 : ∃ a, t'.addr = some a ∧ t.addr = some a := by
            rw [ht]
            simp only [DomT] at h1
            split at h1
            · rename_i a ea
              obtain ⟨t0, e0, e1⟩ := h1
              cases e0
              exact ⟨a, ea, e1⟩
            · exact h1.elim
          obtain ⟨a, e1, e2⟩ := h2
          rw [← ht]
          exact addr a e1 e2
/-- what a lambda promises: of its maker's names as they are -/
abbrev LamB := Env → (T → Env → Prop) → (Ex → Env → Prop) → Prop
/-- the rule that a()  gets, in the def that holds the lambda in slot i -/
def Act {Tq : List (Addr × Str)} (Z : Zb Tq) (Xc : Cx) (a : Str) (i : Nat) (lam : Env → T) (LB : LamB) : Prop :=
  ∀ (Z' : Zb Tq) (pn : List (Addr × Obj)) (xe : Value → Shared → Prop) (p1 p2 : Pos) (env e : Env) (P : R → Env → Prop) (ET : Ex → Env → Prop), TabM Tq Z.H Z'.H → Takes (Xc.tr pn xe) (wxOf Z' ET) → env[i]? = some (some (lam e)) →
    LB e (fun t e' => P (.t t) (env.set i (some (lam e')))) (fun ex e' => ET ex (env.set i (some (lam e')))) → WE Z' (Xc.tr pn xe) (.Call (.Name a p1) [] [] p2) env P
/-- what a def promises that gets a lambda and calls it; tg: what is wanted of the lambda, from what is wanted of the answer and of the maker's names then -/
abbrev Tg := ((T → Env → Prop) → (Ex → Env → Prop) → Prop) → (T → Env → Prop) → Prop
structure GvL (P : Program) (w : World) (K : PySem.W.Frag) (mg : Str → Option Value) (base : Heap) (Tq : List (Addr × Str)) (k : Nat) (x a : Str) (tg : Tg) : Prop where
  ex : ∃ (Ng : List Str) (st : Stmt) (g : Addr) (fd : FuncData), Fun K x x st g fd ∧ mg x = some (.ref g) ∧ PySem.W.keepIn K (.ref g) = true ∧ L2.Binds K fd [a] [] ∧ FnScope Ng [a] (defScope st) ∧ Ng[0]? = some a ∧ Vis (defScope st) a ∧
    ∀ (cdg : Value) (A : Around) (outer : List PySem.Env) (s : Shared) (H : Hp) (Z : Zb Tq) (lam : Env → T) (LB : LamB) (e0 : Env) (QT : T → Env → Prop),
      Room k (BX P w K mg base Ng x st g cdg A outer s H fun _ _ _ => False).A → (BX P w K mg base Ng x st g cdg A outer s H fun _ _ _ => False).A.guards = some [] →
      PassesOwn (model P w) (BX P w K mg base Ng x st g cdg A outer s H fun _ _ _ => False).A (BX P w K mg base Ng x st g cdg A outer s H fun _ _ _ => False).env (BX P w K mg base Ng x st g cdg A outer s H fun _ _ _ => False).xe →
      Act Z (BX P w K mg base Ng x st g cdg A outer s H fun _ _ _ => False) a 0 lam LB → tg (LB e0) QT →
      WSs Z (BX P w K mg base Ng x st g cdg A outer s H fun _ _ _ => False) (defBody st) (startE Ng [lam e0]) fun o => match o with
        | .ret t env => ∃ e', env[0]? = some (some (lam e')) ∧ QT t e'
        | _ => False
end QL

/-! QLb: try: .. except C as e: x = e; what x is afterwards. -/
namespace QL
open PySem PySem.Spec PyProof.Rows L2

/-- at a: an exception of the class cls, its dict at d -/
def ExK (cls : Value) (d : Option Addr) (a : Addr) : HO := .ext fun h => ∃ (oe : Obj) (vs : Array Value), h.get? a = some oe ∧ Zc cls d oe ∧ oe.data = .fields vs
theorem exK_ok {P : Program} {w : World} {H : Hp} {h : Heap} {a : Addr} {cls : Value} {d : Option Addr} {oe : Obj} {vs : Array Value} (e : h.get? a = some oe) (z : Zc cls d oe) (hd : oe.data = .fields vs) : ObjOk P w H h a (ExK cls d a) :=
  ⟨⟨oe, vs, e, z, hd⟩, ⟨oe, e⟩, fun _ _ ⟨o, v, q, r⟩ k => ⟨o, v, k o q, r⟩⟩
section
variable {X : Cx} {pins : List (Addr × Obj)} {σ : L2.St} {H : Hp} {s : Shared}
/-- an object of ours, pinned so far, is tracked from now on -/
theorem track {a : Addr} {oe : Obj} {o : HO} (I : Inv X ((a, oe) :: pins) σ H s) (h0 : X.s_0.heap.get? a = none) (np : ∀ p ∈ X.pn ++ pins, p.1 ≠ a) (new : ObjOk X.prog X.w (upd H a o) s.heap a o) : Inv X pins σ (upd H a o) s := by
  obtain ⟨ha, na, nL, nF, nc⟩ := I.pin (a, oe) (List.mem_append_right _ List.mem_cons_self)
  have na : H a = none := na
  refine ⟨I.ok, I.os, I.bare, ⟨I.base.keep, I.base.slot, fun b q e n hx => ?_, I.base.there, fun b xs e => ?_, fun b q u e => ?_, fun b ps e => ?_⟩, I.loc, I.cell, ?_, fun x c e => ?_, fun p hp => ?_, I.hok.laidN (fun _ _ z => z) na new, I.len⟩
  · rw [upd_ne fun z => by rw [z, h0] at e; cases e]
    exact I.base.free b q e n hx
  · have := I.base.tups b xs e
    rw [upd_ne (ne_of_none this na)]
    exact this
  · have := I.base.frzs b q u e
    rw [upd_ne (ne_of_none this na)]
    exact this
  · obtain ⟨more, this⟩ := I.base.tbls b ps e
    exact ⟨more, by rw [upd_ne (ne_of_none this na)]; exact this⟩
  · rw [upd_ne fun z => nL z.symm]
    exact I.free
  · rw [upd_ne fun z => ?_]
    · exact I.freeC x c e
    · subst z
      obtain ⟨v, o', ho', hd'⟩ := I.cell x c e
      rw [ha] at ho'
      cases ho'
      exact nc _ hd'
  · obtain ⟨q1, q2, q3, q4, q5⟩ := I.pin p (by
      rcases List.mem_append.mp hp with z | z
      · exact List.mem_append_left _ z
      · exact List.mem_append_right _ (List.mem_cons_of_mem _ z))
    exact ⟨q1, by rw [upd_ne (np p hp)]; exact q2, q3, q4, q5⟩
end
/-- what the clause 'except x as n' wishes: the exception is tracked behind the suite -/
def wAsT (K : PySem.W.Frag) (c : Value) (i : Nat) (ts : Addr → Value → Option Addr → TS) (D : Ends) : WX := fun cls d σ H =>
  PySem.W.exmOne K cls c = some true ∧ ∀ a, H a = none → ts a cls d { nx := fun σ' H' => H' a = none ∧ D.nx (σ'.set i none) (upd H' a (ExK cls d a)), rt := fun _ _ => False, bk := fun _ _ => False, ct := fun _ _ => False } (σ.set i (some (.ref a))) H
section
variable {X : Cx} {x n : Str} {c : Value} {i : Nat} {body suite : List Stmt} {b₀ : Stmt} {np pos pos' : Pos} {tb : WX → TS} {ts : Addr → Value → Option Addr → TS}
theorem ps_try_asT (hs : X.stack = X.env :: X.outer) (hf : X.env.frame = some X.env.locals) (hex : X.ex = []) (hN : X.N.Nodup) (hi : X.N[i]? = some n) (hln : X.env.kindOf n = some .local) (hc : Names X x c)
    (hb : ∀ (W : WX) (pn : List (Addr × Obj)) (xe : Value → Shared → Prop), Takes (X.tr pn xe) W → PassesOwn (model X.prog X.w) X.A X.env xe → PSs (X.tr pn xe) body (tb W))
    (hsu : ∀ (a : Addr) (oe : Obj) (cls : Value) (d : Option Addr) (pn : List (Addr × Obj)), Zc cls d oe → (∃ vs, oe.data = .fields vs) → PSs (X.suite a ((a, oe) :: pn)) (b₀ :: suite) (ts a cls d)) :
    PS X (.Try body [.ExceptHandler (some (.Name x np)) (some n) (b₀ :: suite) pos'] [] [] pos) (fun D σ H => tb (wAsT X.K c i ts D) D σ H) := by
  refine ⟨fun pins s σ H D I h => ?_⟩
  have ok := I.ok
  have hfr : X.A.frames = some (X.env :: X.outer) := by rw [ok.frames, hs]
  have hloc : Loc X.env.scope n := .inl hln
  refine wpAny_Try_except ?_
  refine wpAny_mono ((hb (wAsT X.K c i ts D) (X.pn ++ pins) (fun e s₁ => wpAny (model X.prog X.w) X.A (noteFrame e X.env) (fun _ s₂ => wpAny (model X.prog X.w) X.A (setFlight e none) (fun _ s₃ =>
    wpAny (model X.prog X.w) X.A (handleBy e X.env [.ExceptHandler (some (.Name x np)) (some n) (b₀ :: suite) pos']) (SP X pins D) X.xe s₃) X.xe s₂) X.xe s₁) (fun u s' xx => ?_) PassesOwn.looking).run [] s σ H D (I.toTry _) h) (fun f s1 hsp => ?_) (fun e s1 he => he)
  · -- the catch
    obtain ⟨a, B, sI, pins', σ', H', cls, d, rfl, J', nb, up, sky, na, os, ag, hb1, hyes⟩ := xx
    have J : Inv X pins σ' H' sI := J'.ofTry ok
    have sky' : Sky B (X.env :: X.outer) a (Zc cls d) X.env.locals s'.heap := by rw [← hs]; exact sky
    show wpAny (model X.prog X.w) X.A (noteFrame (.ref a) X.env) _ _ _
    refine Sky.land Zc.steady hfr hf sky' fun h3 fl3 up3 => ?_
    have J3 : Inv X pins σ' H' { s' with heap := h3 } := J.landed nb fl3.1 (up.trans up3) os ag
    obtain ⟨oe3, vs3, he3, hz3, hd3⟩ := fl3.there
    have notFr : ∀ {h : Heap} {o : Obj} {vs : Array Value}, h.FunFrames B (X.env :: X.outer) → h.get? a = some o → o.data = .fields vs → a ∉ frs (X.env :: X.outer) := fun {h o vs} ff e dd hm => by
      obtain ⟨_, o', e', hnf⟩ := ff.mem hm
      rw [e] at e'; cases e'
      exact hnf _ dd
    have nfr := notFr fl3.2.2.1 he3 hd3
    have nL : a ≠ X.env.locals := fun z => nfr (List.mem_filterMap.mpr ⟨X.env, List.mem_cons_self, by rw [hf, z]⟩)
    have nF : a ∉ X.fs := fun hm => by
      obtain ⟨e, he, q⟩ := List.mem_filterMap.mp hm
      exact nfr (List.mem_filterMap.mpr ⟨e, List.mem_cons_of_mem _ he, q⟩)
    have Ba : B.get? a = none := fl3.2.1
    have h0 : X.s_0.heap.get? a = none := by
      cases q : X.s_0.heap.get? a with
      | none => rfl
      | some o =>
        obtain ⟨o', e⟩ := J.base.there a o q (by rw [hex]; exact List.not_mem_nil)
        have := nb a o' e (by rw [hs]; exact nfr)
        rw [Ba] at this
        cases this
    have npa : ∀ p ∈ X.pn ++ pins, p.1 ≠ a := fun p hp z => by
      obtain ⟨q1, _⟩ := J.pin p hp
      rw [z] at q1
      have := nb a _ q1 (by rw [hs]; exact nfr)
      rw [Ba] at this
      cases this
    have S3 := J3.suite he3 hd3 na nL nF
    refine wpAny_handleBy_cons (codeAny_handlers_test ?_) (by intro q; cases q)
    have LT : PySem.W.Looks (model X.prog X.w) h3 (typeOf (.ref a)) cls := fun A Q E s k q => wpAny_typeOf_ref (k _ _ he3) (by rw [hz3.1]; exact q)
    have LM := PySem.W.exm_one (M := model X.prog X.w) (J3.kIn) LT hb1
    have test : ∀ {Q : Value → Shared → Prop} {E : Value → Shared → Prop}, Q c { s' with heap := h3 } → wpAny (model X.prog X.w) (X.A.mark (some (.ref a))) (eval (.Name x np) X.env) Q E { s' with heap := h3 } := fun {Q E} q => by
      obtain ⟨hg, hdbg, hm | ⟨hm, hv, hnn⟩⟩ := hc
      · exact ld_glob (X := X.suite a ((a, oe3) :: (X.pn ++ pins))) S3 hg hm q hdbg
      · exact ld_blt (X := X.suite a ((a, oe3) :: (X.pn ++ pins))) S3 hg hm hv q hnn hdbg
    refine test (LM.here ?_)
    refine codeAny_handlers_suite_as ?_
    refine HandSPX.lands_againZ fl3 fun h4 fl4 up4 => ?_
    have J4 : Inv X pins σ' H' { s' with heap := h4 } := J.landed nb fl4.1 ((up.trans up3).trans up4) os ag
    obtain ⟨oe4, vs4, he4, hz4, hd4⟩ := fl4.there
    have S4 := J4.suite he4 hd4 na nL nF
    refine store_ok (X := X.suite a ((a, oe4) :: (X.pn ++ pins))) (v := .ref a) S4 hN hi hloc rfl (fun s5 S5 => ?_) (.inr hln)
    refine wpAny_mono ((hsu a oe4 cls d (X.pn ++ pins) hz4 ⟨_, hd4⟩).run [] s5 _ H' _ S5 (hyes a na)) (fun f s6 hsp => ?_) (fun _ _ z => False.elim z)
    cases f with
    | next =>
      obtain ⟨σ6, H6, S6, n6, q6⟩ := hsp
      have P6 : Inv X ((a, oe4) :: pins) σ6 H6 s6 := ⟨ok, S6.os, S6.bare, S6.base, S6.loc, S6.cell, S6.free, S6.freeC, fun p hp => S6.pin p (by
        rcases List.mem_append.mp hp with z | z
        · exact List.mem_append_left _ (List.mem_cons_of_mem _ (List.mem_append_left _ z))
        · rcases List.mem_cons.mp z with z | z
          · rw [z]; exact List.mem_append_left _ List.mem_cons_self
          · exact List.mem_append_left _ (List.mem_cons_of_mem _ (List.mem_append_right _ z))), S6.hok, S6.len⟩
      refine gone_ok P6 hN hi hln fun s7 J7 => ?_
      have e7 := (J7.pin (a, oe4) (List.mem_append_right _ List.mem_cons_self)).1
      exact ⟨_, _, track J7 h0 npa (exK_ok e7 hz4 hd4), q6⟩
    | brk =>
      obtain ⟨σ6, H6, S6, q6⟩ := hsp
      exact q6.elim
    | cont =>
      obtain ⟨σ6, H6, S6, q6⟩ := hsp
      exact q6.elim
    | ret u =>
      obtain ⟨v6, σ6, H6, S6, r6, q6⟩ := hsp
      exact q6.elim
  · cases f with
    | next =>
      obtain ⟨σ', H', J', q⟩ := hsp
      exact wpAny_execs_nil ⟨σ', H', J'.ofTry ok, q⟩
    | brk =>
      obtain ⟨σ', H', J', q⟩ := hsp
      exact ⟨σ', H', J'.ofTry ok, q⟩
    | cont =>
      obtain ⟨σ', H', J', q⟩ := hsp
      exact ⟨σ', H', J'.ofTry ok, q⟩
    | ret u =>
      obtain ⟨v, σ', H', J', r, q⟩ := hsp
      exact ⟨v, σ', H', J'.ofTry ok, r, q⟩
end
theorem ExAt.mono {F F' : Hp} {ex : Ex} {cls : Value} {d : Option Addr} (s : Same F F') (h : ExAt F ex cls d) : ExAt F' ex cls d := by
  obtain ⟨e, h | ⟨dd, vfs, ed, hd, r⟩⟩ := h
  · exact ⟨e, .inl h⟩
  · exact ⟨e, .inr ⟨dd, vfs, ed, s _ _ hd, r.mono s⟩⟩
/-- a caught exception that a name holds -/
def excT (a : Addr) (ex : Ex) : T := .ob (some a) fun F _ O v => O = [] ∧ v = .ref a ∧ ∃ cls d, F a = some (ExK cls d a) ∧ ExAt F ex cls d
theorem excT_ow {F H : Hp} {a : Addr} {ex : Ex} {cls : Value} {d : Option Addr} (h : F a = some (ExK cls d a)) (x : ExAt F ex cls d) : Ow F H [] (.ref a) (excT a ex) :=
  .ob ⟨rfl, rfl, cls, d, h, x⟩ ⟨fun F H F' H' O v ⟨h1, h2, cls, d, h3, h4⟩ s _ => ⟨h1, h2, cls, d, s _ _ h3, h4.mono s⟩, fun F H O v ⟨h1, _⟩ b hb => (by subst h1; cases hb), fun F H O v b ⟨_, h2, _⟩ e => by cases e; exact h2⟩
theorem endsOf.back {Tq : List (Addr × Str)} {Z : Zb Tq} {F H : Hp} {O : List Addr} {P : Out → Prop} (b : Bas Z F H O) : EndsLe (endsOf ⟨H, F, O, b.tabs⟩ H F O P) (endsOf Z H F O P) :=
  have to : ∀ {F' H' : Hp} {O' : List Addr}, Bas ⟨H, F, O, b.tabs⟩ F' H' O' → Bas Z F' H' O' := fun b' => ⟨b'.sub, b'.nd, b'.dis, b.abs.trans b'.abs⟩
  ⟨fun σ H' ⟨F', O', e, b', o', fr, q⟩ => ⟨F', O', e, to b', o', fr, q⟩, fun v H' ⟨F', Oa, Ob, σ, t, e, b', o', w', fr, q⟩ => ⟨F', Oa, Ob, σ, t, e, to b', o', w', fr, q⟩,
    fun σ H' ⟨F', O', e, b', o', fr, q⟩ => ⟨F', O', e, to b', o', fr, q⟩, fun σ H' ⟨F', O', e, b', o', fr, q⟩ => ⟨F', O', e, to b', o', fr, q⟩⟩
/-- try: body / except x as n: y = n -/
theorem ws_try_err {Tq : List (Addr × Str)} {Z : Zb Tq} {X : Cx} {env : Env} {PO : Out → Prop} (i j : Nat) {x n y : Str} {c : Value} {body : List Stmt} {np pos pos' py pn pa : Pos} (hs : X.stack = X.env :: X.outer) (hf : X.env.frame = some X.env.locals) (hex : X.ex = []) (hN : X.N.Nodup) (hc : Names X x c)
    (h : ∀ (Z' : Zb Tq) (pins : List (Addr × Obj)) (xe : Value → Shared → Prop), TabM Tq Z.H Z'.H → Takes (X.tr pins xe) (wxOf Z' fun ex e => PySem.W.exmOne X.K (.ref ex.C) c = some true ∧ i < e.length ∧ j < e.length ∧ ∀ a, PO (.nx ((e.set j (some (excT a ex))).set i none))) → WSs Z' (X.tr pins xe) body env PO)
    (hi : X.N[i]? = some n := by rfl) (hj : X.N[j]? = some y := by rfl) (hij : i ≠ j := by decide) (hln : X.env.kindOf n = some .local := by rfl) (hlj : X.env.scope.names.lookup y = some .local := by rfl) (hv : Vis X.env.scope n := by first | exact Or.inl rfl | exact Or.inr (Or.inl rfl) | exact Or.inr (Or.inr rfl))
    (hd : (n == ("__debug__" : Str)) = false := by decide) (hcd : (n == ("__classdict__" : Str)) = false := by decide) (hsw : swapsWith (.Name n pn) (some (.Name y py)) pa.line X.env = pure false := by rfl) :
    WS Z X (.Try body [.ExceptHandler (some (.Name x np)) (some n) [.Assign [.Name y py] (.Name n pn) pa] pos'] [] [] pos) env PO :=
  ws_of (ps_try_asT (i := i) (c := c) (ts := fun a cls d D σ H => ∃ v, σ[i]? = some (some v) ∧ D.nx (σ.set j (some v)) H)
    (tb := fun W D σ H => ∀ (pins : List (Addr × Obj)) (xe : Value → Shared → Prop), Takes (X.tr pins xe) W → ∃ Z' : Zb Tq, tSs Z' (X.tr pins xe) body D σ H)
    hs hf hex hN hi hln hc (fun W pins xe tk _ => ⟨fun pins' s σ H D I t => let ⟨Z', t'⟩ := t pins xe tk; (pss_S (Z := Z')).run pins' s σ H D I t'⟩)
    (fun a oe cls d pins hz hf => pss_one (ps_set (X := X.suite a ((a, oe) :: pins)) hN hj (.inl hlj) (pe_var (i := i) hi hv hd hcd) hsw (.inr hlj)))) fun σ H F O b o => by
    intro pins xe tk
    refine ⟨⟨H, F, O, b.tabs⟩, env, F, O, PO, b.entry, o, h ⟨H, F, O, b.tabs⟩ pins xe b.abs.tb (tk.imp fun cls d σ' H' wx => ?_), endsOf.back b⟩
    obtain ⟨F', O', e, ex, b', o', xa, hx, li, lj, q⟩ := wx
    have ec : cls = .ref ex.C := xa.1
    refine ⟨by rw [ec]; exact hx, fun a na => ⟨.ref a, ?_, na, ?_⟩⟩
    · rw [List.getElem?_set_self (by rw [o'.len]; exact li)]
    have fa : F' a = none := b'.sub.free na
    have sF : Same F' (upd F' a (ExK cls d a)) := same_new fa
    have sH : Same H' (upd H' a (ExK cls d a)) := same_new na
    have keep : ∀ c ∈ O', upd H' a (ExK cls d a) c = H' c := fun c hc => upd_ne fun z => o'.there c hc (z ▸ na)
    have o1 := o'.stay sF keep
    obtain ⟨O1, P1, o2, p1⟩ := o1.set j (excT_ow (H := upd H' a (ExK cls d a)) upd_same (xa.mono sF)) lj
    obtain ⟨O2, P2, o3, p2⟩ := o2.wipeO [i]
    have pm : O'.Perm (O2 ++ (P2 ++ P1)) := by
      rw [← List.append_assoc]
      have := p1.trans (p2.append_right P1)
      rwa [List.nil_append] at this
    have es : ((σ'.set i (some (V.ref a))).set j (some (V.ref a))).set i none = (σ'.set j (some (V.ref a))).set i none := by
      rw [List.set_comm _ _ hij, List.set_set]
    have fr : Frm Tq H' F' O' (upd H' a (ExK cls d a)) (upd F' a (ExK cls d a)) O2 := ⟨sF, fun c y e _ _ => sH c y e, fun c e => by
      by_cases z : c = a
      · subst z; rw [upd_same]; exact fun z => nomatch z
      · rw [upd_ne z]; exact e, fun c e => by
      by_cases z : c = a
      · subst z; exact .inr (.inl na)
      · rw [upd_ne z] at e; exact .inl e, fun c hc => .inl (pm.mem_iff.mpr (List.mem_append_left _ hc)), tab_new na⟩
    refine ⟨upd F' a (ExK cls d a), O2, (e.set j (some (excT a ex))).set i none, ⟨fun c y z => ?_, (List.nodup_append.mp (pm.nodup b'.nd)).1, fun c hc => ?_, (b.abs.trans b'.abs).trans fr⟩, ?_, b'.abs.trans fr, q a⟩
    · by_cases z2 : c = a
      · subst z2; rw [upd_same] at z ⊢; exact z
      · rw [upd_ne z2] at z ⊢; exact b'.sub c y z
    · have hc' : c ∈ O' := pm.mem_iff.mpr (List.mem_append_left _ hc)
      rw [upd_ne fun z => o'.there c hc' (by rw [z]; exact na)]
      exact b'.dis c hc'
    · rw [es]
      refine OwE.none_any (e := (e.set j (some (excT a ex))).set i none) o3 (List.length_set ..) fun m hm => ?_
      rw [List.getElem?_set_ne]
      intro z
      subst z
      exact hm (by rw [List.getElem?_set_self (by rw [List.length_set]; exact li)])
end QL

/-! QLc: an exception that a name holds: isinstance, is None, its fields. -/
namespace QL
open PySem PySem.Spec PySem.Calls PyProof.Rows L2
section
variable {prog : Program} {w : World} {A : Around} {E : Value → Shared → Prop} {s : Shared} {K : PySem.W.Frag} {x D : Addr} {ox : Obj} {od : Option Obj}
theorem findObj_dataO {C : Addr} {name : Str} {a g : Value} (hc : (PySem.W.clsIn K C).isSome = true) (ha : PySem.W.findIn K (.ref C) name = some (some a)) (hg : PySem.W.specialIn K a "__get__" = some (some g)) (ht : PySem.W.takesIn K a = some true) : PySem.W.findObj K C od name = some (.bind g a) := by
  obtain ⟨cd, hc⟩ := Option.isSome_iff_exists.mp hc
  unfold PySem.W.findObj
  rw [hc, Option.bind_some, ha, Option.bind_some]
  simp [hg, ht]
theorem kin_classO {Q : Option Value → Shared → Prop} (C : ExcC K D) (X : K.In s.heap) (I : PySem.W.InstAt s.heap x ox D od) (h : Q (some (.ref D)) { s with toks := s.toks + 1 }) : wpAny (model prog w) A (getAttr? (.ref x) "__class__") Q E s := by
  obtain ⟨hga, hgt, hsub, hdct, ha, hn, htk, hm⟩ := C
  have hf : PySem.W.findObj K D od "__class__" = some (.bind (.builtin "getset_descriptor.__get__") (.builtin "object.__class__")) := findObj_dataO (by obtain ⟨cd, hc, _⟩ := PySem.W.any_some hdct; rw [hc]; rfl) ha hn htk
  obtain ⟨hp, g, d, t, os⟩ := s
  have L0 := I.type (M := model prog w)
  have L1 := PySem.W.looks_findIn (M := model prog w) X hga
  have L2 := PySem.W.looks_findIn (M := model prog w) X hgt
  have L3 := PySem.W.looks_find (M := model prog w) X I hf
  have sub : PySem.W.Looks (model prog w) hp (isInstance (.ref x) (.type "BaseException")) true := L0.andThen (PySem.W.looks_subIn X hsub)
  have hx0 : (false && onTheHeap (Value.builtin "BaseException.__getattribute__")) = false := rfl
  have hx2 : (Value.builtin "BaseException.__getattribute__" == Value.builtin "object.__getattribute__") = false := by decide +kernel
  have hx1 : (onTheHeap (Value.ref D) && Value.builtin "BaseException.__getattribute__" == Value.builtin "object.__getattribute__") = false := by rw [hx2]; rfl
  unfold getAttr? getAttrBy? getAttrBy
  refine wpAny_bind (wpAny_mkText (wpAny_bind (wpAny_attempt (wpAny_holding (wpAny_bind (L0.at (wpAny_bind (L1.at ?_))))))))
  show wpAny _ _ (if (onTheHeap (Value.ref D) && Value.builtin "BaseException.__getattribute__" == Value.builtin "object.__getattribute__") = true then _ else _) _ _ _
  rw [hx1, if_neg Bool.false_ne_true]
  unfold getAttrByItsOwn hookBefore
  refine wpAny_bind ?_
  rw [if_pos (show onTheHeap (Value.ref D) = true from rfl)]
  refine L2.at ?_
  refine wpAny_bind (wpAny_attempt (wpAny_holding ?_))
  unfold callGetattribute
  rw [hx0, if_neg Bool.false_ne_true]
  unfold boundAndCalled
  rw [PySem.F.excAttr_ValueError.ga.bind (.ref x)]
  refine wpAny_bind (wpAny_pure ?_)
  show wpAny _ _ (call (.builtin "BaseException.__getattribute__") [.ref x, .str "__class__" t]) _ _ _
  refine wpAny_call (codeAny_call_builtin PySem.F.excAttr_ValueError.ga.plain PySem.F.entry_bexc_ga ?_)
  refine @PySem.W.check_slot (model prog w) _ _ ⟨hp, g, d, t + 1, os⟩ "BaseException.__getattribute__" "BaseException" "__getattribute__" (.ref x) [.str "__class__" t] [] _ (by decide +kernel) (by decide +kernel) sub (PySem.F.args_bexc_ga (.ref x) (.str "__class__" t)) ?_
  unfold Builtin.«object.__getattribute__»
  refine wpAny_bind (wpAny_of_eq (a := ((Value.ref x : Value), [Value.str "__class__" t])) (by first | rfl | (simp only [slotArgs]; rfl)) ?_)
  refine wpAny_bind (wpAny_pure (wpAny_bind (L0.at (wpAny_bind (L3.at ?_)))))
  show wpAny _ _ (holding [Value.builtin "object.__class__"] (call (.builtin "getset_descriptor.__get__") [.builtin "object.__class__", .ref x, .ref D]) >>= ret) _ _ _
  refine wpAny_bind (wpAny_holding (wpAny_call (PySem.W.class_get (s := ⟨hp, g, d, t + 1, os⟩) (ox := ox) (od := od) X I hm ?_)))
  refine wpAny_pure ?_
  show wpAny _ _ (handedOut (.ref D)) _ _ _
  rw [PySem.W.handedOut_of (v := .ref D) rfl]
  first
    | exact wpAny_pure (wpAny_pure h)
    | exact wpAny_pure h
    | exact wpAny_pure (wpAny_bind (wpAny_pure (wpAny_pure h)))
theorem kitx_excO (C : ExcC K D) : PySem.W.KitX K (.ref x) (.ref D) (fun h => PySem.W.InstAt h x ox D od) where
  ty := fun _ _ _ I => I.type
  it := fun _ _ X _ => by
    obtain ⟨cdD, hcD, _⟩ := PySem.W.any_some C.hd
    unfold PySem.W.clsIn at hcD
    split at hcD
    · rename_i c' d' cd' sl' ho
      intro A' Q' E' s' k q
      unfold isType loadHead
      exact wpAny_bind (wpAny_loadPart (k _ _ (X _ _ ho)) (wpAny_pure q))
    · cases hcD
  ne := fun h tp dd its n sl X htp => by
    obtain ⟨cdD, hcD, _⟩ := PySem.W.any_some C.hd
    refine Bool.eq_false_iff.mpr fun q => ?_
    have e : D = tp := Value.ref.inj (beq_iff_eq.mp q)
    subst e
    unfold PySem.W.clsIn at hcD
    split at hcD
    · rename_i c' d' cd' sl' ho
      have z := (X _ _ ho).symm.trans htp
      cases z
    · cases hcD
  ca := fun X I k => kin_classO C X I k
end
theorem inst_of {X : Cx} {pins : List (Addr × Obj)} {σ : L2.St} {H : Hp} {s : Shared} {a D : Addr} {d : Option Addr} (I : Inv X pins σ H s) (h : H a = some (ExK (.ref D) d a)) (hd : d = none ∨ ∃ dd fs, d = some dd ∧ H dd = some (.xd fs)) : ∃ ox od, PySem.W.InstAt s.heap a ox D od := by
  obtain ⟨⟨oe, vs, hget, hz, hv⟩, _, _⟩ := I.hok a _ h
  rcases hd with rfl | ⟨dd, fs, rfl, hx⟩
  · exact ⟨oe, none, hget, hz.1, by unfold PySem.W.notCls; rw [hv] <;> rfl, by rw [hz.2]; trivial⟩
  · have hx : ObjOk X.prog X.w H s.heap dd (.xd fs) := I.hok dd _ hx
    obtain ⟨mA, hns, hr⟩ := hx
    obtain ⟨od, ho, hl⟩ := lookIn_ns hns
    exact ⟨oe, some od, hget, hz.1, by unfold PySem.W.notCls; rw [hv] <;> rfl, by rw [hz.2]; exact ho⟩
def rIsX (K : PySem.W.Frag) (D a : Addr) : List V → Hp → VK → Prop := fun xs H Q => ∃ (c : V) (cv : Value) (b : Bool) (d : Option Addr), xs = [.ref a, c] ∧ (∀ u, RelV c u → u = cv) ∧ PySem.W.kitOne K (.ref D) cv = some b ∧ H a = some (ExK (.ref D) d a) ∧ (d = none ∨ ∃ dd fs, d = some dd ∧ H dd = some (.xd fs)) ∧ Q (.bl b) H
theorem call_isX {X : Cx} {a D : Addr} (C : ExcC X.K D) : CallR X (.builtin "isinstance") (rIsX X.K D a) := by
  intro pins s σ H xs us Q I r h
  obtain ⟨c, cv, b, d, rfl, hcv, e, ha, hd, q⟩ := h
  cases r with
  | cons rx rr =>
    cases rr with
    | cons rt rr =>
      cases rr
      cases rx
      have ec := hcv _ rt
      subst ec
      obtain ⟨ox, od, J⟩ := inst_of I ha hd
      exact PySem.W.kia_one (kitx_excO C) I.kIn J e (fun z => nomatch z) fun tk => ⟨.bl b, H, I.kept (t' := tk) fun _ _ z => z, rfl, q⟩
section
variable {Tq : List (Addr × Str)} {Z : Zb Tq} {X : Cx} {env : Env} {P : R → Env → Prop} {pos p p1 p2 apos : Pos} {y : Str} {a : Addr} {ex : Ex}
theorem exc_at {F H : Hp} {O : List Addr} {σ : L2.St} {i : Nat} (b : Bas Z F H O) (o : OwE F H O σ env) (he : env[i]? = some (some (excT a ex))) :
    σ[i]? = some (some (.ref a)) ∧ ∃ d, F a = some (ExK (.ref ex.C) d a) ∧ ExAt F ex (.ref ex.C) d := by
  obtain ⟨w, hw, Oj, O', h1, h2, h3⟩ := o.focusI he
  cases h1 with
  | ob h _ =>
    obtain ⟨_, e, cls, d, h4, h5⟩ := h
    subst e
    obtain rfl : cls = .ref ex.C := h5.1
    exact ⟨hw, d, h4, h5⟩
theorem ExAt.dict {F H : Hp} {cls : Value} {d : Option Addr} (s : Same F H) (h : ExAt F ex cls d) : d = none ∨ ∃ dd fs, d = some dd ∧ H dd = some (.xd fs) := by
  obtain ⟨_, h | ⟨dd, vfs, ed, hd, _⟩⟩ := h
  · exact .inl h.1
  · exact .inr ⟨dd, vfs, ed, s _ _ hd⟩
/-- isinstance(y, T), y an exception, T a class of one's own -/
theorem w_isE (i : Nat) {T : Str} {D : Addr} {k : Bool} (C : ExcC X.K ex.C) (he : env[i]? = some (some (excT a ex))) (hk : PySem.W.kitOne X.K (.ref ex.C) (.ref D) = some k) (h : P (.t (.va (.bool k))) env) (hm : X.mg "isinstance" = none) (hmT : X.mg T = some (.ref D))
    (hN : X.N[i]? = some y := by rfl) (hv : Vis X.env.scope y := by first | exact Or.inl rfl | exact Or.inr (Or.inl rfl) | exact Or.inr (Or.inr rfl)) (hd : (y == ("__debug__" : Str)) = false := by decide) (hcd : (y == ("__classdict__" : Str)) = false := by decide)
    (hg : Gl X "isinstance" := by rfl) (hgT : Gl X T := by rfl) (hdT : (T == ("__debug__" : Str)) = false := by decide)
    (hs : starEach [.Name y p1, .Name T p2] X.env = (false, eval (.Name y p1) X.env) :: starEach [.Name T p2] X.env := by rfl) (hs2 : starEach [.Name T p2] X.env = (false, eval (.Name T p2) X.env) :: starEach [] X.env := by rfl)
    (hpl : (backTo pos (starEach [.Name T p2] X.env)).any (·.1) = false := by rfl) : WE Z X (.Call (.Name "isinstance" p) [.Name y p1, .Name T p2] [] pos) env P :=
  we_of (pe_callB (call_isX C) hg hm rfl (pa_cons (pe_var (i := i) hN hv hd hcd) (pa_cons (pe_glob (v := .ref D) hgT hmT rfl hdT) pa_nil hs2) hs) (by decide) (by decide) hs hpl) fun σ H F O b o => by
    obtain ⟨hw, d, hF, xa⟩ := exc_at b o he
    exact ⟨_, hw, .ref D, .ref D, k, d, rfl, fun u r => r, hk, b.sub _ _ hF, xa.dict b.sub, post_val b o (.bl _) h⟩
/-- y.f, y an exception -/
theorem w_excF (i : Nat) {f : Str} {dv : D} (C : XfC X.K ex.C) (hno : PySem.W.findIn X.K (.ref ex.C) f = some none) (he : env[i]? = some (some (excT a ex))) (hf : ex.fs.lookup f = some dv) (h : P (.t (.va dv)) env)
    (hN : X.N[i]? = some y := by rfl) (hv : Vis X.env.scope y := by first | exact Or.inl rfl | exact Or.inr (Or.inl rfl) | exact Or.inr (Or.inr rfl)) (hd : (y == ("__debug__" : Str)) = false := by decide) (hcd : (y == ("__classdict__" : Str)) = false := by decide)
    (hb : attributeBase (.Name y p1) f X.env (eval (.Name y p1) X.env) = eval (.Name y p1) X.env := by rfl) : WE Z X (.Attribute (.Name y p1) f apos) env P := by
  intro pins s σ H F O I b o
  obtain ⟨hw, d, hF, xa⟩ := exc_at b o he
  refine attr_of hb (thn ((pe_var (pos := p1) (i := i) hN hv hd hcd).run pins s σ H (fun v H1 => v = .ref a ∧ H1 = H) I ⟨_, hw, rfl, rfl⟩) fun u s1 ⟨v, H1, I1, r1, q1⟩ => ?_)
  obtain ⟨ev, eH⟩ := q1
  subst ev
  rw [eH] at I1
  obtain rfl : u = Value.ref a := r1
  obtain ⟨_, h0 | ⟨dd, vfs, rfl, hdd, rf⟩⟩ := xa
  · rw [h0.2] at hf; cases hf
  obtain ⟨⟨oe, vs, hget, hz, hv2⟩, _, _⟩ := I1.hok a _ (b.sub _ _ hF)
  have hx : ObjOk X.prog X.w H s1.heap dd (.xd vfs) := I1.hok dd _ (b.sub _ _ hdd)
  obtain ⟨mA, hns, hr⟩ := hx
  obtain ⟨od, ho, hl⟩ := lookIn_ns hns
  have find : ∀ {vfs : List (Str × V)} {ds : List (Str × D)}, RpF F vfs ds → ds.lookup f = some dv → ∃ v, vfs.lookup f = some v ∧ Rp F v dv := fun {vfs ds} r => by
    induction r with
    | nil => intro z; cases z
    | @cons n v d vs ds h r ih =>
      intro z
      rw [List.lookup_cons] at z ⊢
      cases q : (f == n) with
      | true => rw [q] at z; cases z; exact ⟨v, rfl, h⟩
      | false => rw [q] at z; exact ih z
  obtain ⟨v, l, rv⟩ := find rf hf
  obtain ⟨u, hu, ru⟩ := RelO.some_of (v := v) (o := mA f) (by rw [← l]; exact hr f)
  have J : PySem.W.InstAt s1.heap a oe ex.C (some od) := ⟨hget, hz.1, by unfold PySem.W.notCls; rw [hv2] <;> rfl, by rw [hz.2]; exact ho⟩
  exact HandSPX.exc_get I1.kIn J C.ga C.gg C.exC (PySem.W.findObj_own C.hdC hno rfl (by rw [hl, hu])) (handed_of ru) ⟨v, H, I1.tok _, ru, post_val b o rv h⟩
theorem vals_refs : ∀ {Ds : List Addr} {its : List Value}, Vals (Ds.map V.ref) its → its = Ds.map Value.ref
  | [], _, .nil => rfl
  | _ :: _, _, .cons r rr => by
    have e := vals_refs rr
    subst e
    cases r
    rfl
def rIsXT (K : PySem.W.Frag) (D a : Addr) (Ds : List Addr) : List V → Hp → VK → Prop := fun xs H Q => ∃ (tp : Addr) (b : Bool) (d : Option Addr), xs = [.ref a, .ref tp] ∧ H tp = some (.tup (Ds.map V.ref)) ∧ PySem.W.kitAny K (.ref D) (Ds.map Value.ref) = some b ∧ H a = some (ExK (.ref D) d a) ∧ (d = none ∨ ∃ dd fs, d = some dd ∧ H dd = some (.xd fs)) ∧ Q (.bl b) H
theorem call_isXT {X : Cx} {a D : Addr} {Ds : List Addr} (C : ExcC X.K D) : CallR X (.builtin "isinstance") (rIsXT X.K D a Ds) := by
  intro pins s σ H xs us Q I r h
  obtain ⟨tp, b, d, rfl, ht, e, ha, hd, q⟩ := h
  cases r with
  | cons rx rr =>
    cases rr with
    | cons rt rr =>
      cases rr
      cases rx
      cases rt
      obtain ⟨ox, od, J⟩ := inst_of I ha hd
      obtain ⟨_, its, rv, o, ho, hc, n, hdt⟩ := I.hok tp _ ht
      have ei := vals_refs rv
      subst ei
      obtain ⟨oc, odd, oda, osl⟩ := o
      dsimp only at hc hdt
      subst hc hdt
      exact PySem.W.kia_tup (kitx_excO C) I.kIn J ho e (fun z => nomatch z) fun tk => ⟨.bl b, H, I.kept (t' := tk) fun _ _ z => z, rfl, q⟩
/-- isinstance(y, (A, B, ..)), y an exception -/
theorem w_isET (i : Nat) {es : List Expr} {kt : Nat} {Ds : List Addr} {k : Bool} (C : ExcC X.K ex.C) (he : env[i]? = some (some (excT a ex))) (hes : PA X es fun σ H Q => Q (Ds.map V.ref) H) (hl : Ds.length ≤ sizeLine) (hk : PySem.W.kitAny X.K (.ref ex.C) (Ds.map Value.ref) = some k) (h : P (.t (.va (.bool k))) env) (hm : X.mg "isinstance" = none)
    (hN : X.N[i]? = some y := by rfl) (hv : Vis X.env.scope y := by first | exact Or.inl rfl | exact Or.inr (Or.inl rfl) | exact Or.inr (Or.inr rfl)) (hd : (y == ("__debug__" : Str)) = false := by decide) (hcd : (y == ("__classdict__" : Str)) = false := by decide)
    (hg : Gl X "isinstance" := by rfl)
    (hs : starEach [.Name y p1, .Tuple es kt p2] X.env = (false, eval (.Name y p1) X.env) :: starEach [.Tuple es kt p2] X.env := by rfl) (hs2 : starEach [.Tuple es kt p2] X.env = (false, eval (.Tuple es kt p2) X.env) :: starEach [] X.env := by rfl)
    (hpl : (backTo pos (starEach [.Tuple es kt p2] X.env)).any (·.1) = false := by rfl) : WE Z X (.Call (.Name "isinstance" p) [.Name y p1, .Tuple es kt p2] [] pos) env P :=
  we_of (pe_callB (call_isXT (Ds := Ds) C) hg hm rfl (pa_cons (pe_var (i := i) hN hv hd hcd) (pa_cons (pe_tup hes) pa_nil hs2) hs) (by decide) (by decide) hs hpl) fun σ H F O b o => by
    obtain ⟨hw, d, hF, xa⟩ := exc_at b o he
    refine ⟨_, hw, by rw [List.length_map]; exact hl, fun tp hp => ?_⟩
    have sm : Same H (upd H tp (.tup (Ds.map V.ref))) := same_new hp
    obtain ⟨b2, o2, fr2⟩ := b.grow o (Same.refl _) sm (b.sub.trans sm) fun _ z => .inl z
    exact ⟨tp, k, d, rfl, upd_same, hk, b2.sub _ _ hF, xa.dict b2.sub, (post_val b2 o2 (.bl _) h).from fr2⟩
end
end QL

/-! QLd: raise C(v), C a class of one's own whose __init__ calls B.__init__(self, '..') and sets one field. -/
namespace QL
open PySem PySem.Spec PySem.Calls PyProof.Rows L2
section
variable {X : Cx} {e : Expr} {es : List Expr} {ta : TA} {p1 p2 pos : Pos}
theorem pe_ownInit {x : Str} {B : Addr} {mc : Value} {pl : Sem Bool} (hg : Gl X x) (hm : X.mg x = some (.ref B)) (r : ClX.CRead X.K B mc) (hk : PySem.W.findCls X.K (.ref B) mc "__init__" = some (.val (.builtin "ValueError.__init__"))) (ha : PA X (e :: es) ta)
    (hc : eval (.Call (.Attribute (.Name x p1) "__init__" p2) (e :: es) [] pos) X.env = (do
      let ov ← eval (.Name x p1) X.env
      standAt p2.atName
      let (f, first) ← holding [ov] (getMethod ov "__init__" pl)
      callWith pos f first (backTo pos (starEach (e :: es) X.env)) (backToKw pos (keywordEach [] X.env))) := by rfl)
    (hdb : (x == ("__debug__" : Str)) = false := by decide) (he : starEach (e :: es) X.env = (false, eval e X.env) :: starEach es X.env := by rfl) (hpl : (backTo pos (starEach es X.env)).any (·.1) = false := by rfl) :
    PE X (.Call (.Attribute (.Name x p1) "__init__" p2) (e :: es) [] pos) (tVeI X.K ta) := by
  refine ⟨fun pins s σ H Q I h => ?_⟩
  refine PySem.W.methodCall_KW (ld_glob I hg hm ?_ hdb) hc
  refine PySem.W.method_cls I.kIn r.ga (PySem.W.cls_value I.kIn r.rd hk rfl ?_)
  show wpAny _ _ (callWith pos (Value.builtin "ValueError.__init__") [] (backTo pos (starEach (e :: es) X.env)) []) _ _ _
  refine PyProof.Rows.callWith_method1 (thn (ha.run pos pins _ σ H _ (I.tok _) h) fun us s1 ⟨vs, H1, I1, r1, a, C, ws, ev, hl, T, ea, q⟩ => ?_) he hpl
  subst ev
  cases r1 with
  | @cons _ u0 _ ur ra rw' =>
    obtain rfl : u0 = Value.ref a := ra
    have hlen : ur.length ≤ sizeLine := by
      rw [← Paired.length rw', sizeLine_eq]
      omega
    exact oinit_ok T I1 ea hlen fun s' J => ⟨.non, H1, J, rfl, q⟩
end
/-- what such an __init__ does: one field, with the value that it got -/
def spX (K : PySem.W.Frag) (C : Addr) (f : Str) : Sp := fun vs H Q E => ∃ (a : Addr) (v : V), vs = [.ref a, v] ∧ OexC K C ∧ H a = some (exo a C none) ∧ ∀ dx, H dx = none → dx ≠ a → Q .non (upd (upd H dx (exd dx [(f, v)])) a (exo a C (some dx)))
section
variable {Tq : List (Addr × Str)} {Z : Zb Tq} {X : Cx} {env : Env} {PO : Out → Prop} {ET : Ex → Env → Prop} {e : Expr} {p pos pos' : Pos}
/-- raise C(e) -/
theorem ws_raise1 {CX : CXT} {x f : Str} {C fI : Addr} {k : Nat} {fd : FuncData} {ps : List Str} (T : OexC X.K C) (iC : PySem.W.findIn X.K (.ref C) "__init__" = some (some (.ref fI))) (tI : PySem.W.typeIn X.K (.ref fI) = some (.type "function"))
    (F1 : FnOk X.prog X.w X.K X.mg X.base CX k fI fd ps (spX X.K C f)) (hr : Room (k + 1) X.A) (hb : L2.Binds X.K fd ps []) (hx : Passes CX X (fun _ _ _ => False)) (hm : X.mg x = some (.ref C)) (hc : X.calm = true) (tk : Takes X (wxOf Z ET))
    (h : WAs Z X [e] env fun as e1 => ∃ dv, as = [.va dv] ∧ ET ⟨C, [(f, dv)]⟩ e1) (hg : Gl X x := by rfl) (hdb : (x == ("__debug__" : Str)) = false := by decide)
    (he : starEach [e] X.env = (false, eval e X.env) :: starEach [] X.env := by rfl) (hpl : (backTo pos (starEach [] X.env)).any (·.1) = false := by rfl) : WS Z X (.Raise (some (.Call (.Name x p) [e] [] pos)) none pos') env PO :=
  ws_of (ps_raise hc tk (pmk_oex (ds := []) (dvs := []) T iC tI F1 hr hb .nil hx hg hm (pa_As (Z := Z)) hdb he hpl)) fun σ H F O b o => by
    refine ⟨env, F, O, _, b, o, h, fun vs H1 ⟨F1, O1, as, e1, b1, o1, st, fr, dv, eas, q⟩ => ?_⟩
    subst eas
    cases st with
    | @cons v vs _ _ s1 s2 =>
    cases s2
    have rv : Rp F1 v dv := s1
    refine ⟨by simp, fun a na => ⟨a, v, rfl, T, upd_same, fun dx ndx ne => ⟨rfl, dx, [(f, v)], upd_same, by rw [upd_ne ne, upd_same], by rwa [upd_ne ne] at ndx, ?_⟩⟩⟩
    have nd : H1 dx = none := by rwa [upd_ne ne] at ndx
    have eH : upd (del (upd (upd (upd H1 a (exo a C none)) dx (exd dx [(f, v)])) a (exo a C (some dx))) a) dx (.xd [(f, v)]) = upd H1 dx (.xd [(f, v)]) := by
      funext c
      by_cases z : c = dx
      · subst z; rw [upd_same, upd_same]
      · rw [upd_ne z, upd_ne z]
        by_cases z2 : c = a
        · subst z2; rw [del_same, na]
        · rw [del_ne z2, upd_ne z2, upd_ne z, upd_ne z2]
    rw [eH]
    have sF : Same F1 (upd F1 dx (.xd [(f, v)])) := same_new (b1.sub.free nd)
    have sH : Same H1 (upd H1 dx (.xd [(f, v)])) := same_new nd
    have sub : Same (upd F1 dx (.xd [(f, v)])) (upd H1 dx (.xd [(f, v)])) := fun c y z => by
      by_cases z2 : c = dx
      · subst z2; rw [upd_same] at z ⊢; exact z
      · rw [upd_ne z2] at z ⊢; exact b1.sub c y z
    obtain ⟨b2, o2, _⟩ := b1.grow o1 sF sH sub fun c z => by
      by_cases z2 : c = dx
      · subst z2; exact .inr nd
      · rw [upd_ne z2] at z; exact .inl z
    exact ⟨_, O1, e1, ⟨C, [(f, dv)]⟩, b2, o2, ⟨rfl, .inr ⟨dx, [(f, v)], rfl, upd_same, .cons (rv.mono sF) .nil⟩⟩, q⟩
end
/-- what an __init__ without fields does -/
def spX0 (K : PySem.W.Frag) (C : Addr) : Sp := fun vs H Q E => ∃ (a : Addr), vs = [.ref a] ∧ OexC K C ∧ H a = some (exo a C none) ∧ Q .non H
end QL

/-! QLe: calls whose errors pass on; makers of lambdas; errors that a module makes. -/
namespace QL
open PySem PySem.Spec PySem.Calls PyProof.Rows L2
section
variable {Tq : List (Addr × Str)} {Z : Zb Tq} {X : Cx} {e : Expr} {es : List Expr} {env : Env} {pos p : Pos} {P : R → Env → Prop} {k : Nat} {x : Str} {ps ks : List Str} {ns : List Nat} {sp : Spc} {kws : List Keyword} {ET : Ex → Env → Prop}
theorem w_fnX (G : Df X.prog X.w X.K X.mg X.base Tq k x ps sp) (hr : Room k X.A) (hgd : X.A.guards = some []) (tk : Takes X (wxOf Z ET)) (h : WAs Z X (e :: es) env fun as e1 => callD sp as e1 (fun t e => P (.t t) e) ET)
    (hg : Gl X x := by rfl) (hdb : (x == ("__debug__" : Str)) = false := by decide) (he : starEach (e :: es) X.env = (false, eval e X.env) :: starEach es X.env := by rfl) (hpl : (backTo pos (starEach es X.env)).any (·.1) = false := by rfl) :
    WE Z X (.Call (.Name x p) (e :: es) [] pos) env P := by
  obtain ⟨f, fd, g, hm, hk, hb⟩ := G.ex
  refine w_call (dds := []) (vds := []) g hr hgd tk hm hk hb .nil (fun _ => .nil) ?_ hg hdb he hpl
  simpa only [vaAll, List.map_nil, List.append_nil] using h
end
/-! ### errors that a module makes -/
/-- an error class with one field f -/
structure Rz (P : Program) (w : World) (K : PySem.W.Frag) (mg : Str → Option Value) (base : Heap) (k : Nat) (x : Str) (C : Addr) (f : Str) : Prop where
  ex : ∃ (fI : Addr) (fd : FuncData) (ps : List Str), OexC K C ∧ PySem.W.findIn K (.ref C) "__init__" = some (some (.ref fI)) ∧ PySem.W.typeIn K (.ref fI) = some (.type "function") ∧ FnOk P w K mg base (L2.CX P w) k fI fd ps (spX K C f) ∧ L2.Binds K fd ps [] ∧ mg x = some (.ref C)
theorem Rz.mono {P : Program} {w : World} {K : PySem.W.Frag} {mg : Str → Option Value} {base : Heap} {j k : Nat} {x : Str} {C : Addr} {f : Str} (R : Rz P w K mg base j x C f) (h : j ≤ k) : Rz P w K mg base k x C f :=
  let ⟨fI, fd, ps, a, b, c, d, e⟩ := R.ex; ⟨fI, fd, ps, a, b, c, d.mono h, e⟩
/-- an error class without fields -/
structure Rz0 (P : Program) (w : World) (K : PySem.W.Frag) (mg : Str → Option Value) (base : Heap) (k : Nat) (x : Str) (C : Addr) : Prop where
  ex : ∃ (fI : Addr) (fd : FuncData) (ps : List Str), OexC K C ∧ PySem.W.findIn K (.ref C) "__init__" = some (some (.ref fI)) ∧ PySem.W.typeIn K (.ref fI) = some (.type "function") ∧ FnOk P w K mg base (L2.CX P w) k fI fd ps (spX0 K C) ∧ L2.Binds K fd ps [] ∧ mg x = some (.ref C)
theorem Rz0.mono {P : Program} {w : World} {K : PySem.W.Frag} {mg : Str → Option Value} {base : Heap} {j k : Nat} {x : Str} {C : Addr} (R : Rz0 P w K mg base j x C) (h : j ≤ k) : Rz0 P w K mg base k x C :=
  let ⟨fI, fd, ps, a, b, c, d, e⟩ := R.ex; ⟨fI, fd, ps, a, b, c, d.mono h, e⟩
section
variable {Tq : List (Addr × Str)} {Z : Zb Tq} {X : Cx} {env : Env} {PO : Out → Prop} {ET : Ex → Env → Prop} {e : Expr} {p pos pos' : Pos}
theorem ws_raiseR {x f : Str} {C : Addr} {k : Nat} (R : Rz X.prog X.w X.K X.mg X.base k x C f) (hr : Room (k + 1) X.A) (tk : Takes X (wxOf Z ET))
    (h : WAs Z X [e] env fun as e1 => ∃ dv, as = [.va dv] ∧ ET ⟨C, [(f, dv)]⟩ e1) (hc : X.calm = true := by rfl) (hg : Gl X x := by rfl) (hdb : (x == ("__debug__" : Str)) = false := by decide)
    (he : starEach [e] X.env = (false, eval e X.env) :: starEach [] X.env := by rfl) (hpl : (backTo pos (starEach [] X.env)).any (·.1) = false := by rfl) : WS Z X (.Raise (some (.Call (.Name x p) [e] [] pos)) none pos') env PO := by
  obtain ⟨fI, fd, ps, T, iC, tI, F1, hb, hm⟩ := R.ex
  exact ws_raise1 T iC tI F1 hr hb (L2.passes_call (W := wxOf Z fun _ _ => False) takes_no fun _ _ _ _ z => z.elim) hm hc tk h hg hdb he hpl
end
/-- what is asked of an error's class by a suite that looks at it -/
def erB (K : PySem.W.Frag) (C : Addr) : Bool := decide (PySem.W.findIn K (.ref C) "__getattribute__" = some (some (.builtin "BaseException.__getattribute__"))) && decide (PySem.W.findIn K (.ref C) "__getattr__" = some none) && decide (PySem.W.subIn K (.ref C) (.type "BaseException") = some true) &&
  PySem.W.hasDictIn K C && decide (PySem.W.findIn K (.ref C) "__class__" = some (some (.builtin "object.__class__"))) && decide (PySem.W.specialIn K (.builtin "object.__class__") "__get__" = some (some (.builtin "getset_descriptor.__get__"))) && decide (PySem.W.takesIn K (.builtin "object.__class__") = some true) && decide (PySem.W.mroIn K C (.type "object") = some true)
theorem erB_ok {K : PySem.W.Frag} {C : Addr} (h : erB K C = true) : ExcC K C ∧ XfC K C := by
  unfold erB at h
  simp only [Bool.and_eq_true, decide_eq_true_eq] at h
  obtain ⟨⟨⟨⟨⟨⟨⟨h1, h2⟩, h3⟩, h4⟩, h5⟩, h6⟩, h7⟩, h8⟩ := h
  exact ⟨⟨h1, h2, h3, h4, h5, h6, h7, h8⟩, ⟨h1, h2, h3, h4⟩⟩
section
variable {Tq : List (Addr × Str)} {Z : Zb Tq} {X : Cx} {env : Env} {P : R → Env → Prop} {pos p p1 p2 apos : Pos} {y : Str} {a : Addr} {ex : Ex}
/-- y is None as a test, y an exception -/
theorem wt_excIsN {PT : Bool → Env → Prop} (i : Nat) {kc : Nat} (he : env[i]? = some (some (excT a ex))) (h : PT false env)
    (hN : X.N[i]? = some y := by rfl) (hv : Vis X.env.scope y := by first | exact Or.inl rfl | exact Or.inr (Or.inl rfl) | exact Or.inr (Or.inr rfl)) (hd : (y == ("__debug__" : Str)) = false := by decide) (hcd : (y == ("__classdict__" : Str)) = false := by decide)
    (hm : behindInMarks .Is (.Constant .none kc p2) = false := by first | exact nomark _ | rfl) : WT Z X (.Compare (.Name y p1) [.Is] [.Constant .none kc p2] pos) env PT :=
  wt_of (pt_cmpR op_isN (pe_var (i := i) hN hv hd hcd) pe_non hm) fun σ H F O b o => by
    obtain ⟨hw, d, hF, xa⟩ := exc_at b o he
    exact ⟨_, hw, rfl, false, rfl, F, O, env, b, o, Frm.refl _ _ _, h⟩
/-- isinstance(y, T), y an exception, T a class that is built in -/
theorem w_isEB (i : Nat) {T : Str} {t : String} {k : Bool} (C : ExcC X.K ex.C) (he : env[i]? = some (some (excT a ex))) (hk : PySem.W.kitOne X.K (.ref ex.C) (.type t) = some k) (h : P (.t (.va (.bool k))) env) (hm : X.mg "isinstance" = none) (hmT : X.mg T = none) (hvT : bootBuiltins T = some (.type t))
    (hN : X.N[i]? = some y := by rfl) (hv : Vis X.env.scope y := by first | exact Or.inl rfl | exact Or.inr (Or.inl rfl) | exact Or.inr (Or.inr rfl)) (hd : (y == ("__debug__" : Str)) = false := by decide) (hcd : (y == ("__classdict__" : Str)) = false := by decide)
    (hg : Gl X "isinstance" := by rfl) (hgT : Gl X T := by rfl) (hn : T ≠ "__name__" := by decide) (hdT : (T == ("__debug__" : Str)) = false := by decide)
    (hs : starEach [.Name y p1, .Name T p2] X.env = (false, eval (.Name y p1) X.env) :: starEach [.Name T p2] X.env := by rfl) (hs2 : starEach [.Name T p2] X.env = (false, eval (.Name T p2) X.env) :: starEach [] X.env := by rfl)
    (hpl : (backTo pos (starEach [.Name T p2] X.env)).any (·.1) = false := by rfl) : WE Z X (.Call (.Name "isinstance" p) [.Name y p1, .Name T p2] [] pos) env P :=
  we_of (pe_callB (call_isX C) hg hm rfl (pa_cons (pe_var (i := i) hN hv hd hcd) (pa_cons (pe_bltn (v := .ty t) hgT hmT hvT rfl hn hdT) pa_nil hs2) hs) (by decide) (by decide) hs hpl) fun σ H F O b o => by
    obtain ⟨hw, d, hF, xa⟩ := exc_at b o he
    exact ⟨_, hw, .ty t, .type t, k, d, rfl, fun u r => r, hk, b.sub _ _ hF, xa.dict b.sub, post_val b o (.bl _) h⟩
end
/-! ### makers of lambdas -/
theorem fn_gC {P : Program} {w : World} {K : PySem.W.Frag} {mg : Str → Option Value} {base : Heap} {Tq : List (Addr × Str)} {x qual : Str} {st : Stmt} {f c : Addr} {fd : FuncData} {N ps : List Str} {k : Nat} {sp : Spc} (Fn : Fun K x qual st f fd) (hc : fd.code = .ref c) (S : FnScope N ps (defScope st)) (len : ∀ ts Q E, sp ts Q E → ts.length = ps.length)
    (hbody : ∀ (A : Around) (outer : List PySem.Env) (s : Shared) (H : Hp) (E : XK) (Z : Zb Tq) (ts : List T) (QT : T → List (Option T) → Prop) (ET : Ex → List (Option T) → Prop), Room k (BX P w K mg base N qual st f (.ref c) A outer s H E).A → (BX P w K mg base N qual st f (.ref c) A outer s H E).A.guards = some [] →
      PassesOwn (model P w) (BX P w K mg base N qual st f (.ref c) A outer s H E).A (BX P w K mg base N qual st f (.ref c) A outer s H E).env (BX P w K mg base N qual st f (.ref c) A outer s H E).xe →
      Takes (BX P w K mg base N qual st f (.ref c) A outer s H E) (wxOf Z fun ex e => back ts e (ET ex)) → sp ts QT ET → WSs Z (BX P w K mg base N qual st f (.ref c) A outer s H E) (defBody st) (startE N ts) (finP QT ts)) : FnG P w K mg base Tq (k + 1) f fd ps sp := by
  obtain ⟨oc, od, kV, doc, pm, an, cdv, ct, osl, rfl, lk, hcd⟩ := Fn.ex
  obtain rfl : cdv = .ref c := hc
  refine ⟨len, fun A outer s H args us vs F O ts QT ET E tbs hr hg e0 hb r b sv hsp hE => ?_⟩
  have hl : vs.length = ps.length := sv.len.trans (len _ _ _ hsp)
  refine Att.call_fn (e0.mod.kin.keeps fun b o e => (e0.bs b o e).1) (e0.mod.nolimit.keeps fun b o e => (e0.bs b o e).1) lk hcd hr.depth hb ?_ (fun s1 ic => ?_) S.co S.gen S.kind
  · refine List.all_eq_true.mpr fun y hy => ?_
    rcases S.par y.1 (List.of_mem_zip hy).1 with q | q <;> rw [q] <;> rfl
  · have I : Inv (BX P w K mg base N qual st f (.ref c) A outer s H E) [] (L2.start N vs) H s1 := inv_start S hr.hd e0 hl r ic
    have tk : Takes (BX P w K mg base N qual st f (.ref c) A outer s H E) (wxOf ⟨H, F, O, tbs⟩ fun ex e => back ts e (ET ex)) := by
      refine (takes_of (X := BX P w K mg base N qual st f (.ref c) A outer s H E) (E := E) rfl rfl rfl rfl).imp fun cls d σ H' ⟨F', O', env, ex, b', o', xa, q⟩ => ?_
      obtain ⟨O1, Od, ts', p1, s1, q⟩ := back_ok sv o' q
      exact hE ex _ cls d H' F' O1 (b'.perm p1).left s1 xa q
    have hgd : (BX P w K mg base N qual st f (.ref c) A outer s H E).A.guards = some [] := hg
    have body := hbody A outer s H E ⟨H, F, O, tbs⟩ ts QT ET (hr.deeper _) hgd (passes_of (X := BX P w K mg base N qual st f (.ref c) A outer s H E) rfl) tk hsp
    have o0 : OwE F H O (L2.start N vs) (startE N ts) := by
      unfold L2.start startE
      rw [sv.len]
      exact sv.start (N := N) _
    refine wpAny_mono (body [] s1 (L2.start N vs) H F O I b o0) (fun fl s' hs => ?_) fun e s' hs => hs
    have fin : ∀ {σ' : L2.St} {H' F' : Hp} {O1 O2 : List Addr} {t : T} {e : Env} {v : V} {u : Value}, Inv (BX P w K mg base N qual st f (.ref c) A outer s H E) [] σ' H' s' → RelV v u → Bas ⟨H, F, O, tbs⟩ F' H' (O1 ++ O2) → (∃ σ'', OwE F' H' O1 σ'' e) → Ow F' H' O2 v t → back ts e (QT t) →
        CE outer P w H s (fun v H' => ∃ F' O1 O2 t ts', Bas ⟨H, F, O, tbs⟩ F' H' (O1 ++ O2) ∧ StVO F' H' O1 vs ts' ∧ Ow F' H' O2 v t ∧ QT t ts') u s' := fun {σ' H' F' O1 O2 t e v u} J rv b' ⟨σ'', o'⟩ w' q => by
      obtain ⟨O3, Od, ts', p3, s3, q⟩ := back_ok sv o' q
      refine ⟨v, H', J.os, J.bare, J.base, J.hok, rv, F', O3, O2, t, _, ?_, s3, w', q⟩
      have p4 : (O1 ++ O2).Perm ((O3 ++ O2) ++ Od) := (p3.append_right O2).trans (by
        rw [List.append_assoc, List.append_assoc]
        exact List.perm_append_comm.append_left O3)
      exact (b'.perm p4).left
    cases fl with
    | ret u =>
      obtain ⟨v, σ', H', J, rv, F', O1, O2, σ'', t, e, b', o', w', _, q⟩ := hs
      exact fin J rv b' ⟨σ'', o'⟩ w' q
    | next =>
      obtain ⟨σ', H', J, F', O1, e, b', o', _, q⟩ := hs
      exact fin (v := V.non) (u := Value.none) (t := .va .none) (O2 := []) J rfl (by rw [List.append_nil]; exact b') ⟨_, o'⟩ (.va .non) q
    | brk =>
      obtain ⟨_, _, _, _, _, _, _, _, _, q⟩ := hs
      exact q.elim
    | cont =>
      obtain ⟨_, _, _, _, _, _, _, _, _, q⟩ := hs
      exact q.elim
/-- a def with defaults -/
structure FunV (K : PySem.W.Frag) (x qual : Str) (st : Stmt) (f : Addr) (fd : FuncData) : Prop where
  ex : ∃ (oc : Value) (od : Option Addr) (dV kV doc pm : Value) (an : Option Addr) (cdv ct : Value) (osl : Array (Option Value)),
    fd = PySem.W.fnOf x qual (defArgs st) (defBody st) (defScope st) dV kV doc pm an cdv ct ∧ K.lookup f = some ⟨oc, od, .func fd, osl⟩ ∧ PySem.W.codeIn K cdv qual = true
theorem GvL.mono {P : Program} {w : World} {K : PySem.W.Frag} {mg : Str → Option Value} {base : Heap} {Tq : List (Addr × Str)} {j k : Nat} {x a : Str} {tg : Tg} (G : GvL P w K mg base Tq j x a tg) (h : j ≤ k) : GvL P w K mg base Tq k x a tg := by
  obtain ⟨Ng, st, g, fd, Fn, hm, hk, hb, Sg, hNg, hva, hG⟩ := G.ex
  exact ⟨Ng, st, g, fd, Fn, hm, hk, hb, Sg, hNg, hva, fun cdg A outer s H Z lam LB e0 QT hr => hG cdg A outer s H Z lam LB e0 QT (hr.mono h)⟩
/-- the name of the lambdas that the def x makes -/
abbrev lamQ (x : Str) : Str := (x ++ ".<locals>.") ++ "<lambda>"
/-! ### a lambda whose maker's names are env -/
/-- what is promised at env alone -/
abbrev LBa (env : Env) (R : (T → Env → Prop) → (Ex → Env → Prop) → Prop) : LamB := fun e Q E => e = env ∧ R Q E
end QL

/-! QHd: a law's head by one kernel run; what the end leans on is read off the heap by a Hook of one's own. -/
namespace QL
open PySem PySem.Spec PyProof.Rows L2

/-- one def: where it stands, its names, its text, whether it has one default -/
structure FnQ where
  at_ : PySem.W.Frag → Addr
  name : Str
  qual : Str
  st : Stmt
  dfl : Bool
def FnQ.val (d : FnQ) : He.FnW := some (d.name, d.qual, defArgs d.st, .stmts (defBody d.st), defScope d.st, mainGlobals, [], builtinsNs)
def fnAt (K : PySem.W.Frag) (a : Addr) : He.FnW := match K.lookup a with
  | some ⟨_, _, .func fd, _⟩ => some (fd.name, fd.qualname, fd.params, fd.body, fd.scope, fd.globals, fd.closure, fd.builtins)
  | _ => none
def dflQ (K : PySem.W.Frag) (b : Bool) (v : Value) : Bool := match v with
  | .none => !b
  | .ref T => b && (match K.lookup T with
    | some ⟨_, _, .seq its _, _⟩ => decide (its.size = 1)
    | _ => false)
  | _ => false
def FnQ.ok (K : PySem.W.Frag) (d : FnQ) : Bool := match K.lookup (d.at_ K) with
  | some ⟨_, _, .func fd, _⟩ => PySem.W.codeIn K fd.code d.qual && dflQ K d.dfl fd.defaults
  | _ => false
theorem FnQ.get {K : PySem.W.Frag} {d : FnQ} (e : fnAt K (d.at_ K) = d.val) (c : d.ok K = true) :
    ∃ oc od dV kV doc pm an cd ct sl, K.lookup (d.at_ K) = some ⟨oc, od, .func (PySem.W.fnOf d.name d.qual (defArgs d.st) (defBody d.st) (defScope d.st) dV kV doc pm an cd ct), sl⟩ ∧ PySem.W.codeIn K cd d.qual = true ∧ dflQ K d.dfl dV = true := by
  unfold FnQ.ok at c
  unfold fnAt at e
  cases q : K.lookup (d.at_ K) with
  | none => rw [q] at c; cases c
  | some o =>
    obtain ⟨oc, od, dt, osl⟩ := o
    rw [q] at c e
    cases dt with
    | func fd =>
      obtain ⟨n1, n2, n3, n4, n5, n6, n7, n8, n9, n10, n11, n12, n13, n14, n15⟩ := fd
      have e2 : (some (n1, n2, n3, n4, n5, n6, n7, n15) : He.FnW) = some (d.name, d.qual, defArgs d.st, .stmts (defBody d.st), defScope d.st, mainGlobals, [], builtinsNs) := e
      simp only [Option.some.injEq, Prod.mk.injEq] at e2
      obtain ⟨h1, h2, h3, h4, h5, h6, h7, h8⟩ := e2
      subst h1 h2 h3 h4 h5 h6 h7 h8
      have c3 : (PySem.W.codeIn K n13 d.qual && dflQ K d.dfl n8) = true := c
      obtain ⟨k1, k2⟩ := He.ba c3
      exact ⟨oc, od, n8, n9, n10, n11, n12, n13, n14, osl, rfl, k1, k2⟩
    | _ => cases c
theorem FnQ.get0 {K : PySem.W.Frag} {d : FnQ} (e : fnAt K (d.at_ K) = d.val) (c : d.ok K = true) (hd : d.dfl = false) :
    ∃ oc od kV doc pm an cd ct sl, K.lookup (d.at_ K) = some ⟨oc, od, .func (PySem.W.fnOf d.name d.qual (defArgs d.st) (defBody d.st) (defScope d.st) .none kV doc pm an cd ct), sl⟩ ∧ PySem.W.codeIn K cd d.qual = true := by
  obtain ⟨oc, od, dV, kV, doc, pm, an, cd, ct, sl, h1, h2, h3⟩ := FnQ.get e c
  rw [hd] at h3
  cases dV with
  | none => exact ⟨oc, od, kV, doc, pm, an, cd, ct, sl, h1, h2⟩
  | _ => cases h3
/-- the code object of the function at a -/
def cdAt (K : PySem.W.Frag) (a : Addr) : Addr := match K.lookup a with
  | some ⟨_, _, .func fd, _⟩ => (match fd.code with
    | .ref c => c
    | _ => 0)
  | _ => 0
theorem cdAt_eq {K : PySem.W.Frag} {a : Addr} {oc : Value} {od : Option Addr} {fd : FuncData} {sl : Array (Option Value)} {c : Addr} (l : K.lookup a = some ⟨oc, od, .func fd, sl⟩) (e : fd.code = .ref c) : cdAt K a = c := by
  unfold cdAt
  rw [l]
  show (match fd.code with | .ref c => c | _ => 0) = c
  rw [e]
theorem codeHd_parts {K : PySem.W.Frag} {c P : Addr} (h : PySem.W.codeHdIn K c P = true) : ∃ go gd gv gs, K.lookup c = some ⟨go, gd, .fields gv, gs⟩ ∧ (gv[11]? : Option Value) = some (.ref P) := by
  unfold PySem.W.codeHdIn at h
  split at h
  · rename_i vs _ hk
    refine ⟨_, _, _, _, hk, ?_⟩
    simp only [Bool.and_eq_true] at h
    have h1 : (match (vs[11]? : Option Value) with
      | some (.ref P') => P' == P
      | _ => false) = true := by first | exact h.1 | exact h.1.1 | exact h.1.1.1 | exact h.1.1.1.1 | exact h.1.1.1.1.1 | exact h.1.1.1.1.1.1
    split at h1
    · rename_i P' e
      rw [e, beq_iff_eq.mp h1]
    · cases h1
  · cases h
/-- an own exception over ValueError -/
def excQ (K : PySem.W.Frag) (C : Addr) : Bool := match K.lookup C with
  | some ⟨.type "type", _, .cls cd, sl⟩ => (match cd.mro, sl.toList with
    | .ref C' :: bm, [_, _, _, _, some (.builtin n), _] => C' == C && n == "ValueError.__new__" && !cd.hasDel && cd.hasDict && PySem.HandSPX.refsVE bm
    | _, _ => false)
  | _ => false
theorem excQ_of {K : PySem.W.Frag} {C : Addr} (q : excQ K C = true) : ∃ nm qn N bs bm sn sub ab col dd k0 k1 k2 k3 k5,
    K.lookup C = some (excClassObj nm qn C N bs bm true sn sub ab col dd k0 k1 k2 k3 k5 "ValueError.__new__") ∧ PySem.HandSPX.refsVE bm = true := by
  unfold excQ at q
  split at q
  · rename_i dd cd sl ho
    split at q
    · rename_i C' bm k0 k1 k2 k3 n k5 hm hs
      simp only [Bool.and_eq_true, beq_iff_eq, Bool.not_eq_true'] at q
      obtain ⟨⟨⟨⟨rfl, rfl⟩, hdel⟩, hd9⟩, ht⟩ := q
      obtain ⟨nm, bs, mro, ns, qn, hd, sn, sub, ab, col, del⟩ := cd
      dsimp only at hm hdel hd9
      subst hm hdel hd9
      have hsl : sl = #[k0, k1, k2, k3, some (.builtin "ValueError.__new__"), k5] := by
        obtain ⟨l⟩ := sl
        simp only at hs
        rw [hs]
      subst hsl
      exact ⟨nm, qn, ns, bs, bm, sn, sub, ab, col, dd, k0, k1, k2, k3, k5, ho, ht⟩
    · cases q
  · cases q
theorem intQ {K : PySem.W.Frag} {x : Str} {i : Int} (c : (He.Fa.int x i).ok K = true) : ∃ t, PySem.W.nsIn K mainGlobals x = some (some (.int i t)) := by
  have c2 : (match PySem.W.nsIn K mainGlobals x with
    | some (some (.int j _)) => decide (j = i)
    | _ => false) = true := c
  split at c2
  · rename_i j t e
    rw [of_decide_eq_true c2] at e
    exact ⟨t, e⟩
  · cases c2
theorem strQ {K : PySem.W.Frag} {x z : Str} (c : (He.Fa.str x z).ok K = true) : ∃ t, PySem.W.nsIn K mainGlobals x = some (some (.str z t)) := by
  have c2 : (match PySem.W.nsIn K mainGlobals x with
    | some (some (.str y _)) => decide (y = z)
    | _ => false) = true := c
  split at c2
  · rename_i j t e
    rw [of_decide_eq_true c2] at e
    exact ⟨t, e⟩
  · cases c2
theorem exF {xs : List (PySem.W.Frag → Bool)} {K : PySem.W.Frag} (h : xs.all (fun f => f K) = true) (j : Nat) {f : PySem.W.Frag → Bool} (e : xs[j]? = some f) : f K = true := List.all_eq_true.mp h f (List.mem_of_getElem? e)

def cvB (r : Option PySem.W.CFound) (b : String) : Bool := match r with
  | some (.val (.builtin n)) => n == b
  | _ => false
theorem cvB_ok {r : Option PySem.W.CFound} {b : String} (h : cvB r b = true) : r = some (.val (.builtin b)) := by
  unfold cvB at h
  split at h
  · rw [beq_iff_eq.mp h]
  · cases h
/-! ### the Hook -/
/-- all that stands behind the top, the youngest first -/
def KQ (n : Nat) (g : Addr → Option Obj) : PySem.W.Frag := He.frT g (List.range n).reverse
def tabsQ (g : Addr → Option Obj) (mk : List (PySem.W.Frag → Addr)) (K : PySem.W.Frag) : Bool := mk.all fun m => PySem.W.codeHdIn K (cdAt K (m K)) (He.tabOf K (cdAt K (m K))) && (match g (He.tabOf K (cdAt K (m K))) with
  | some o => He.emptyTab o
  | none => false)
abbrev AlQ : Type := Bool × List He.FnW
def obsK (fn : List FnQ) (xs : List (PySem.W.Frag → Bool)) (mk : List (PySem.W.Frag → Addr)) (g : Addr → Option Obj) (K : PySem.W.Frag) : AlQ :=
  ((fn.all fun d => d.ok K) && (xs.all (fun f => f K) && tabsQ g mk K), fn.map fun d => fnAt K (d.at_ K))
def valQ (fn : List FnQ) : AlQ := (true, fn.map FnQ.val)
structure SaysQ (fn : List FnQ) (xs : List (PySem.W.Frag → Bool)) (mk : List (PySem.W.Frag → Addr)) (h : Heap) (K : PySem.W.Frag) : Prop where
  fns : ∀ (i : Nat) (d : FnQ), fn[i]? = some d → fnAt K (d.at_ K) = d.val ∧ d.ok K = true
  xs : xs.all (fun f => f K) = true
  hd : ∀ m ∈ mk, PySem.W.codeHdIn K (cdAt K (m K)) (He.tabOf K (cdAt K (m K))) = true
  out : ∀ m ∈ mk, K.lookup (He.tabOf K (cdAt K (m K))) = none
  empty : ∀ m ∈ mk, h.get? (He.tabOf K (cdAt K (m K))) = some { cls := .none, data := .fields #[] }
theorem saysQ_of {fn : List FnQ} {xs : List (PySem.W.Frag → Bool)} {mk : List (PySem.W.Frag → Addr)} {h : Heap} {n : Nat} (e : obsK fn xs mk h.get? (KQ n h.get?) = valQ fn) : SaysQ fn xs mk h (KQ n h.get?) := by
  have e1 : ((fn.all fun d => d.ok (KQ n h.get?)) && (xs.all (fun f => f (KQ n h.get?)) && tabsQ h.get? mk (KQ n h.get?))) = true := congrArg (fun z : AlQ => z.1) e
  have e2 : (fn.map fun d => fnAt (KQ n h.get?) (d.at_ (KQ n h.get?))) = fn.map FnQ.val := congrArg (fun z : AlQ => z.2) e
  obtain ⟨h1, h2⟩ := He.ba e1
  obtain ⟨h2, h3⟩ := He.ba h2
  have key : ∀ m ∈ mk, PySem.W.codeHdIn (KQ n h.get?) (cdAt (KQ n h.get?) (m (KQ n h.get?))) (He.tabOf (KQ n h.get?) (cdAt (KQ n h.get?) (m (KQ n h.get?)))) = true ∧ ∃ o, h.get? (He.tabOf (KQ n h.get?) (cdAt (KQ n h.get?) (m (KQ n h.get?)))) = some o ∧ He.emptyTab o = true := fun m hm => by
    obtain ⟨h4, h5⟩ := He.ba (List.all_eq_true.mp h3 m hm)
    refine ⟨h4, ?_⟩
    cases q : h.get? (He.tabOf (KQ n h.get?) (cdAt (KQ n h.get?) (m (KQ n h.get?)))) with
    | none => rw [q] at h5; cases h5
    | some o => rw [q] at h5; exact ⟨o, rfl, h5⟩
  refine ⟨fun i d hd => ⟨?_, List.all_eq_true.mp h1 d (List.mem_of_getElem? hd)⟩, h2, fun m hm => (key m hm).1, fun m hm => ?_, fun m hm => ?_⟩
  · have e3 : (fn.map fun d => fnAt (KQ n h.get?) (d.at_ (KQ n h.get?)))[i]? = (fn.map FnQ.val)[i]? := by rw [e2]
    rw [List.getElem?_map, List.getElem?_map, hd] at e3
    exact Option.some.inj e3
  · obtain ⟨_, o, q, z⟩ := key m hm
    exact He.frT_none q z
  · obtain ⟨_, o, q, z⟩ := key m hm
    rw [q, He.emptyTab_eq z]
def hookQ (fn : List FnQ) (xs : List (PySem.W.Frag → Bool)) (mk : List (PySem.W.Frag → Addr)) : PySem.W.Hook where
  α := AlQ
  obs := fun s => obsK fn xs mk s.heap.get? (KQ s.heap.objs.size s.heap.get?)
  val := fun _ => valQ fn
  says := fun _ h => ∃ K : PySem.W.Frag, K.In h ∧ SaysQ fn xs mk h K
  of := fun _ _ e => ⟨_, He.frT_in, saysQ_of e⟩
  keeps := fun _ _ _ ⟨K, hK, c⟩ k => ⟨K, PySem.W.Frag.In.keeps hK k, ⟨c.fns, c.xs, c.hd, c.out, fun m hm => k _ _ (c.empty m hm)⟩⟩
/-- for head_any: off the tree -/
def obQ (fn : List FnQ) (xs : List (PySem.W.Frag → Bool)) (mk : List (PySem.W.Frag → Addr)) (s : PySem.W.SharedT) : AlQ := obsK fn xs mk (HandSHeadRun.getT s) (KQ s.n (HandSHeadRun.getT s))
theorem obQ_eq (fn : List FnQ) (xs : List (PySem.W.Frag → Bool)) (mk : List (PySem.W.Frag → Addr)) (s : PySem.W.SharedT) : obQ fn xs mk s = (hookQ fn xs mk).obs s.abs := by
  have e : HandSHeadRun.getT s = s.abs.heap.get? := funext (HandSHeadRun.getT_eq s)
  show obsK fn xs mk (HandSHeadRun.getT s) (KQ s.n (HandSHeadRun.getT s)) = obsK fn xs mk s.abs.heap.get? (KQ s.abs.heap.objs.size s.abs.heap.get?)
  rw [e, show s.abs.heap.objs.size = s.n from PySem.W.absHeap_size ..]
/-- the tables of the defs that make lambdas -/
theorem SaysQ.cs {fn : List FnQ} {xs : List (PySem.W.Frag → Bool)} {mk : List (PySem.W.Frag → Addr)} {h : Heap} {K : PySem.W.Frag} (KX : K.In h) (c : SaysQ fn xs mk h K) (ms : List ((PySem.W.Frag → Addr) × Str)) (hm : ∀ m ∈ ms, m.1 ∈ mk) (hq : ∀ m ∈ ms, m.2 ≠ "()" := by intro m hm; first | (cases hm; done) | (simp only [List.mem_cons, List.not_mem_nil, or_false] at hm; rcases hm with rfl | rfl | rfl | rfl | rfl | rfl | rfl | rfl <;> exact lam_ne _) | (simp only [List.mem_cons, List.not_mem_nil, or_false] at hm; rcases hm with rfl | rfl | rfl <;> exact lam_ne _) | (simp only [List.mem_cons, List.not_mem_nil, or_false] at hm; rcases hm with rfl | rfl <;> exact lam_ne _) | (simp only [List.mem_cons, List.not_mem_nil, or_false] at hm; subst hm; exact lam_ne _)) :
    CsAt K h (ms.map fun m => (cdAt K (m.1 K), He.tabOf K (cdAt K (m.1 K)), m.2)) := by
  refine ⟨fun p hp => ?_, fun p hp => ?_, fun p hp => ?_, fun p hp => ?_⟩ <;> (obtain ⟨m, hm1, rfl⟩ := List.mem_map.mp hp)
  · exact c.empty _ (hm m hm1)
  · exact c.out _ (hm m hm1)
  · exact PySem.W.codeHd_of_K KX (c.hd _ (hm m hm1))
  · exact hq m hm1
/-- the goal that head_any leaves -/
theorem walk_gE {l : PySem.W.OpenLaw} {n k : Nat} {q : Program} {loose : List Str} {XP : (Str → Option Value) → Heap → Prop} {YP : World → Heap → Prop} {d : DefRec} {sp : PySem.W.Frag → Spc} {x : Str}
    (hn : l.most = some n) (hn2 : n ≤ sizeLine) (hdf : d.params.defaults = []) (hr : Room k callerA)
    (F : ∀ (w : World) (mg : Str → Option Value) (fa : Addr) (h : Heap), YP w h → h.Ns mainGlobals mg → mg d.name = some (.ref fa) →
      ∃ (K : PySem.W.Frag) (cs : Cs) (fd : FuncData), K.In h ∧ CsAt K h cs ∧ (∀ (s : Shared) (u : Value), BindsTo s fd ⟨[u], []⟩ [(x, u)]) ∧ ∀ base : Heap, K.In base → base.Ns mainGlobals mg → (∀ p ∈ cs, LamX.TabB base mg p.1 p.2.1) → FnG l.prog w K mg base cs.tq k fa fd [x] (sp K))
    (hsp : ∀ (K : PySem.W.Frag) (a : Addr) (ns : List Int), ns.length ≤ n → sp K [scT K a ns] (fun t _ => t = .va (.bool true)) fun _ _ => False) :
    PySem.W.WalkO q loose XP YP l.row.toRowW d [] (fun f vs => PySem.call f vs) :=
  Att.attach_call hn hdf fun w s₀ s₁ mg mb fa o pm cd doc a vs ns G Y ho hd hcd hmg hobj hints hlen hg => by
    obtain ⟨K, cs, fd, KX, c, hb, hF⟩ := F w mg fa _ Y G.T.g hmg
    exact law_goes KX G.T.g G.T.b G.T.builtins G.T.nolimit hg c.hT c.nT c.C G.T.bmain hobj hints (Nat.le_trans hlen hn2) hr hF hb (hsp K a ns hlen) c.nq
end QL

/-! LM: mathematics of layouts: sums, lines, layouts, least costs, the table. -/
namespace LM
open PySem
def sumsF (a : Int) : List Int → List Int
  | [] => [a]
  | w :: r => a :: sumsF (a + w + 1) r
theorem sumsF_len : ∀ (a : Int) (ws : List Int), (sumsF a ws).length = ws.length + 1
  | _, [] => rfl
  | a, w :: r => congrArg (· + 1) (sumsF_len (a + w + 1) r)
theorem sumsF_snoc : ∀ (a : Int) (ws : List Int) (w : Int), ∃ z, (sumsF a ws).getLast? = some z ∧ sumsF a (ws ++ [w]) = sumsF a ws ++ [z + w + 1]
  | a, [], w => ⟨a, rfl, rfl⟩
  | a, x :: r, w => by
    obtain ⟨z, h1, h2⟩ := sumsF_snoc (a + x + 1) r w
    refine ⟨z, ?_, ?_⟩
    · show (a :: sumsF (a + x + 1) r).getLast? = some z
      rw [List.getLast?_cons, h1]
      rfl
    · show a :: sumsF (a + x + 1) (r ++ [w]) = _
      rw [h2]
      rfl
theorem sumsF_get : ∀ (ws : List Int) (a : Int) (j : Nat), j ≤ ws.length → (sumsF a ws).getD j 0 = a + (ws.take j).sum + j
  | [], a, j, h => by
    have : j = 0 := Nat.le_zero.mp h
    subst this
    simp [sumsF]
  | w :: r, a, 0, _ => by simp [sumsF]
  | w :: r, a, j + 1, h => by
    have ih := sumsF_get r (a + w + 1) j (Nat.le_of_succ_le_succ h)
    show (sumsF (a + w + 1) r).getD j 0 = _
    rw [ih, List.take_succ_cons, List.sum_cons]
    omega
theorem atI_getD {xs : List Int} {i : Nat} (h : i < xs.length) : L2.atI xs (i : Int) = some (xs.getD i 0) := by
  refine L2.atI_nat ?_
  rw [List.getD_eq_getElem?_getD, List.getElem?_eq_getElem h]
  rfl
/-- words of a width -/
structure Wd (wd : Int) (ws : List Int) : Prop where
  w1 : 1 ≤ wd
  w2 : wd ≤ 1000000000
  len : ws.length ≤ 1000
  wrd : ∀ x ∈ ws, 1 ≤ x ∧ x ≤ wd
def sm (ws : List Int) (j : Nat) : Int := (sumsF 0 ws).getD j 0
/-- the length of a line -/
def ln (ws : List Int) (i j : Nat) : Int := sm ws j - sm ws i - 1
def sq (wd : Int) (ws : List Int) (i j : Nat) : Int := (wd - ln ws i j) ^ 2
theorem sm_at (ws : List Int) {j : Nat} (h : j ≤ ws.length) : L2.atI (sumsF 0 ws) (j : Int) = some (sm ws j) := atI_getD (by rw [sumsF_len]; omega)
theorem sm_eq (ws : List Int) {j : Nat} (h : j ≤ ws.length) : sm ws j = (ws.take j).sum + j := by
  unfold sm; rw [sumsF_get ws 0 j h]; omega
theorem sm_succ (ws : List Int) {j : Nat} (h : j < ws.length) : sm ws (j + 1) = sm ws j + ws[j] + 1 := by
  rw [sm_eq ws (by omega), sm_eq ws (by omega), List.take_add_one, List.getElem?_eq_getElem h, List.sum_append]
  simp
  omega
section
variable {wd : Int} {ws : List Int} (W : Wd wd ws)
include W
theorem sm_step {j : Nat} (h : j < ws.length) : sm ws j + 2 ≤ sm ws (j + 1) ∧ sm ws (j + 1) ≤ sm ws j + wd + 1 := by
  have := W.wrd ws[j] (List.getElem_mem h)
  rw [sm_succ ws h]; omega
theorem sm_mono {i j : Nat} (hij : i ≤ j) (h : j ≤ ws.length) : sm ws i + 2 * ((j : Int) - i) ≤ sm ws j ∧ sm ws j ≤ sm ws i + (wd + 1) * ((j : Int) - i) := by
  induction j with
  | zero =>
    have : i = 0 := by omega
    subst this; simp
  | succ j ih =>
    by_cases e : i = j + 1
    · subst e; simp
    · have h1 := ih (by omega) (by omega)
      have h2 := sm_step W (j := j) (by omega)
      have e2 : (wd + 1) * (((j + 1 : Nat) : Int) - i) = (wd + 1) * ((j : Int) - i) + (wd + 1) := by
        have : (((j + 1 : Nat) : Int) - i) = ((j : Int) - i) + 1 := by omega
        rw [this, Int.mul_add]; omega
      rw [e2]
      omega
theorem sm_bd {j : Nat} (h : j ≤ ws.length) : 0 ≤ sm ws j ∧ sm ws j ≤ 1000000001000 := by
  have h1 := sm_mono W (Nat.zero_le j) h
  have h0 : sm ws 0 = 0 := by rw [sm_eq ws (Nat.zero_le _)]; simp
  have h2 := W.len
  have h3 : (wd + 1) * ((j : Int) - (0 : Nat)) ≤ 1000000001 * 1000 := Int.mul_le_mul (by have := W.w2; omega) (by omega) (by omega) (by decide)
  omega
theorem ln_bd {i j : Nat} (hi : i ≤ ws.length) (hj : j ≤ ws.length) : -1000000001001 ≤ ln ws i j ∧ ln ws i j ≤ 1000000001000 := by
  have h1 := sm_bd W hi
  have h2 := sm_bd W hj
  unfold ln; omega
theorem ln_anti {i i' j : Nat} (h : i ≤ i') (h2 : i' ≤ j) (hj : j ≤ ws.length) : ln ws i' j ≤ ln ws i j := by
  have := (sm_mono W h (by omega)).1
  unfold ln; omega
theorem ln_one {j : Nat} (h : j < ws.length) : ln ws j (j + 1) = ws[j] := by
  unfold ln; rw [sm_succ ws h]; omega
theorem ln_fit1 {j : Nat} (h : j < ws.length) : ln ws j (j + 1) ≤ wd := by
  rw [ln_one W h]; exact (W.wrd ws[j] (List.getElem_mem h)).2
theorem ln_pos {i j : Nat} (h : i < j) (hj : j ≤ ws.length) : 1 ≤ ln ws i j := by
  have := (sm_mono W (Nat.le_of_lt h) hj).1
  unfold ln; omega
end
/-! ### the places at which a line can begin -/
def bgF (wd : Int) (ws : List Int) (e : Nat) : Nat → List Nat
  | 0 => []
  | b + 1 => if ln ws b e ≤ wd then b :: bgF wd ws e b else []
/-- the latest one first -/
def bg (wd : Int) (ws : List Int) (e : Nat) : List Nat := bgF wd ws e e
theorem bgF_mem {wd : Int} {ws : List Int} (W : Wd wd ws) {e : Nat} (he : e ≤ ws.length) : ∀ {m b : Nat}, m ≤ e → (b ∈ bgF wd ws e m ↔ b < m ∧ ln ws b e ≤ wd)
  | 0, b, _ => by simp [bgF]
  | m + 1, b, hm => by
    unfold bgF
    by_cases h : ln ws m e ≤ wd
    · rw [if_pos h, List.mem_cons, bgF_mem W he (by omega : m ≤ e)]
      constructor
      · rintro (rfl | ⟨h1, h2⟩)
        · exact ⟨by omega, h⟩
        · exact ⟨by omega, h2⟩
      · rintro ⟨h1, h2⟩
        by_cases e1 : b = m
        · exact .inl e1
        · exact .inr ⟨by omega, h2⟩
    · rw [if_neg h]
      constructor
      · intro z; cases z
      · rintro ⟨h1, h2⟩
        have := ln_anti W (i := b) (i' := m) (j := e) (by omega) (by omega) he
        omega
theorem bg_mem {wd : Int} {ws : List Int} (W : Wd wd ws) {e b : Nat} (he : e ≤ ws.length) : b ∈ bg wd ws e ↔ b < e ∧ ln ws b e ≤ wd := bgF_mem W he (Nat.le_refl e)
theorem bg_ne {wd : Int} {ws : List Int} (W : Wd wd ws) {e : Nat} (h0 : 0 < e) (he : e ≤ ws.length) : bg wd ws e ≠ [] := by
  obtain ⟨e, rfl⟩ : ∃ e', e = e' + 1 := ⟨e - 1, by omega⟩
  have : e ∈ bg wd ws (e + 1) := (bg_mem W he).mpr ⟨by omega, ln_fit1 W (by omega)⟩
  exact List.ne_nil_of_mem this
theorem bg_len {wd : Int} {ws : List Int} {e : Nat} : (bg wd ws e).length ≤ e := by
  have key : ∀ m, (bgF wd ws e m).length ≤ m := fun m => by
    induction m with
    | zero => exact Nat.le_refl _
    | succ m ih => unfold bgF; split <;> simp <;> omega
  exact key e
/-! ### the least of pairs -/
def minP (a : Int × Int) (xs : List (Int × Int)) : Int × Int := xs.foldl (fun a y => if y.1 < a.1 ∨ (y.1 = a.1 ∧ y.2 < a.2) then y else a) a
def pD (p : Int × Int) : PyData := .tuple [.int p.1, .int p.2]
theorem minD_pairs (xs : List (Int × Int)) : ∀ a, W.minD (pD a) (xs.map pD) = pD (minP a xs) := by
  unfold W.minD minP
  induction xs with
  | nil => intro a; rfl
  | cons x xs ih =>
    intro a
    rw [List.map_cons, List.foldl_cons, List.foldl_cons]
    have e : W.dataLt (pD x) (pD a) = decide (x.1 < a.1 ∨ (x.1 = a.1 ∧ x.2 < a.2)) := W.dataLt_ii _ _ _ _
    rw [e]
    by_cases h : x.1 < a.1 ∨ (x.1 = a.1 ∧ x.2 < a.2)
    · rw [if_pos (decide_eq_true h), if_pos h]; exact ih x
    · rw [if_neg (by simpa using h), if_neg h]; exact ih a
theorem minP_spec (xs : List (Int × Int)) : ∀ a, minP a xs ∈ a :: xs ∧ ∀ y ∈ a :: xs, (minP a xs).1 < y.1 ∨ ((minP a xs).1 = y.1 ∧ (minP a xs).2 ≤ y.2) := by
  induction xs with
  | nil => intro a; exact ⟨List.mem_cons_self, fun y hy => by rw [List.mem_singleton.mp hy]; exact .inr ⟨rfl, Int.le_refl _⟩⟩
  | cons x xs ih =>
    intro a
    have e : minP a (x :: xs) = minP (if x.1 < a.1 ∨ (x.1 = a.1 ∧ x.2 < a.2) then x else a) xs := rfl
    rw [e]
    by_cases h : x.1 < a.1 ∨ (x.1 = a.1 ∧ x.2 < a.2)
    · rw [if_pos h]
      obtain ⟨h1, h2⟩ := ih x
      refine ⟨List.mem_cons_of_mem _ h1, fun y hy => ?_⟩
      rcases List.mem_cons.mp hy with rfl | hy
      · have := h2 x List.mem_cons_self
        omega
      · exact h2 y hy
    · rw [if_neg h]
      obtain ⟨h1, h2⟩ := ih a
      refine ⟨?_, fun y hy => ?_⟩
      · rcases List.mem_cons.mp h1 with e | e
        · rw [e]; exact List.mem_cons_self
        · exact List.mem_cons_of_mem _ (List.mem_cons_of_mem _ e)
      · rcases List.mem_cons.mp hy with rfl | hy
        · exact h2 y List.mem_cons_self
        · rcases List.mem_cons.mp hy with rfl | hy
          · have := h2 a List.mem_cons_self
            omega
          · exact h2 y (List.mem_cons_of_mem _ hy)
def minL : List (Int × Int) → Int × Int
  | [] => (0, 0)
  | a :: xs => minP a xs
/-- the least, of equal ones the latest place: costs f at the places bs -/
def best (f : Nat → Int) (bs : List Nat) : Int × Int := minL (bs.map fun b => (f b, -(b : Int)))
theorem best_spec (f : Nat → Int) {bs : List Nat} (h : bs ≠ []) : ∃ b ∈ bs, best f bs = (f b, -(b : Int)) ∧ ∀ c ∈ bs, f b < f c ∨ (f b = f c ∧ c ≤ b) := by
  cases bs with
  | nil => exact absurd rfl h
  | cons a bs =>
    obtain ⟨h1, h2⟩ := minP_spec (bs.map fun b => (f b, -(b : Int))) (f a, -(a : Int))
    have e : best f (a :: bs) = minP (f a, -(a : Int)) (bs.map fun b => (f b, -(b : Int))) := rfl
    rw [← e] at h1 h2
    have m : best f (a :: bs) ∈ (a :: bs).map fun b => (f b, -(b : Int)) := h1
    obtain ⟨b, hb, eb⟩ := List.mem_map.mp m
    refine ⟨b, hb, eb.symm, fun c hc => ?_⟩
    have := h2 (f c, -(c : Int)) (by have : (f c, -(c : Int)) ∈ (a :: bs).map fun b => (f b, -(b : Int)) := List.mem_map.mpr ⟨c, hc, rfl⟩; exact this)
    rw [← eb] at this
    simp only at this
    omega
/-! ### the table -/
/-- costs and befores of the ends up to n -/
def tab (wd : Int) (ws : List Int) : Nat → List (Int × Nat)
  | 0 => [(0, 0)]
  | n + 1 =>
    let t := tab wd ws n
    let p := best (fun b => (t.getD b (0, 0)).1 + sq wd ws b (n + 1)) (bg wd ws (n + 1))
    t ++ [(p.1, (-p.2).toNat)]
theorem tab_len (wd : Int) (ws : List Int) : ∀ n, (tab wd ws n).length = n + 1
  | 0 => rfl
  | n + 1 => by unfold tab; simp [tab_len wd ws n]
theorem tab_pre (wd : Int) (ws : List Int) {m n : Nat} (h : m ≤ n) : (tab wd ws n).take (m + 1) = tab wd ws m := by
  induction n with
  | zero =>
    have : m = 0 := by omega
    subst this; rfl
  | succ n ih =>
    by_cases e : m = n + 1
    · subst e
      rw [List.take_of_length_le]; rw [tab_len]; omega
    · show List.take (m + 1) (tab wd ws n ++ _) = _
      rw [List.take_append_of_le_length (by rw [tab_len]; omega)]
      exact ih (by omega)
/-- the least full cost up to an end; where its last line begins -/
def C (wd : Int) (ws : List Int) (e : Nat) : Int := ((tab wd ws e).getD e (0, 0)).1
def B (wd : Int) (ws : List Int) (e : Nat) : Nat := ((tab wd ws e).getD e (0, 0)).2
theorem tab_get {wd : Int} {ws : List Int} {m n : Nat} (h : m ≤ n) : (tab wd ws n).getD m (0, 0) = (C wd ws m, B wd ws m) := by
  have e := tab_pre wd ws h
  have : (tab wd ws n).getD m (0, 0) = (tab wd ws m).getD m (0, 0) := by
    rw [← e, List.getD_eq_getElem?_getD, List.getD_eq_getElem?_getD, List.getElem?_take]
    simp
  rw [this]
  rfl
theorem CB_succ (wd : Int) (ws : List Int) (n : Nat) : best (fun b => C wd ws b + sq wd ws b (n + 1)) (bg wd ws (n + 1)) = best (fun b => ((tab wd ws n).getD b (0, 0)).1 + sq wd ws b (n + 1)) (bg wd ws (n + 1)) := by
  unfold best
  congr 1
  apply List.map_congr_left
  intro b hb
  have : b ≤ n := by
    have key : ∀ m, m ≤ n + 1 → b ∈ bgF wd ws (n + 1) m → b < m := fun m => by
      induction m with
      | zero => intro _ z; cases z
      | succ m ih =>
        intro hm z
        unfold bgF at z
        split at z
        · rcases List.mem_cons.mp z with rfl | z
          · omega
          · have := ih (by omega) z; omega
        · cases z
    have := key (n + 1) (Nat.le_refl _) hb
    omega
  show (C wd ws b + sq wd ws b (n + 1), -(b : Int)) = (((tab wd ws n).getD b (0, 0)).1 + sq wd ws b (n + 1), -(b : Int))
  rw [tab_get this]
theorem CB_at {wd : Int} {ws : List Int} (W : Wd wd ws) {e : Nat} (h0 : 0 < e) (he : e ≤ ws.length) : B wd ws e < e ∧ ln ws (B wd ws e) e ≤ wd ∧ C wd ws e = C wd ws (B wd ws e) + sq wd ws (B wd ws e) e ∧
    best (fun b => C wd ws b + sq wd ws b e) (bg wd ws e) = (C wd ws e, -(B wd ws e : Int)) ∧ ∀ b, b < e → ln ws b e ≤ wd → C wd ws e < C wd ws b + sq wd ws b e ∨ (C wd ws e = C wd ws b + sq wd ws b e ∧ b ≤ B wd ws e) := by
  obtain ⟨n, rfl⟩ : ∃ n, e = n + 1 := ⟨e - 1, by omega⟩
  obtain ⟨b, hb, eb, hm⟩ := best_spec (fun b => C wd ws b + sq wd ws b (n + 1)) (bg_ne W h0 he)
  have eg : (tab wd ws (n + 1)).getD (n + 1) (0, 0) = ((C wd ws b + sq wd ws b (n + 1)), b) := by
    show (tab wd ws n ++ [((best (fun b => ((tab wd ws n).getD b (0, 0)).1 + sq wd ws b (n + 1)) (bg wd ws (n + 1))).1, (-(best (fun b => ((tab wd ws n).getD b (0, 0)).1 + sq wd ws b (n + 1)) (bg wd ws (n + 1))).2).toNat)]).getD (n + 1) (0, 0) = _
    rw [← CB_succ, eb]
    simp only
    rw [List.getD_eq_getElem?_getD, List.getElem?_append_right (by rw [tab_len]; omega), tab_len]
    simp
  have eC : C wd ws (n + 1) = C wd ws b + sq wd ws b (n + 1) := by unfold C; rw [eg]; rfl
  have eB : B wd ws (n + 1) = b := by unfold B; rw [eg]
  have hb2 := (bg_mem W he).mp hb
  rw [eB, eC]
  refine ⟨hb2.1, hb2.2, rfl, eb, fun c hc hl => ?_⟩
  exact hm c ((bg_mem W he).mpr ⟨hc, hl⟩)
/-! ### ways -/
def wayN (B : Nat → Nat) : Nat → Nat → List Nat
  | 0, _ => []
  | k + 1, e => if e = 0 then [] else wayN B k (B e) ++ [e]
/-- the ends up to a place -/
def way (wd : Int) (ws : List Int) (e : Nat) : List Nat := wayN (B wd ws) e e
theorem wayN_one {f : Nat → Nat} {n : Nat} (hf : ∀ e, 0 < e → e ≤ n → f e < e) : ∀ k e, e ≤ k → e ≤ n → wayN f (k + 1) e = wayN f k e
  | 0, e, he, _ => by
    have : e = 0 := by omega
    subst this; rfl
  | k + 1, e, he, hn => by
    by_cases h0 : e = 0
    · subst h0; rfl
    · have := hf e (by omega) hn
      show (if e = 0 then [] else wayN f (k + 1) (f e) ++ [e]) = (if e = 0 then [] else wayN f k (f e) ++ [e])
      rw [if_neg h0, if_neg h0, wayN_one hf k (f e) (by omega) (by omega)]
theorem wayN_more {f : Nat → Nat} {n : Nat} (hf : ∀ e, 0 < e → e ≤ n → f e < e) (d e : Nat) (hn : e ≤ n) : wayN f (e + d) e = wayN f e e := by
  induction d with
  | zero => rfl
  | succ d ih =>
    have := wayN_one hf (e + d) e (by omega) hn
    rw [← ih, ← this]
    rfl
theorem way0 (wd : Int) (ws : List Int) : way wd ws 0 = [] := rfl
theorem way_step {wd : Int} {ws : List Int} (W : Wd wd ws) {e : Nat} (h0 : 0 < e) (he : e ≤ ws.length) : way wd ws e = way wd ws (B wd ws e) ++ [e] := by
  obtain ⟨m, rfl⟩ : ∃ m, e = m + 1 := ⟨e - 1, by omega⟩
  have hf : ∀ e, 0 < e → e ≤ ws.length → B wd ws e < e := fun e h1 h2 => (CB_at W h1 h2).1
  have := hf (m + 1) h0 he
  show (if m + 1 = 0 then [] else wayN (B wd ws) m (B wd ws (m + 1)) ++ [m + 1]) = _
  rw [if_neg (by omega)]
  show _ = wayN (B wd ws) (B wd ws (m + 1)) (B wd ws (m + 1)) ++ [m + 1]
  have e1 := wayN_more hf (m - B wd ws (m + 1)) (B wd ws (m + 1)) (by omega)
  have e2 : B wd ws (m + 1) + (m - B wd ws (m + 1)) = m := by omega
  rw [e2] at e1
  rw [e1]
end LM

/-! LN: layouts and which are best. -/
namespace LM
open PySem
def prsN (ns : List Nat) : List (Nat × Nat) := (0 :: ns.dropLast).zip ns
theorem prsN_snoc (ns : List Nat) (h : Nat) : prsN (ns ++ [h]) = prsN ns ++ [(ns.getLastD 0, h)] := by
  unfold prsN
  rw [List.dropLast_concat]
  rcases List.eq_nil_or_concat ns with e | ⟨ms, l, e⟩
  · subst e; rfl
  · rw [List.concat_eq_append] at e
    subst e
    rw [List.dropLast_concat]
    have e1 : (0 :: (ms ++ [l])) = (0 :: ms) ++ [l] := rfl
    rw [e1, List.zip_append (by simp)]
    simp
def sqsN (wd : Int) (ws : List Int) (ns : List Nat) : List Int := (prsN ns).map fun p => sq wd ws p.1 p.2
theorem sqsN_snoc (wd : Int) (ws : List Int) (ns : List Nat) (h : Nat) : sqsN wd ws (ns ++ [h]) = sqsN wd ws ns ++ [sq wd ws (ns.getLastD 0) h] := by
  unfold sqsN; rw [prsN_snoc, List.map_append]; rfl
def fc (wd : Int) (ws : List Int) (ns : List Nat) : Int := (sqsN wd ws ns).sum
def cost (wd : Int) (ws : List Int) (ns : List Nat) : Int := (sqsN wd ws ns).dropLast.sum
theorem fc_snoc (wd : Int) (ws : List Int) (ns : List Nat) (h : Nat) : fc wd ws (ns ++ [h]) = fc wd ws ns + sq wd ws (ns.getLastD 0) h := by
  unfold fc; rw [sqsN_snoc, List.sum_append]; simp
theorem cost_snoc (wd : Int) (ws : List Int) (ns : List Nat) (h : Nat) : cost wd ws (ns ++ [h]) = fc wd ws ns := by
  unfold cost fc; rw [sqsN_snoc, List.dropLast_concat]
/-- the layouts of the first words; their ends -/
inductive Lay (wd : Int) (ws : List Int) : List Nat → Nat → Prop
  | nil : Lay wd ws [] 0
  | snoc {ns : List Nat} {l h : Nat} : Lay wd ws ns l → l < h → ln ws l h ≤ wd → Lay wd ws (ns ++ [h]) h
theorem Lay.last {wd : Int} {ws : List Int} {ns : List Nat} {l : Nat} (c : Lay wd ws ns l) : ns.getLastD 0 = l := by
  cases c with
  | nil => rfl
  | snoc _ _ _ => simp
theorem Lay.inv {wd : Int} {ws : List Int} {ns : List Nat} {h e : Nat} (c : Lay wd ws (ns ++ [h]) e) : e = h ∧ ∃ l, Lay wd ws ns l ∧ l < h ∧ ln ws l h ≤ wd := by
  generalize hm : ns ++ [h] = ms at c
  cases c with
  | nil => simp at hm
  | snoc c1 h1 h2 =>
    obtain ⟨e1, e2⟩ := List.append_inj' hm rfl
    cases e2
    subst e1
    exact ⟨rfl, _, c1, h1, h2⟩
theorem Lay.ne {wd : Int} {ws : List Int} {ns : List Nat} {e : Nat} (c : Lay wd ws ns e) (h : 0 < e) : ∃ ms l, ns = ms ++ [e] ∧ Lay wd ws ms l ∧ l < e ∧ ln ws l e ≤ wd := by
  cases c with
  | nil => exact absurd h (Nat.lt_irrefl 0)
  | snoc c1 h1 h2 => exact ⟨_, _, rfl, c1, h1, h2⟩
theorem Lay.zero {wd : Int} {ws : List Int} {ns : List Nat} (c : Lay wd ws ns 0) : ns = [] := by
  cases c with
  | nil => rfl
  | snoc c1 h1 h2 => exact absurd h1 (Nat.not_lt_zero _)
theorem Lay.len {wd : Int} {ws : List Int} {ns : List Nat} {l : Nat} (c : Lay wd ws ns l) : ns.length ≤ l := by
  induction c with
  | nil => exact Nat.le_refl _
  | snoc _ h _ ih => rw [List.length_append, List.length_singleton]; omega
theorem Lay.mem {wd : Int} {ws : List Int} {ns : List Nat} {l : Nat} (c : Lay wd ws ns l) : ∀ x ∈ ns, 1 ≤ x ∧ x ≤ l := by
  induction c with
  | nil => intro x hx; cases hx
  | snoc _ h _ ih =>
    intro x hx
    rcases List.mem_append.mp hx with z | z
    · have := ih x z; omega
    · rw [List.mem_singleton.mp z]; omega
theorem Lay.prs {wd : Int} {ws : List Int} {ns : List Nat} {l : Nat} (c : Lay wd ws ns l) : ∀ p ∈ prsN ns, p.1 < p.2 ∧ p.2 ≤ l ∧ ln ws p.1 p.2 ≤ wd := by
  induction c with
  | nil => intro p hp; cases hp
  | @snoc ns l h c hl hf ih =>
    intro p hp
    rw [prsN_snoc] at hp
    rcases List.mem_append.mp hp with z | z
    · have := ih p z; omega
    · rw [List.mem_singleton.mp z, c.last]; exact ⟨hl, Nat.le_refl _, hf⟩
/-- later: the reversed ends as a tuple -/
def rv (ns : List Nat) : List Int := ns.reverse.map fun (n : Nat) => (n : Int)
section
variable {wd : Int} {ws : List Int} (W : Wd wd ws)
include W
theorem way_lay : ∀ e, e ≤ ws.length → Lay wd ws (way wd ws e) e ∧ fc wd ws (way wd ws e) = C wd ws e := by
  intro e
  induction e using Nat.strongRecOn with
  | _ e ih =>
    intro he
    by_cases h0 : e = 0
    · subst h0; exact ⟨.nil, rfl⟩
    · obtain ⟨h1, h2, h3, _, _⟩ := CB_at W (by omega : 0 < e) he
      obtain ⟨i1, i2⟩ := ih _ h1 (by omega)
      rw [way_step W (by omega) he]
      exact ⟨.snoc i1 h1 h2, by rw [fc_snoc, i1.last, i2, h3]⟩
end
/-! ### the best layout -/
def LS (wd : Int) (ws : List Int) : Nat := if ws.length = 0 then 0 else (-(best (C wd ws) (bg wd ws ws.length)).2).toNat
def bestLay (wd : Int) (ws : List Int) : List Nat := if ws.length = 0 then [] else way wd ws (LS wd ws) ++ [ws.length]
section
variable {wd : Int} {ws : List Int} (W : Wd wd ws)
include W
theorem LS_at (h0 : 0 < ws.length) : LS wd ws < ws.length ∧ ln ws (LS wd ws) ws.length ≤ wd ∧ best (C wd ws) (bg wd ws ws.length) = (C wd ws (LS wd ws), -(LS wd ws : Int)) ∧ ∀ b, b < ws.length → ln ws b ws.length ≤ wd → C wd ws (LS wd ws) < C wd ws b ∨ (C wd ws (LS wd ws) = C wd ws b ∧ b ≤ LS wd ws) := by
  obtain ⟨b, hb, eb, hm⟩ := best_spec (C wd ws) (bg_ne W h0 (Nat.le_refl _))
  have e : LS wd ws = b := by unfold LS; rw [if_neg (by omega), eb]; simp
  have hb2 := (bg_mem W (Nat.le_refl _)).mp hb
  rw [e]
  exact ⟨hb2.1, hb2.2, eb, fun c h1 h2 => hm c ((bg_mem W (Nat.le_refl _)).mpr ⟨h1, h2⟩)⟩
theorem LS_le : LS wd ws ≤ ws.length := by
  by_cases h : ws.length = 0
  · unfold LS; rw [if_pos h]; omega
  · have := (LS_at W (by omega)).1; omega
theorem best_lay : Lay wd ws (bestLay wd ws) ws.length ∧ cost wd ws (bestLay wd ws) = C wd ws (LS wd ws) := by
  by_cases h : ws.length = 0
  · unfold bestLay LS
    rw [if_pos h, if_pos h, h]
    exact ⟨.nil, rfl⟩
  · obtain ⟨h1, h2, h3, h4⟩ := LS_at W (by omega)
    obtain ⟨i1, i2⟩ := way_lay W (LS wd ws) (by omega)
    unfold bestLay
    rw [if_neg h]
    exact ⟨.snoc i1 h1 h2, by rw [cost_snoc, i2]⟩
end
abbrev nDs (ns : List Nat) : List PyData := ns.map fun (n : Nat) => PyData.int (n : Int)
end LM

namespace K26
open PySem PySem.Spec PyProof.Rows L2 QL
def topS (i : Nat) : Stmt := PySem.Challenge.pw_settledlines_k26_values_that_are_no_plac.main.body.getD i (.Pass ⟨0, 0, 0, 0⟩)
open LM
/-- what is known of the class -/
structure Txt_Table (K : PySem.W.Frag) (a : Addr) : Prop where
  cl : Cls K a
  n_wide : NoAttr K a "wide"
  n_sums : NoAttr K a "sums"
  n_costs : NoAttr K a "costs"
  n_befores : NoAttr K a "befores"
def spSums : Spc := fun ts QT _ => ∃ ws : List Int, ts = [.va (.tuple (iDs ws))] ∧ ws.length ≤ 1000 ∧ QT (.va (.tuple (iDs (sumsF 0 ws)))) [none]
def spLenBy : Spc := fun ts QT _ => ∃ (ws : List Int) (i j : Nat), ts = [.va (.tuple (iDs (sumsF 0 ws))), .va (.int i), .va (.int j)] ∧ i ≤ ws.length ∧ j ≤ ws.length ∧ QT (.va (.int (ln ws i j))) [none, none, none]
section
variable {P : Program} {w : World} {K : PySem.W.Frag} {mg : Str → Option Value} {base : Heap} {Tq : List (Addr × Str)}
abbrev N_sums_of : List Str := ["text", "found", "word"]
theorem sc_sums_of : FnScope N_sums_of ["text"] (defScope (topS 13)) := ⟨rfl, rfl, rfl, by decide +kernel, rfl, by decide +kernel, by decide +kernel⟩
theorem g_sums_of {f : Addr} {fd : FuncData} {k : Nat} (Fn : Fun K "sums_of" "sums_of" (topS 13) f fd) (m_tuple : mg "tuple" = none) : FnG P w K mg base Tq (k + 1) f fd ["text"] spSums := by
  refine fn_g Fn sc_sums_of (fun ts Q E h => ?_) fun cdv A outer s H E Z ts QT ET hr hgd hp tk h => ?_
  · obtain ⟨ws, rfl, hl, q⟩ := h; rfl
  · obtain ⟨ws, rfl, hl, q⟩ := h
    -- line 40
    refine wss_cons (ws_set 1 (w_lst ⟨rfl, (w_int ⟨(by first | decide | (simp only [List.length_append, List.length_map, List.length_cons, List.length_nil, List.length_singleton, List.length_replicate, List.length_range, List.length_take, List.length_drop, List.length_dropLast, List.length_reverse, Bool.false_eq_true, eq_self, reduceIte, sizeLine_eq]; omega)), fun p1 => ⟨Nat.lt_of_sub_eq_succ rfl, ?_⟩⟩)⟩) sc_sums_of.nd)
    -- line 41
    refine wss_cons (ws_for hp rfl (pg_name (i := 2) sc_sums_of.nd rfl (by first | exact Or.inl rfl | exact Or.inr rfl)) (gok_name 2) (wi_tup (w_var 0 ?_)))
    refine ⟨fun k e => ∃ y, e = [some (.va (.tuple (iDs ws))), some (.lst p1 (iDs (sumsF 0 (ws.take k)))), y], ⟨none, rfl⟩, ?_, ?_⟩
    · rintro k d e hd ⟨y, rfl⟩
      rw [List.getElem?_map, Option.map_eq_some_iff] at hd
      obtain ⟨x, hx, rfl⟩ := hd
      obtain ⟨z, hz, hs⟩ := sumsF_snoc 0 (ws.take k) x
      have hk : k < ws.length := (List.getElem?_eq_some_iff.mp hx).1
      have ht : ws.take (k + 1) = ws.take k ++ [x] := by rw [List.take_add_one, hx]; rfl
      have hla : atI (iDs (sumsF 0 (ws.take k))) (-1) = some (.int z) := by
        refine atI_last' ?_
        rw [List.getLast?_map, hz]
        rfl
      have hlen : (sumsF 0 (ws.take k)).length ≤ 1001 := by rw [sumsF_len, List.length_take]; omega
      refine ⟨Nat.lt_of_sub_eq_succ rfl, ?_⟩
      -- line 42
      refine wss_one (ws_expr (w_append (w_var 1 ⟨_, _, _, _, rfl, rfl, (w_bin dop_add (w_bin dop_add (w_ix (w_var 1 (w_neg (w_int ⟨rfl, ⟨rfl, rfl, _, hla, (w_var 2 ⟨rfl, rfl, (w_int ⟨rfl, rfl, ⟨_, _, rfl, rfl, (by simp only [List.length_append, List.length_map, List.length_cons, List.length_nil, List.length_singleton, List.length_replicate, List.length_range, List.length_take, List.length_drop, List.length_dropLast, List.length_reverse, Bool.false_eq_true, eq_self, reduceIte, sizeLine_eq]; omega), ?_⟩⟩)⟩)⟩⟩))))))⟩)))
      refine ⟨some (.va (.int x)), ?_⟩
      rw [ht, hs]
      show [_, some (T.lst p1 (iDs (sumsF 0 (ws.take k)) ++ [PyData.int (z + x + 1)])), _] = _
      rw [← List.map_singleton, ← List.map_append]
    · rintro e ⟨y, rfl⟩
      -- line 43
      refine wss_one (ws_ret (w_callTy dc_tuple m_tuple rfl ⟨rfl, (w_var 1 ⟨rfl, ?_⟩)⟩))
      show QT (.va (.tuple (iDs (sumsF 0 (ws.take (iDs ws).length))))) [none]
      rw [List.length_map, List.take_length]
      exact q
abbrev N_length_by : List Str := ["sums", "begin", "end"]
theorem sc_length_by : FnScope N_length_by ["sums", "begin", "end"] (defScope (topS 14)) := ⟨rfl, rfl, rfl, by decide +kernel, rfl, by decide +kernel, by decide +kernel⟩
theorem g_length_by {f : Addr} {fd : FuncData} {k : Nat} (Fn : Fun K "length_by" "length_by" (topS 14) f fd) : FnG P w K mg base Tq (k + 1) f fd ["sums", "begin", "end"] spLenBy := by
  refine fn_g Fn sc_length_by (fun ts Q E h => ?_) fun cdv A outer s H E Z ts QT ET hr hgd hp tk h => ?_
  · obtain ⟨ws, i, j, rfl, hi, hj, q⟩ := h; rfl
  · obtain ⟨ws, i, j, rfl, hi, hj, q⟩ := h
    -- line 45
    refine wss_one (ws_ret (w_bin dop_sub (w_bin dop_sub (w_ix (w_var 0 (w_var 2 ⟨rfl, rfl, _, (atI_map _ (sm_at ws hj)), (w_ix (w_var 0 (w_var 1 ⟨rfl, rfl, _, (atI_map _ (sm_at ws hi)), ⟨rfl, rfl, (w_int ⟨rfl, rfl, ?_⟩)⟩⟩)))⟩))))))
    exact q
end
/-- a table whose rows up to m stand -/
def csL (wd : Int) (ws : List Int) (m : Nat) : List Int := (List.range (m + 1)).map (C wd ws)
def bsL (wd : Int) (ws : List Int) (m : Nat) : List Nat := (List.range (m + 1)).map (B wd ws)
abbrev tabF (wd : Int) (ws : List Int) (m : Nat) (pc pb : Addr) : List (Str × T) := [("wide", .va (.int wd)), ("sums", .va (.tuple (iDs (sumsF 0 ws)))), ("costs", .lst pc (iDs (csL wd ws m))), ("befores", .lst pb (nDs (bsL wd ws m)))]
def spInit (aC : Addr) : Spc := fun ts QT _ => ∃ (a : Addr) (wd : Int) (ws : List Int), ts = [.ins a aC [], .va (.int wd), .va (.tuple (iDs ws))] ∧ Wd wd ws ∧ ∀ pc pb, QT (.va .none) [some (.ins a aC (tabF wd ws ws.length pc pb)), none, none]
def spBegins (aC : Addr) : Spc := fun ts QT _ => ∃ (a : Addr) (wd : Int) (ws : List Int) (m : Nat) (pc pb : Addr) (e : Nat), ts = [.ins a aC (tabF wd ws m pc pb), .va (.int e)] ∧ Wd wd ws ∧ e ≤ ws.length ∧ ∀ p, QT (.lst p (nDs (bg wd ws e))) [some (.ins a aC (tabF wd ws m pc pb)), none]
def spSquare (aC : Addr) : Spc := fun ts QT _ => ∃ (a : Addr) (wd : Int) (ws : List Int) (m : Nat) (pc pb : Addr) (b e : Nat), ts = [.ins a aC (tabF wd ws m pc pb), .va (.int b), .va (.int e)] ∧ Wd wd ws ∧ b ≤ ws.length ∧ e ≤ ws.length ∧ QT (.va (.int (sq wd ws b e))) [some (.ins a aC (tabF wd ws m pc pb)), none, none]
def spWay (aC : Addr) : Spc := fun ts QT _ => ∃ (a : Addr) (wd : Int) (ws : List Int) (pc pb : Addr) (e : Nat), ts = [.ins a aC (tabF wd ws ws.length pc pb), .va (.int e)] ∧ Wd wd ws ∧ e ≤ ws.length ∧ QT (.va (.tuple (nDs (way wd ws e)))) [some (.ins a aC (tabF wd ws ws.length pc pb)), none]
def spLast (aC : Addr) : Spc := fun ts QT _ => ∃ (a : Addr) (wd : Int) (ws : List Int) (pc pb : Addr), ts = [.ins a aC (tabF wd ws ws.length pc pb)] ∧ Wd wd ws ∧ QT (.va (.int (LS wd ws))) [some (.ins a aC (tabF wd ws ws.length pc pb))]
theorem min_pairs {f : Nat → Int} {bs : List Nat} (h : bs ≠ []) : ∃ x xs, bs.map (fun (b : Nat) => PyData.tuple [.int (f b), .int (-(b : Int))]) = x :: xs ∧ W.minD x xs = pD (best f bs) ∧ PyData.hasDictAll (x :: xs) = false ∧ W.AlikeAll (x :: xs) ∧ PyData.depthAll (x :: xs) ≤ 60 := by
  have e : bs.map (fun (b : Nat) => PyData.tuple [.int (f b), .int (-(b : Int))]) = (bs.map fun b => (f b, -(b : Int))).map pD := by rw [List.map_map]; rfl
  rw [e]
  unfold best
  generalize hp : (bs.map fun b => (f b, -(b : Int))) = ps
  cases ps with
  | nil => simp at hp; exact absurd hp h
  | cons p ps =>
    refine ⟨pD p, ps.map pD, rfl, minD_pairs ps p, ?_, ?_, ?_⟩
    · rw [← List.map_cons (f := pD)]
      generalize p :: ps = qs
      induction qs with
      | nil => rfl
      | cons q qs ih => show (false || PyData.hasDictAll _) = false; rw [ih]; rfl
    · rw [← List.map_cons (f := pD)]
      refine ⟨fun x hx y hy => ?_, fun x hx => ?_⟩
      · obtain ⟨p, _, rfl⟩ := List.mem_map.mp hx
        obtain ⟨q, _, rfl⟩ := List.mem_map.mp hy
        rfl
      · obtain ⟨p, _, rfl⟩ := List.mem_map.mp hx
        exact fun z => nomatch z
    · rw [← List.map_cons (f := pD)]
      refine Nat.le_trans (depthAll_map (k := 1) fun p _ => ?_) (by decide)
      simp [pD, PyData.depth, PyData.depthAll]
theorem csL_at {wd : Int} {ws : List Int} {m j : Nat} (h : j ≤ m) : atI (iDs (csL wd ws m)) (j : Int) = some (.int (C wd ws j)) := by
  refine atI_nat ?_
  unfold csL
  simp [iDs, List.getElem?_range (show j < m + 1 by omega)]
theorem csL_snoc {wd : Int} {ws : List Int} {m : Nat} : iDs (csL wd ws m) ++ [PyData.int (C wd ws (m + 1))] = iDs (csL wd ws (m + 1)) := by
  unfold csL
  rw [List.range_succ (n := m + 1)]; simp [iDs]
theorem bsL_snoc {wd : Int} {ws : List Int} {m : Nat} : nDs (bsL wd ws m) ++ [PyData.int (B wd ws (m + 1))] = nDs (bsL wd ws (m + 1)) := by
  unfold bsL
  rw [List.range_succ (n := m + 1)]; simp [nDs]
theorem csL_len {wd : Int} {ws : List Int} {m : Nat} : (csL wd ws m).length = m + 1 := by simp [csL]
theorem bsL_len {wd : Int} {ws : List Int} {m : Nat} : (bsL wd ws m).length = m + 1 := by simp [bsL]
section
variable {P : Program} {w : World} {K : PySem.W.Frag} {mg : Str → Option Value} {base : Heap} {Tq : List (Addr × Str)}
abbrev N_Table_begins : List Str := ["self", "end", "found", "begin"]
theorem sc_Table_begins : FnScope N_Table_begins ["self", "end"] (defScope (inClass (topS 16) 1)) := ⟨rfl, rfl, rfl, by decide +kernel, rfl, by decide +kernel, by decide +kernel⟩
theorem g_Table_begins {f : Addr} {fd : FuncData} {k : Nat} {aTable : Addr} (Fn : Fun K "begins" "Table.begins" (inClass (topS 16) 1) f fd) (TX : Txt_Table K aTable) (G_length_by : Df P w K mg base Tq k "length_by" ["sums", "begin", "end"] spLenBy) : FnG P w K mg base Tq (k + 1) f fd ["self", "end"] (spBegins aTable) := by
  refine fn_g Fn sc_Table_begins (fun ts Q E h => ?_) fun cdv A outer s H E Z ts QT ET hr hgd hp tk h => ?_
  · obtain ⟨a, wd, ws, m, pc, pb, e, rfl, W, he, q⟩ := h; rfl
  · obtain ⟨a, wd, ws, m, pc, pb, e, rfl, W, he, q⟩ := h
    -- line 60
    refine wss_cons (ws_par 2 3 rfl sc_Table_begins.nd (w_lst ⟨(by first | decide | (simp only [List.length_append, List.length_map, List.length_cons, List.length_nil, List.length_singleton, List.length_replicate, List.length_range, List.length_take, List.length_drop, List.length_dropLast, List.length_reverse, Bool.false_eq_true, eq_self, reduceIte, sizeLine_eq]; omega)), fun p1 => ⟨_, rfl, (w_bin dop_sub (w_var 1 (w_int ⟨rfl, rfl, ⟨_, rfl, Nat.lt_of_sub_eq_succ rfl, Nat.lt_of_sub_eq_succ rfl, ?_⟩⟩)))⟩⟩))
    let Iv : Nat → QL.Env → Prop := fun m1 en => m1 ≤ e ∧ ∃ fs, bg wd ws e = fs ++ bgF wd ws e m1 ∧ en = [some (.ins a aTable (tabF wd ws m pc pb)), some (.va (.int e)), some (.lst p1 (nDs fs)), some (.va (.int ((m1 : Int) - 1)))]
    -- line 61
    refine wss_cons (ws_while Iv e ⟨Nat.le_refl e, [], rfl, rfl⟩ ?step hp)
    case step =>
      rintro m1 en ⟨hm, fs, hb, rfl⟩
      rcases m1 with _ | b
      · refine WW.t (ww_and (wt_cmp dop_ge (w_var 3 (w_int ⟨rfl, rfl, _, rfl, ⟨fun h => ?_, fun h => ?_⟩⟩))))
        · exact absurd h (by decide)
        have hb : bg wd ws e = fs := by rw [hb]; simp [bgF]
        refine ⟨fun z => (nomatch z), fun _ => ?_⟩
        show WSs _ _ _ _ _
        -- line 64
        refine wss_one (ws_ret (w_var 2 ⟨rfl, ?_⟩))
        rw [← hb]; exact ⟨rfl, q p1⟩
      · have eb : (((b + 1 : Nat) : Int) - 1) = (b : Int) := by omega
        rw [eb]
        refine (WW.t (ww_and (wt_cmp dop_ge (w_var 3 (w_int ⟨rfl, rfl, _, rfl, ⟨fun h => (ww_and1 (wt_cmp dop_le (w_fn G_length_by hr hgd ⟨rfl, (w_fld (w_var 0 ⟨rfl, ⟨TX.cl, TX.n_sums⟩, ⟨rfl, (w_var 3 ⟨rfl, (w_var 1 ⟨_, _, _, rfl, (by first | assumption | omega | decide), (by first | assumption | omega | decide), (w_fld (w_var 0 ⟨rfl, ⟨TX.cl, TX.n_wide⟩, ⟨rfl, rfl, _, rfl, ⟨fun h => ?_, fun h => ?_⟩⟩⟩))⟩)⟩)⟩⟩))⟩))), fun h => ?_⟩⟩)))))
        · have hl : ln ws b e ≤ wd := of_decide_eq_true h
          have hf : bgF wd ws e (b + 1) = b :: bgF wd ws e b := by show (if _ then _ else _) = _; rw [if_pos hl]
          have hn : fs.length ≤ 1000 := by have h1 := bg_len (wd := wd) (ws := ws) (e := e); have h2 := W.len; rw [hb] at h1; simp only [List.length_append] at h1; omega
          -- line 62
          refine wss_cons (ws_expr (w_append (w_var 2 ⟨_, _, _, _, rfl, rfl, (w_var 3 ⟨_, _, rfl, rfl, (by simp only [List.length_append, List.length_map, List.length_cons, List.length_nil, List.length_singleton, List.length_replicate, List.length_range, List.length_take, List.length_drop, List.length_dropLast, List.length_reverse, Bool.false_eq_true, eq_self, reduceIte, sizeLine_eq]; omega), ?_⟩)⟩)))
          -- line 63
          refine wss_one (ws_aug 3 dip_sub ⟨_, rfl, (w_int ⟨rfl, Nat.lt_of_sub_eq_succ rfl, ?_⟩)⟩ sc_Table_begins.nd)
          exact ⟨b, by omega, by omega, fs ++ [b], by rw [hb, hf]; simp, by simp only [nDs, List.map_append]; rfl⟩
        · have hl : ¬ ln ws b e ≤ wd := of_decide_eq_false h
          have hf : bgF wd ws e (b + 1) = [] := by show (if _ then _ else _) = _; rw [if_neg hl]
          have hb : bg wd ws e = fs := by rw [hb, hf, List.append_nil]
          show WSs _ _ _ _ _
          -- line 64
          refine wss_one (ws_ret (w_var 2 ⟨rfl, ?_⟩))
          rw [← hb]; exact ⟨rfl, q p1⟩
        · exact absurd (of_decide_eq_false h) (by omega)
abbrev N_Table_square : List Str := ["self", "begin", "end"]
theorem sc_Table_square : FnScope N_Table_square ["self", "begin", "end"] (defScope (inClass (topS 16) 2)) := ⟨rfl, rfl, rfl, by decide +kernel, rfl, by decide +kernel, by decide +kernel⟩
theorem g_Table_square {f : Addr} {fd : FuncData} {k : Nat} {aTable : Addr} (Fn : Fun K "square" "Table.square" (inClass (topS 16) 2) f fd) (TX : Txt_Table K aTable) (G_length_by : Df P w K mg base Tq k "length_by" ["sums", "begin", "end"] spLenBy) : FnG P w K mg base Tq (k + 1) f fd ["self", "begin", "end"] (spSquare aTable) := by
  refine fn_g Fn sc_Table_square (fun ts Q E h => ?_) fun cdv A outer s H E Z ts QT ET hr hgd hp tk h => ?_
  · obtain ⟨a, wd, ws, m, pc, pb, b, e, rfl, W, hb, he, q⟩ := h; rfl
  · obtain ⟨a, wd, ws, m, pc, pb, b, e, rfl, W, hb, he, q⟩ := h
    have hl := ln_bd W hb he
    have w1 := W.w1
    have w2 := W.w2
    -- line 67
    refine wss_one (ws_ret (w_bin dop_pow (w_bin dop_sub (w_fld (w_var 0 ⟨rfl, ⟨TX.cl, TX.n_wide⟩, (w_fn G_length_by hr hgd ⟨rfl, (w_fld (w_var 0 ⟨rfl, ⟨TX.cl, TX.n_sums⟩, ⟨rfl, (w_var 1 ⟨rfl, (w_var 2 ⟨_, _, _, rfl, (by first | assumption | omega | decide), (by first | assumption | omega | decide), ⟨rfl, rfl, (w_int ⟨rfl, rfl, (.inl ⟨by decide, by decide, by omega⟩), ?_⟩)⟩⟩)⟩)⟩⟩))⟩)⟩)))))
    exact ⟨rfl, q⟩
abbrev N_Table_way : List Str := ["self", "place", "found"]
theorem sc_Table_way : FnScope N_Table_way ["self", "place"] (defScope (inClass (topS 16) 3)) := ⟨rfl, rfl, rfl, by decide +kernel, rfl, by decide +kernel, by decide +kernel⟩
theorem g_Table_way {f : Addr} {fd : FuncData} {k : Nat} {aTable : Addr} (Fn : Fun K "way" "Table.way" (inClass (topS 16) 3) f fd) (TX : Txt_Table K aTable) (m_reversed : mg "reversed" = none) (m_tuple : mg "tuple" = none) : FnG P w K mg base Tq (k + 1) f fd ["self", "place"] (spWay aTable) := by
  refine fn_g Fn sc_Table_way (fun ts Q E h => ?_) fun cdv A outer s H E Z ts QT ET hr hgd hp tk h => ?_
  · obtain ⟨a, wd, ws, pc, pb, e, rfl, W, he, q⟩ := h; rfl
  · obtain ⟨a, wd, ws, pc, pb, e, rfl, W, he, q⟩ := h
    -- line 70
    refine wss_cons (ws_set 2 (w_lst ⟨(by first | decide | (simp only [List.length_append, List.length_map, List.length_cons, List.length_nil, List.length_singleton, List.length_replicate, List.length_range, List.length_take, List.length_drop, List.length_dropLast, List.length_reverse, Bool.false_eq_true, eq_self, reduceIte, sizeLine_eq]; omega)), fun p1 => ⟨Nat.lt_of_sub_eq_succ rfl, ?_⟩⟩) sc_Table_way.nd)
    let Iv : Nat → QL.Env → Prop := fun m1 en => m1 ≤ e ∧ ∃ fs, way wd ws e = way wd ws m1 ++ fs.reverse ∧ fs.length + m1 ≤ e ∧ en = [some (.ins a aTable (tabF wd ws ws.length pc pb)), some (.va (.int m1)), some (.lst p1 (nDs fs))]
    -- line 71
    refine wss_cons (ws_while Iv e ⟨Nat.le_refl e, [], (by simp), (by simp), rfl⟩ ?step hp)
    case step =>
      rintro m1 en ⟨hm, fs, hb, hn, rfl⟩
      have hlen := W.len
      refine (wt_cmp dop_gt (w_var 1 (w_int ⟨rfl, rfl, _, rfl, ⟨fun h => ?_, fun h => ?_⟩⟩)))
      · have h0 : 0 < m1 := by have := of_decide_eq_true h; omega
        obtain ⟨c1, c2, c3, _, _⟩ := CB_at W h0 (by omega)
        have ha : atI (nDs (bsL wd ws ws.length)) (m1 : Int) = some (.int (B wd ws m1)) := by
          refine atI_nat ?_
          unfold bsL
          simp [nDs, List.getElem?_range (show m1 < ws.length + 1 by omega)]
        -- line 72
        refine wss_cons (ws_expr (w_append (w_var 2 ⟨_, _, _, _, rfl, rfl, (w_var 1 ⟨_, _, rfl, rfl, (by simp only [List.length_append, List.length_map, List.length_cons, List.length_nil, List.length_singleton, List.length_replicate, List.length_range, List.length_take, List.length_drop, List.length_dropLast, List.length_reverse, Bool.false_eq_true, eq_self, reduceIte, sizeLine_eq]; omega), ?_⟩)⟩)))
        -- line 73
        refine wss_one (ws_set 1 (w_ix (w_fld (w_var 0 ⟨rfl, ⟨TX.cl, TX.n_befores⟩, (w_var 1 ⟨rfl, rfl, _, ha, ⟨Nat.lt_of_sub_eq_succ rfl, ?_⟩⟩)⟩))) sc_Table_way.nd)
        refine ⟨B wd ws m1, c1, by omega, fs ++ [m1], ?_, ?_, ?_⟩
        · rw [hb, way_step W h0 (by omega)]; simp
        · simp only [List.length_append, List.length_singleton]; omega
        · simp only [nDs, List.map_append]; rfl
      · have h0 : m1 = 0 := by have := of_decide_eq_false h; omega
        subst h0
        -- line 74
        refine wss_one (ws_ret (w_tupRev rfl m_tuple m_reversed (w_var 2 ⟨rfl, _, rfl, ?_⟩)))
        have e1 : (nDs fs).reverse = nDs (way wd ws e) := by rw [hb, way0, List.nil_append]; simp [nDs]
        rw [e1]
        exact ⟨rfl, q⟩
abbrev N_Table_last_start : List Str := ["self", "count", "begin"]
theorem sc_Table_last_start : FnScope N_Table_last_start ["self"] (defScope (inClass (topS 16) 4)) := ⟨rfl, rfl, rfl, by decide +kernel, rfl, by decide +kernel, by decide +kernel⟩
theorem g_Table_last_start {f : Addr} {fd : FuncData} {k : Nat} {aTable : Addr} (Fn : Fun K "last_start" "Table.last_start" (inClass (topS 16) 4) f fd) (TX : Txt_Table K aTable) (M_begins : Mf P w K mg base Tq k aTable "begins" ["self", "end"] (spBegins aTable)) (m_len : mg "len" = none) (m_min : mg "min" = none) : FnG P w K mg base Tq (k + 1) f fd ["self"] (spLast aTable) := by
  refine fn_g Fn sc_Table_last_start (fun ts Q E h => ?_) fun cdv A outer s H E Z ts QT ET hr hgd hp tk h => ?_
  · obtain ⟨a, wd, ws, pc, pb, rfl, W, q⟩ := h; rfl
  · obtain ⟨a, wd, ws, pc, pb, rfl, W, q⟩ := h
    have hu := room110 hr
    have hlen := W.len
    have hcs : (iDs (csL wd ws ws.length)).length = ws.length + 1 := by rw [List.length_map, csL_len]
    -- line 77
    refine wss_cons (ws_set 1 (w_bin dop_sub (w_callB dc_len m_len rfl ⟨rfl, (w_fld (w_var 0 ⟨rfl, ⟨TX.cl, TX.n_costs⟩, ⟨rfl, (w_int ⟨rfl, rfl, ⟨Nat.lt_of_sub_eq_succ rfl, ?_⟩⟩)⟩⟩))⟩)) sc_Table_last_start.nd)
    rw [hcs, show (((ws.length + 1 : Nat) : Int) - 1) = (ws.length : Int) by omega]
    -- line 78
    refine wss_cons (ws_if (wt_cmp (dop_eq (room64 hr)) (w_var 1 (w_int ⟨rfl, rfl, _, rfl, ⟨fun h => ?_, fun h => ?_⟩⟩))))
    · have h0 : ws.length = 0 := by have := of_decide_eq_true h; omega
      -- line 79
      refine wss_one (ws_ret (w_int ?_))
      have e1 : LS wd ws = 0 := by unfold LS; rw [if_pos h0]
      rw [e1] at q
      exact ⟨rfl, q⟩
    · refine wss_nil ?_
      have h0 : 0 < ws.length := by have := of_decide_eq_false h; omega
      obtain ⟨l1, l2, l3, l4⟩ := LS_at W h0
      obtain ⟨x, xs, m1, m2, m3, m4, m5⟩ := min_pairs (f := C wd ws) (bg_ne W h0 (Nat.le_refl _))
      have hbl := bg_len (wd := wd) (ws := ws) (e := ws.length)
      -- line 80
      refine wss_one (ws_ret (w_neg (w_ix (w_callB (dc_minL rfl hu) m_min rfl ⟨rfl, (w_lc (own := [("begin", 2)]) rfl sc_Table_last_start.nd (blkOk_by (N := N_Table_last_start) (sc := defScope (inClass (topS 16) 4)) (by decide +kernel)) (fun _ _ _ _ _ => pg_name (i := 2) sc_Table_last_start.nd rfl (by first | exact Or.inl rfl | exact Or.inr rfl)) (gok_name 2) (by decide) (wi_list (w_meth M_begins hr hgd (w_var 0 ⟨⟨rfl, rfl, rfl⟩, ⟨rfl, (w_var 1 ⟨rfl, ⟨_, _, _, _, _, _, _, rfl, (by first | assumption | omega | decide), (by first | assumption | omega | decide), fun p_1 => ⟨rfl, rfl, (lc_map fm_name (fun (b : Nat) => PyData.int b) (bg wd ws ws.length) (fun (b : Nat) => PyData.tuple [.int (C wd ws b), .int (-(b : Int))]) _ rfl (rfl) (by simp only [sizeLine_eq]; omega) (fun k2 b hx => by have hm := (bg_mem W (Nat.le_refl _)).mp (List.mem_of_getElem? hx); exact ⟨Nat.lt_of_sub_eq_succ rfl, fun s2 H2 C2 cl2 fp2 => (w_tup ⟨rfl, (w_ix (w_fld (w_var 0 ⟨rfl, ⟨TX.cl, TX.n_costs⟩, (w_var 2 ⟨rfl, rfl, _, (csL_at (by omega)), ⟨rfl, (w_neg (w_var 2 ⟨rfl, ⟨(by first | decide | (simp only [List.length_append, List.length_map, List.length_cons, List.length_nil, List.length_singleton, List.length_replicate, List.length_range, List.length_take, List.length_drop, List.length_dropLast, List.length_reverse, Bool.false_eq_true, eq_self, reduceIte, sizeLine_eq]; omega)), ⟨rfl, rfl⟩⟩⟩))⟩⟩)⟩)))⟩)⟩) (fun p1 => ⟨rfl, ⟨_, _, _, (.inl (congrArg (fun z => [PyData.list z]) m1)), m3, m4, m5, (m2.trans (congrArg pD l3)), (w_int ⟨rfl, rfl, _, rfl, ⟨rfl, ?_⟩⟩)⟩⟩))⟩⟩⟩)⟩⟩))))⟩))))
      have e1 : - (-(LS wd ws : Int)) = (LS wd ws : Int) := by omega
      refine ⟨rfl, ?_⟩
      show QT (.va (.int (- (-(LS wd ws : Int))))) _
      rw [e1]
      exact q
end
end K26

namespace K26
open PySem PySem.Spec PyProof.Rows L2 QL
open LM
def spBest : Spc := fun ts QT _ => ∃ (wd : Int) (ws : List Int), ts = [.va (.int wd), .va (.tuple (iDs ws))] ∧ Wd wd ws ∧ QT (.va (.tuple (nDs (bestLay wd ws)))) [none, none]
theorem words_shaped {wd : Int} {ws : List Int} (W : Wd wd ws) : SeqAt.shaped (.tuple (iDs ws)) = true := by
  refine shaped_sm ?_ ?_
  · simp only [smallD]
    refine iDs_small fun x hx => ?_
    have := W.wrd x hx
    have := W.w2
    have b : (1000000000 : Nat) < 2 ^ 200 := by decide
    omega
  · simp only [PyData.depth, iDs_depth]; omega
theorem eqv_nil (ws : List Int) : PyData.eqv (.tuple (iDs ws)) (.tuple []) = decide (ws.length = 0) := by
  cases ws with
  | nil => rfl
  | cons x xs => rfl
theorem LS_way {wd : Int} {ws : List Int} (h : ws.length ≠ 0) : nDs (way wd ws (LS wd ws)) ++ [PyData.int (ws.length : Int)] = nDs (bestLay wd ws) := by
  unfold bestLay; rw [if_neg h]; simp [nDs]
theorem way_len {wd : Int} {ws : List Int} (W : Wd wd ws) {e : Nat} (h : e ≤ ws.length) : (nDs (way wd ws e)).length ≤ 1000 := by
  have h1 := (way_lay W e h).1.len
  have h2 := W.len
  rw [List.length_map]; omega
section
variable {P : Program} {w : World} {K : PySem.W.Frag} {mg : Str → Option Value} {base : Heap} {Tq : List (Addr × Str)}
abbrev N_Table___init__ : List Str := ["self", "width", "text", "end", "least", "before", "at"]
theorem sc_Table___init__ : FnScope N_Table___init__ ["self", "width", "text"] (defScope (inClass (topS 16) 0)) := ⟨rfl, rfl, rfl, by decide +kernel, rfl, by decide +kernel, by decide +kernel⟩
theorem g_Table___init__ {f : Addr} {fd : FuncData} {k : Nat} {aTable : Addr} (Fn : Fun K "__init__" "Table.__init__" (inClass (topS 16) 0) f fd) (TX : Txt_Table K aTable) (G_sums_of : Df P w K mg base Tq k "sums_of" ["text"] spSums) (M_begins : Mf P w K mg base Tq k aTable "begins" ["self", "end"] (spBegins aTable)) (M_square : Mf P w K mg base Tq k aTable "square" ["self", "begin", "end"] (spSquare aTable)) (m_len : mg "len" = none) (m_min : mg "min" = none) (m_range : mg "range" = none) : FnG P w K mg base Tq (k + 1) f fd ["self", "width", "text"] (spInit aTable) := by
  refine fn_g Fn sc_Table___init__ (fun ts Q E h => ?_) fun cdv A outer s H E Z ts QT ET hr hgd hp tk h => ?_
  · obtain ⟨a, wd, ws, rfl, W, q⟩ := h; rfl
  · obtain ⟨a, wd, ws, rfl, W, q⟩ := h
    have hu := room110 hr
    have hlen := W.len
    -- line 50
    refine wss_cons (ws_fld 0 (w_var 1 ⟨⟨TX.cl, TX.n_wide, Nat.lt_of_sub_eq_succ rfl⟩, ?_⟩))
    -- line 51
    refine wss_cons (ws_fld 0 (w_fn G_sums_of hr hgd ⟨rfl, (w_var 2 ⟨_, rfl, (by first | assumption | omega | decide), ⟨⟨TX.cl, TX.n_sums, Nat.lt_of_sub_eq_succ rfl⟩, ?_⟩⟩)⟩))
    -- line 52
    refine wss_cons (ws_fld 0 (w_lst ⟨rfl, (w_int ⟨(by first | decide | (simp only [List.length_append, List.length_map, List.length_cons, List.length_nil, List.length_singleton, List.length_replicate, List.length_range, List.length_take, List.length_drop, List.length_dropLast, List.length_reverse, Bool.false_eq_true, eq_self, reduceIte, sizeLine_eq]; omega)), fun p1 => ⟨⟨TX.cl, TX.n_costs, Nat.lt_of_sub_eq_succ rfl⟩, ?_⟩⟩)⟩))
    -- line 53
    refine wss_cons (ws_fld 0 (w_lst ⟨rfl, (w_int ⟨(by first | decide | (simp only [List.length_append, List.length_map, List.length_cons, List.length_nil, List.length_singleton, List.length_replicate, List.length_range, List.length_take, List.length_drop, List.length_dropLast, List.length_reverse, Bool.false_eq_true, eq_self, reduceIte, sizeLine_eq]; omega)), fun p2 => ⟨⟨TX.cl, TX.n_befores, Nat.lt_of_sub_eq_succ rfl⟩, ?_⟩⟩)⟩))
    have hs : (((iDs (sumsF 0 ws)).length : Nat) : Int) = (ws.length : Int) + 1 := by rw [List.length_map, sumsF_len]; omega
    -- line 54
    refine wss_one (ws_for hp rfl (pg_name (i := 3) sc_Table___init__.nd rfl (by first | exact Or.inl rfl | exact Or.inr rfl)) (gok_name 3) (wi_range2 m_range ⟨rfl, (w_int ⟨rfl, (w_callB dc_len m_len rfl ⟨rfl, (w_fld (w_var 0 ⟨rfl, ⟨TX.cl, TX.n_sums⟩, ⟨rfl, ⟨rfl, rfl, ⟨by omega, by omega, by omega, by omega⟩, ?_⟩⟩⟩))⟩)⟩)⟩))
    rw [show ((((iDs (sumsF 0 ws)).length : Nat) : Int) - 1).toNat = ws.length by rw [hs]; omega]
    refine ⟨fun j e => ∃ o3 o4 o5, e = [some (.ins a aTable (tabF wd ws j p1 p2)), some (.va (.int wd)), some (.va (.tuple (iDs ws))), o3, o4, o5, none], ⟨none, none, none, rfl⟩, ?_, ?_⟩
    · rintro j x e hd ⟨o3, o4, o5, rfl⟩
      obtain ⟨rfl, hj⟩ := rangeD_at hd
      rw [show ((1 : Int) + (j : Int)) = ((j + 1 : Nat) : Int) by omega]
      obtain ⟨c1, c2, c3, c4, c5⟩ := CB_at W (e := j + 1) (by omega) (by omega)
      obtain ⟨x, xs, m1, m2, m3, m4, m5⟩ := min_pairs (f := fun b => C wd ws b + sq wd ws b (j + 1)) (bg_ne W (e := j + 1) (by omega) (by omega))
      have hbl := bg_len (wd := wd) (ws := ws) (e := j + 1)
      refine ⟨Nat.lt_of_sub_eq_succ rfl, ?_⟩
      -- line 55
      refine wss_cons (ws_asg (pg_tup (by rfl) (pgs_cons (pg_name (i := 4) sc_Table___init__.nd rfl (by first | exact Or.inl rfl | exact Or.inr rfl)) (pgs_cons (pg_name (i := 5) sc_Table___init__.nd rfl (by first | exact Or.inl rfl | exact Or.inr rfl)) (pgs_nil)))) (gok_tup (gsok_cons (gok_name 4) (gsok_cons (gok_name 5) (gsok_nil)))) (w_callB (dc_minL rfl hu) m_min rfl ⟨rfl, (w_lc (own := [("at", 6)]) rfl sc_Table___init__.nd (blkOk_by (N := N_Table___init__) (sc := defScope (inClass (topS 16) 0)) (by decide +kernel)) (fun _ _ _ _ _ => pg_name (i := 6) sc_Table___init__.nd rfl (by first | exact Or.inl rfl | exact Or.inr rfl)) (gok_name 6) (by decide) (wi_list (w_meth M_begins hr hgd (w_var 0 ⟨⟨rfl, rfl, rfl⟩, ⟨rfl, (w_var 3 ⟨rfl, ⟨_, _, _, _, _, _, _, rfl, (by first | assumption | omega | decide), (by first | assumption | omega | decide), fun p_2 => ⟨rfl, rfl, (lc_map fm_name (fun (b : Nat) => PyData.int b) (bg wd ws (j + 1)) (fun (b : Nat) => PyData.tuple [.int (C wd ws b + sq wd ws b (j + 1)), .int (-(b : Int))]) _ rfl (rfl) (by simp only [sizeLine_eq]; omega) (fun k2 b hx => by have hm := (bg_mem W (e := j + 1) (by omega)).mp (List.mem_of_getElem? hx); exact ⟨Nat.lt_of_sub_eq_succ rfl, fun s2 H2 C2 cl2 fp2 => (w_tup ⟨rfl, (w_bin dop_add (w_ix (w_fld (w_var 0 ⟨rfl, ⟨TX.cl, TX.n_costs⟩, (w_var 6 ⟨rfl, rfl, _, (csL_at (by omega)), (w_meth M_square hr hgd (w_var 0 ⟨⟨rfl, rfl, rfl⟩, ⟨rfl, (w_var 6 ⟨rfl, (w_var 3 ⟨rfl, ⟨_, _, _, _, _, _, _, _, rfl, (by first | assumption | omega | decide), (by first | assumption | omega | decide), (by first | assumption | omega | decide), ⟨rfl, rfl, ⟨rfl, rfl, ⟨rfl, (w_neg (w_var 6 ⟨rfl, ⟨(by first | decide | (simp only [List.length_append, List.length_map, List.length_cons, List.length_nil, List.length_singleton, List.length_replicate, List.length_range, List.length_take, List.length_drop, List.length_dropLast, List.length_reverse, Bool.false_eq_true, eq_self, reduceIte, sizeLine_eq]; omega)), ⟨rfl, rfl⟩⟩⟩))⟩⟩⟩⟩⟩)⟩)⟩⟩))⟩)⟩))))⟩)⟩) (fun p3 => ⟨rfl, ⟨_, _, _, (.inl (congrArg (fun z => [PyData.list z]) m1)), m3, m4, m5, (m2.trans (congrArg pD c4)), ⟨_, rfl, rfl, ⟨Nat.lt_of_sub_eq_succ rfl, ⟨Nat.lt_of_sub_eq_succ rfl, ⟨rfl, ?_⟩⟩⟩⟩⟩⟩))⟩⟩⟩)⟩⟩))))⟩))
      have l1 := csL_len (wd := wd) (ws := ws) (m := j)
      have l2 := bsL_len (wd := wd) (ws := ws) (m := j)
      -- line 56
      refine wss_cons (ws_expr (w_append (w_fld (w_var 0 ⟨rfl, ⟨TX.cl, TX.n_costs⟩, ⟨_, _, _, _, rfl, rfl, (w_var 4 ⟨_, _, rfl, rfl, (by simp only [List.length_append, List.length_map, List.length_cons, List.length_nil, List.length_singleton, List.length_replicate, List.length_range, List.length_take, List.length_drop, List.length_dropLast, List.length_reverse, Bool.false_eq_true, eq_self, reduceIte, sizeLine_eq]; omega), ?_⟩)⟩⟩))))
      -- line 57
      refine wss_one (ws_expr (w_append (w_fld (w_var 0 ⟨rfl, ⟨TX.cl, TX.n_befores⟩, ⟨_, _, _, _, rfl, rfl, (w_neg (w_var 5 ⟨rfl, ⟨_, _, rfl, rfl, (by simp only [List.length_append, List.length_map, List.length_cons, List.length_nil, List.length_singleton, List.length_replicate, List.length_range, List.length_take, List.length_drop, List.length_dropLast, List.length_reverse, Bool.false_eq_true, eq_self, reduceIte, sizeLine_eq]; omega), ?_⟩⟩))⟩⟩))))
      refine ⟨some (.va (.int ((j + 1 : Nat) : Int))), some (.va (.int (C wd ws (j + 1)))), some (.va (.int (-(B wd ws (j + 1) : Int)))), ?_⟩
      show [some (T.ins a aTable [("wide", .va (.int wd)), ("sums", .va (.tuple (iDs (sumsF 0 ws)))), ("costs", .lst p1 (iDs (csL wd ws j) ++ [.int (C wd ws (j + 1))])), ("befores", .lst p2 (nDs (bsL wd ws j) ++ [.int (-(-(B wd ws (j + 1) : Int)))]))]), _, _, _, _, _, _] = _
      rw [csL_snoc, show (-(-(B wd ws (j + 1) : Int))) = (B wd ws (j + 1) : Int) by omega, bsL_snoc]
    · rintro e ⟨o3, o4, o5, rfl⟩
      rw [show (rangeD 1 ws.length).length = ws.length from rangeD_len _ _]
      exact ⟨rfl, q p1 p2⟩
abbrev N_best_layout : List Str := ["width", "text", "table"]
theorem sc_best_layout : FnScope N_best_layout ["width", "text"] (defScope (topS 17)) := ⟨rfl, rfl, rfl, by decide +kernel, rfl, by decide +kernel, by decide +kernel⟩
theorem g_best_layout {f : Addr} {fd : FuncData} {k : Nat} {aTable : Addr} (Fn : Fun K "best_layout" "best_layout" (topS 17) f fd) (M_last_start : Mf P w K mg base Tq k aTable "last_start" ["self"] (spLast aTable)) (M_way : Mf P w K mg base Tq k aTable "way" ["self", "place"] (spWay aTable)) (C_Table : Ck P w K mg base Tq k "Table" aTable ["self", "width", "text"] (spInit aTable)) (m_len : mg "len" = none) : FnG P w K mg base Tq (k + 2) f fd ["width", "text"] spBest := by
  have M_last_start := M_last_start.mono (Nat.le_succ k)
  have M_way := M_way.mono (Nat.le_succ k)
  refine fn_g Fn sc_best_layout (fun ts Q E h => ?_) fun cdv A outer s H E Z ts QT ET hr hgd hp tk h => ?_
  · obtain ⟨wd, ws, rfl, W, q⟩ := h; rfl
  · obtain ⟨wd, ws, rfl, W, q⟩ := h
    -- line 82
    refine wss_cons (ws_if (wt_cmp (dop_eq (room64 hr)) (w_var 1 (w_tup ⟨(by first | decide | (simp only [List.length_append, List.length_map, List.length_cons, List.length_nil, List.length_singleton, List.length_replicate, List.length_range, List.length_take, List.length_drop, List.length_dropLast, List.length_reverse, Bool.false_eq_true, eq_self, reduceIte, sizeLine_eq]; omega)), ⟨rfl, rfl, (words_shaped W), rfl, _, rfl, ⟨fun h => ?_, fun h => ?_⟩⟩⟩))))
    · have h0 : ws.length = 0 := by have h : PyData.eqv (.tuple (iDs ws)) (.tuple []) = true := h; rw [eqv_nil] at h; exact of_decide_eq_true h
      -- line 83
      refine wss_one (ws_ret (w_tup ⟨(by first | decide | (simp only [List.length_append, List.length_map, List.length_cons, List.length_nil, List.length_singleton, List.length_replicate, List.length_range, List.length_take, List.length_drop, List.length_dropLast, List.length_reverse, Bool.false_eq_true, eq_self, reduceIte, sizeLine_eq]; omega)), ?_⟩))
      have e1 : bestLay wd ws = [] := by unfold bestLay; rw [if_pos h0]
      rw [e1] at q
      exact q
    · refine wss_nil ?_
      have h0 : ws.length ≠ 0 := by have h : PyData.eqv (.tuple (iDs ws)) (.tuple []) = false := h; rw [eqv_nil] at h; exact of_decide_eq_false h
      have hls := LS_le W
      have hw := way_len W hls
      -- line 84
      refine wss_cons (ws_set 2 (w_make C_Table hr hgd ⟨rfl, (w_var 0 ⟨rfl, (w_var 1 fun pN1 => ⟨_, _, _, rfl, (by first | assumption | omega | decide), fun pc_1 pb_1 => ⟨rfl, rfl, ⟨Nat.lt_of_sub_eq_succ rfl, ?_⟩⟩⟩)⟩)⟩) sc_best_layout.nd)
      -- line 85
      refine wss_one (ws_ret (w_tupX ⟨rfl, (w_meth M_way hr hgd (w_var 2 ⟨⟨rfl, rfl, rfl⟩, ⟨rfl, (w_meth0 M_last_start hr hgd (w_var 2 ⟨⟨rfl, rfl, rfl⟩, ⟨rfl, ⟨_, _, _, _, _, rfl, (by first | assumption | omega | decide), ⟨rfl, rfl, ⟨rfl, ⟨_, _, _, _, _, _, rfl, (by first | assumption | omega | decide), (by first | assumption | omega | decide), ⟨rfl, rfl, ⟨rfl, (w_callB dc_len m_len rfl ⟨rfl, (w_var 1 ⟨rfl, ⟨(by show (nDs (way wd ws (LS wd ws)) ++ [PyData.int _]).length ≤ sizeLine; simp only [List.length_append, List.length_singleton, sizeLine_eq]; omega), ?_⟩⟩)⟩)⟩⟩⟩⟩⟩⟩⟩⟩))⟩⟩))⟩))
      show QT (.va (.tuple (nDs (way wd ws (LS wd ws)) ++ [PyData.int (((iDs ws).length : Nat) : Int)]))) [none, none]
      rw [List.length_map, LS_way h0]
      exact q
end
end K26

/-! LP: all layouts, found by going on from their beginnings. -/
namespace LM
open PySem
theorem Lay.pre {wd : Int} {ws : List Int} {ns : List Nat} {h : Nat} : ∀ {r : List Nat} {e : Nat}, Lay wd ws (ns ++ h :: r) e → ∃ l, Lay wd ws ns l ∧ l < h ∧ ln ws l h ≤ wd ∧ h ≤ e := fun {r} => by
  generalize hm : r.length = m
  induction m generalizing r with
  | zero =>
    intro e c
    have : r = [] := List.eq_nil_of_length_eq_zero hm
    subst this
    obtain ⟨rfl, l, h1, h2, h3⟩ := c.inv
    exact ⟨l, h1, h2, h3, Nat.le_refl _⟩
  | succ m ih =>
    intro e c
    rcases List.eq_nil_or_concat r with z | ⟨r', x, z⟩
    · subst z; cases hm
    · rw [List.concat_eq_append] at z
      subst z
      have e1 : ns ++ h :: (r' ++ [x]) = (ns ++ h :: r') ++ [x] := by simp
      rw [e1] at c
      obtain ⟨rfl, l, h1, h2, h3⟩ := c.inv
      obtain ⟨l', k1, k2, k3, k4⟩ := ih (r := r') (by simpa using hm) h1
      exact ⟨l', k1, k2, k3, by omega⟩
theorem Lay.uniq {wd : Int} {ws : List Int} {ns : List Nat} {l l' : Nat} (c : Lay wd ws ns l) (c' : Lay wd ws ns l') : l = l' := by rw [← c.last, ← c'.last]
def wgt (n : Nat) (wt : List (List Nat × Nat)) : Nat := (wt.map fun p => 2 ^ (n - p.2)).sum
theorem wgt_snoc (n : Nat) (wt : List (List Nat × Nat)) (p : List Nat × Nat) : wgt n (wt ++ [p]) = wgt n wt + 2 ^ (n - p.2) := by
  unfold wgt
  rw [List.map_append, List.sum_append]
  simp
abbrev tN (ns : List Nat) : PyData := .tuple (nDs ns)
/-- found and waiting -/
structure Fnd (wd : Int) (ws : List Int) (fs : List (List Nat)) (wt : List (List Nat × Nat)) : Prop where
  f : ∀ ns ∈ fs, Lay wd ws ns ws.length
  g : ∀ p ∈ wt, Lay wd ws p.1 p.2 ∧ p.2 ≤ ws.length
  all : ∀ ns, Lay wd ws ns ws.length → ns ∈ fs ∨ ∃ p ∈ wt, p.1 <+: ns
  le : fs.length + wgt ws.length wt ≤ 2 ^ ws.length
/-- the children so far of what was taken -/
structure Kid (wd : Int) (ws : List Int) (ns : List Nat) (l j : Nat) (wt0 wt : List (List Nat × Nat)) : Prop where
  old : ∀ p ∈ wt0, p ∈ wt
  g : ∀ p ∈ wt, p ∈ wt0 ∨ (Lay wd ws p.1 p.2 ∧ p.2 ≤ ws.length)
  new : ∀ h, l < h → h ≤ l + j → ln ws l h ≤ wd → (ns ++ [h], h) ∈ wt
  le : wgt ws.length wt + 2 ^ (ws.length - l - j) ≤ wgt ws.length wt0 + 2 ^ (ws.length - l)
theorem Kid.zero {wd : Int} {ws : List Int} {ns : List Nat} {l : Nat} {wt0 : List (List Nat × Nat)} : Kid wd ws ns l 0 wt0 wt0 :=
  ⟨fun _ h => h, fun _ h => .inl h, fun h h1 h2 _ => by omega, Nat.le_refl _⟩
theorem Kid.no {wd : Int} {ws : List Int} {ns : List Nat} {l j : Nat} {wt0 wt : List (List Nat × Nat)} (K : Kid wd ws ns l j wt0 wt) (hf : ¬ ln ws l (l + 1 + j) ≤ wd) : Kid wd ws ns l (j + 1) wt0 wt := by
  refine ⟨K.old, K.g, fun h h1 h2 h3 => ?_, ?_⟩
  · by_cases e : h = l + 1 + j
    · subst e; exact absurd h3 hf
    · exact K.new h h1 (by omega) h3
  · have := K.le
    have : 2 ^ (ws.length - l - (j + 1)) ≤ 2 ^ (ws.length - l - j) := Nat.pow_le_pow_right (by decide) (by omega)
    omega
theorem Fnd.next {wd : Int} {ws : List Int} {fs fs' : List (List Nat)} {ns : List Nat} {l : Nat} {wt0 wt : List (List Nat × Nat)} (F : Fnd wd ws fs (wt0 ++ [(ns, l)])) (K : Kid wd ws ns l (ws.length - l) wt0 wt) (hf : (l = ws.length ∧ fs' = fs ++ [ns]) ∨ (l ≠ ws.length ∧ fs' = fs)) :
    Fnd wd ws fs' wt ∧ wgt ws.length wt < wgt ws.length (wt0 ++ [(ns, l)]) := by
  have hc := F.g (ns, l) (List.mem_append_right _ (List.mem_singleton.mpr rfl))
  have hle := K.le
  have e0 : ws.length - l - (ws.length - l) = 0 := by omega
  rw [e0, Nat.pow_zero] at hle
  have hw := wgt_snoc ws.length wt0 (ns, l)
  have hF := F.le
  simp only at hw
  have sub : ∀ x, x ∈ fs → x ∈ fs' := fun x hx => by
    rcases hf with ⟨_, rfl⟩ | ⟨_, rfl⟩
    · exact List.mem_append_left _ hx
    · exact hx
  refine ⟨⟨fun x hx => ?_, fun p hp => ?_, fun ms hm => ?_, ?_⟩, by rw [hw]; omega⟩
  · rcases hf with ⟨e, rfl⟩ | ⟨_, rfl⟩
    · rcases List.mem_append.mp hx with z | z
      · exact F.f x z
      · rw [List.mem_singleton.mp z, ← e]; exact hc.1
    · exact F.f x hx
  · rcases K.g p hp with z | z
    · exact F.g p (List.mem_append_left _ z)
    · exact z
  · rcases F.all ms hm with z | ⟨p, hp, z⟩
    · exact .inl (sub _ z)
    · rcases List.mem_append.mp hp with y | y
      · exact .inr ⟨p, K.old p y, z⟩
      · rw [List.mem_singleton.mp y] at z
        obtain ⟨r, hr⟩ := z
        cases r with
        | nil =>
          rw [List.append_nil] at hr
          subst hr
          have := hm.uniq hc.1
          rcases hf with ⟨_, rfl⟩ | ⟨e, _⟩
          · exact .inl (List.mem_append_right _ (List.mem_singleton.mpr rfl))
          · exact absurd this.symm e
        | cons h r =>
          rw [← hr] at hm
          obtain ⟨l', k1, k2, k3, k4⟩ := hm.pre
          have := k1.uniq hc.1
          subst this
          exact .inr ⟨_, K.new h k2 (by omega) k3, ⟨r, by rw [← hr]; simp⟩⟩
  · rcases hf with ⟨e, rfl⟩ | ⟨_, rfl⟩
    · rw [List.length_append, List.length_singleton]; omega
    · omega
end LM

/-! LQ: least of rows of data, sorted tuples, what is shown. -/
namespace LM
open PySem QL
/-! ### sorted tuples -/
abbrev tI (xs : List Int) : PyData := .tuple (iDs xs)
theorem ne_self {x : Str} {Q : Prop} (h : (!decide (x = x)) = true) : Q := by simp at h
end LM

/-! LR: chains of lines, parts of texts, texts turned about. -/
namespace LM
open PySem
/-- lines from l to r -/
inductive Seg (wd : Int) (ws : List Int) : Nat → List Nat → Nat → Prop
  | nil {l : Nat} : Seg wd ws l [] l
  | cons {l h r : Nat} {ns : List Nat} : l < h → ln ws l h ≤ wd → Seg wd ws h ns r → Seg wd ws l (h :: ns) r
def sc (wd : Int) (ws : List Int) : Nat → List Nat → Int
  | _, [] => 0
  | l, h :: r => sq wd ws l h + sc wd ws h r
theorem Seg.app {wd : Int} {ws : List Int} {l m : Nat} {ns : List Nat} (a : Seg wd ws l ns m) : ∀ {ms : List Nat} {r : Nat}, Seg wd ws m ms r → Seg wd ws l (ns ++ ms) r := by
  induction a with
  | nil => exact fun h => h
  | cons h1 h2 _ ih => exact fun h => .cons h1 h2 (ih h)
theorem sc_app {wd : Int} {ws : List Int} : ∀ {ns : List Nat} {l : Nat} {ms : List Nat}, sc wd ws l (ns ++ ms) = sc wd ws l ns + sc wd ws (ns.getLastD l) ms
  | [], l, ms => by simp [sc]
  | h :: r, l, ms => by
    show sq wd ws l h + sc wd ws h (r ++ ms) = sq wd ws l h + sc wd ws h r + _
    rw [sc_app (ns := r) (l := h), List.getLastD_cons]
    omega
theorem Seg.last {wd : Int} {ws : List Int} {l r : Nat} {ns : List Nat} (a : Seg wd ws l ns r) : ns.getLastD l = r := by
  induction a with
  | nil => rfl
  | cons h1 h2 _ ih => rw [List.getLastD_cons]; exact ih
theorem Seg.le {wd : Int} {ws : List Int} {l r : Nat} {ns : List Nat} (a : Seg wd ws l ns r) : l ≤ r ∧ ns.length ≤ r - l := by
  induction a with
  | nil => exact ⟨Nat.le_refl _, Nat.zero_le _⟩
  | cons h1 h2 _ ih => exact ⟨by omega, by rw [List.length_cons]; omega⟩
theorem Seg.mem {wd : Int} {ws : List Int} {l r : Nat} {ns : List Nat} (a : Seg wd ws l ns r) : ∀ x ∈ ns, l < x ∧ x ≤ r := by
  induction a with
  | nil => intro x hx; cases hx
  | cons h1 h2 a ih =>
    intro x hx
    rcases List.mem_cons.mp hx with e | e
    · subst e; exact ⟨h1, a.le.1⟩
    · have := ih x e; omega
theorem Seg.inv {wd : Int} {ws : List Int} : ∀ {ns : List Nat} {l : Nat} {ms : List Nat} {r : Nat}, Seg wd ws l (ns ++ ms) r → Seg wd ws l ns (ns.getLastD l) ∧ Seg wd ws (ns.getLastD l) ms r
  | [], l, ms, r, a => ⟨.nil, a⟩
  | h :: t, l, ms, r, a => by
    have a' : Seg wd ws l (h :: (t ++ ms)) r := a
    cases a' with
    | cons h1 h2 b =>
      have := Seg.inv b
      rw [List.getLastD_cons]
      exact ⟨.cons h1 h2 this.1, this.2⟩
/-! ### lines of parts -/
theorem ln_sum (ws : List Int) {i j : Nat} (h : i ≤ j) (hj : j ≤ ws.length) : ln ws i j = ((ws.drop i).take (j - i)).sum + j - i - 1 := by
  unfold ln
  rw [sm_eq ws (j := i) (by omega), sm_eq ws hj]
  have e : ws.take j = ws.take i ++ (ws.drop i).take (j - i) := by
    have : j = i + (j - i) := by omega
    conv => lhs; rw [this, List.take_add]
  rw [e, List.sum_append]
  omega
theorem ln_take {ws : List Int} {m i j : Nat} (h : i ≤ j) (hj : j ≤ m) (hm : m ≤ ws.length) : ln (ws.take m) i j = ln ws i j := by
  rw [ln_sum ws h (by omega), ln_sum _ h (by rw [List.length_take]; omega), List.drop_take, List.take_take, Nat.min_eq_left (by omega)]
theorem ln_appL {ws vs : List Int} {i j : Nat} (h : i ≤ j) (hj : j ≤ ws.length) : ln (ws ++ vs) i j = ln ws i j := by
  have := ln_take (ws := ws ++ vs) (m := ws.length) h hj (by rw [List.length_append]; omega)
  rw [List.take_left] at this
  exact this.symm
theorem ln_rev {ws : List Int} {i j : Nat} (h : i ≤ j) (hj : j ≤ ws.length) : ln ws.reverse (ws.length - j) (ws.length - i) = ln ws i j := by
  rw [ln_sum ws h hj, ln_sum _ (by omega) (by rw [List.length_reverse]; omega)]
  have e : ((ws.reverse.drop (ws.length - j)).take (ws.length - i - (ws.length - j))).sum = ((ws.drop i).take (j - i)).sum := by
    rw [show ws.length - i - (ws.length - j) = j - i by omega]
    have e1 : ws.reverse.drop (ws.length - j) = (ws.take j).reverse := by
      rw [List.reverse_take]
    rw [e1, List.take_reverse, List.length_take, Nat.min_eq_left hj, show j - (j - i) = i by omega, List.drop_take, List.sum_reverse]
  rw [e]
  omega
theorem Wd.take {wd : Int} {ws : List Int} (W : Wd wd ws) (m : Nat) : Wd wd (ws.take m) := ⟨W.w1, W.w2, by rw [List.length_take]; have := W.len; omega, fun x hx => W.wrd x (List.mem_of_mem_take hx)⟩
theorem Wd.drop {wd : Int} {ws : List Int} (W : Wd wd ws) (m : Nat) : Wd wd (ws.drop m) := ⟨W.w1, W.w2, by rw [List.length_drop]; have := W.len; omega, fun x hx => W.wrd x (List.mem_of_mem_drop hx)⟩
theorem Wd.rev {wd : Int} {ws : List Int} (W : Wd wd ws) : Wd wd ws.reverse := ⟨W.w1, W.w2, by rw [List.length_reverse]; exact W.len, fun x hx => W.wrd x (List.mem_reverse.mp hx)⟩
theorem Wd.app {wd : Int} {ws vs : List Int} (W : Wd wd ws) (h : ws.length + vs.length ≤ 1000) (hv : ∀ x ∈ vs, 1 ≤ x ∧ x ≤ wd) : Wd wd (ws ++ vs) := ⟨W.w1, W.w2, by rw [List.length_append]; exact h, fun x hx => (List.mem_append.mp hx).elim (W.wrd x) (hv x)⟩
/-! ### the table of a text is that of each text that begins so -/
theorem bgF_congr {wd : Int} {ws vs : List Int} {e : Nat} (h : ∀ i, i < e → ln ws i e = ln vs i e) : ∀ m, m ≤ e → bgF wd ws e m = bgF wd vs e m
  | 0, _ => rfl
  | m + 1, hm => by
    show (if ln ws m e ≤ wd then m :: bgF wd ws e m else []) = (if ln vs m e ≤ wd then m :: bgF wd vs e m else [])
    rw [h m (by omega), bgF_congr h m (by omega)]
theorem bg_congr {wd : Int} {ws vs : List Int} {e : Nat} (h : ∀ i, i < e → ln ws i e = ln vs i e) : bg wd ws e = bg wd vs e := bgF_congr h e (Nat.le_refl e)
theorem best_congr {f g : Nat → Int} {bs : List Nat} (h : ∀ b ∈ bs, f b = g b) : best f bs = best g bs := by
  unfold best
  rw [List.map_congr_left (fun b hb => by rw [h b hb])]
theorem bgF_lt {wd : Int} {ws : List Int} {e : Nat} : ∀ {m b : Nat}, b ∈ bgF wd ws e m → b < m
  | 0, b, h => by cases h
  | m + 1, b, h => by
    have h : b ∈ (if ln ws m e ≤ wd then m :: bgF wd ws e m else []) := h
    split at h
    · rcases List.mem_cons.mp h with z | z
      · omega
      · have := bgF_lt z; omega
    · cases h
theorem tab_congr {wd : Int} {ws vs : List Int} : ∀ n, (∀ i j, i < j → j ≤ n → ln ws i j = ln vs i j) → tab wd ws n = tab wd vs n
  | 0, _ => rfl
  | n + 1, h => by
    have ih := tab_congr (wd := wd) n fun i j h1 h2 => h i j h1 (by omega)
    have e1 : bg wd ws (n + 1) = bg wd vs (n + 1) := bg_congr fun i hi => h i (n + 1) hi (Nat.le_refl _)
    have e2 : best (fun b => ((tab wd ws n).getD b (0, 0)).1 + sq wd ws b (n + 1)) (bg wd ws (n + 1)) = best (fun b => ((tab wd vs n).getD b (0, 0)).1 + sq wd vs b (n + 1)) (bg wd vs (n + 1)) := by
      rw [ih, e1]
      refine best_congr fun b hb => ?_
      unfold sq
      rw [h b (n + 1) (bgF_lt hb) (Nat.le_refl _)]
    show tab wd ws n ++ [((best (fun b => ((tab wd ws n).getD b (0, 0)).1 + sq wd ws b (n + 1)) (bg wd ws (n + 1))).1, (-(best (fun b => ((tab wd ws n).getD b (0, 0)).1 + sq wd ws b (n + 1)) (bg wd ws (n + 1))).2).toNat)] = tab wd vs n ++ [((best (fun b => ((tab wd vs n).getD b (0, 0)).1 + sq wd vs b (n + 1)) (bg wd vs (n + 1))).1, (-(best (fun b => ((tab wd vs n).getD b (0, 0)).1 + sq wd vs b (n + 1)) (bg wd vs (n + 1))).2).toNat)]
    rw [e2, ih]
theorem CB_congr {wd : Int} {ws vs : List Int} {n : Nat} (h : ∀ i j, i < j → j ≤ n → ln ws i j = ln vs i j) {e : Nat} (he : e ≤ n) : C wd ws e = C wd vs e ∧ B wd ws e = B wd vs e := by
  unfold C B
  rw [tab_congr e fun i j h1 h2 => h i j h1 (by omega)]
  exact ⟨rfl, rfl⟩
theorem wayN_congr {f g : Nat → Nat} {n : Nat} (h : ∀ e, e ≤ n → f e = g e) (hf : ∀ e, 0 < e → e ≤ n → f e < e) : ∀ k e, e ≤ n → wayN f k e = wayN g k e
  | 0, _, _ => rfl
  | k + 1, e, he => by
    show (if e = 0 then [] else wayN f k (f e) ++ [e]) = (if e = 0 then [] else wayN g k (g e) ++ [e])
    by_cases h0 : e = 0
    · rw [if_pos h0, if_pos h0]
    · rw [if_neg h0, if_neg h0, ← h e he, wayN_congr h hf k (f e) (by have := hf e (by omega) he; omega)]
theorem way_congr {wd : Int} {ws vs : List Int} (W : Wd wd ws) {n : Nat} (hn : n ≤ ws.length) (h : ∀ i j, i < j → j ≤ n → ln ws i j = ln vs i j) {e : Nat} (he : e ≤ n) : way wd ws e = way wd vs e :=
  wayN_congr (n := n) (fun e he => (CB_congr h he).2) (fun e h0 h1 => (CB_at W h0 (by omega)).1) e e he
def rvs (n : Nat) : Nat → List Nat → List Nat
  | _, [] => []
  | l, h :: t => rvs n h t ++ [n - l]
theorem Seg.rev {wd : Int} {ws : List Int} {l r : Nat} {ns : List Nat} (a : Seg wd ws l ns r) : r ≤ ws.length → Seg wd ws.reverse (ws.length - r) (rvs ws.length l ns) (ws.length - l) ∧ sc wd ws.reverse (ws.length - r) (rvs ws.length l ns) = sc wd ws l ns := by
  induction a with
  | nil => exact fun _ => ⟨.nil, rfl⟩
  | @cons l h r ns h1 h2 a ih =>
    intro hr
    have hle := a.le.1
    have e := ln_rev (ws := ws) (i := l) (j := h) (by omega) (by omega)
    obtain ⟨i1, i2⟩ := ih hr
    show Seg wd ws.reverse _ (rvs ws.length h ns ++ [ws.length - l]) _ ∧ sc wd ws.reverse _ (rvs ws.length h ns ++ [ws.length - l]) = _
    refine ⟨i1.app (.cons (by omega) (by rw [e]; exact h2) .nil), ?_⟩
    rw [sc_app, i1.last, i2]
    show sc wd ws h ns + (sq wd ws.reverse (ws.length - h) (ws.length - l) + 0) = sq wd ws l h + sc wd ws h ns
    unfold sq
    rw [e]
    omega
end LM

/-! LS: words of the width; parts of best layouts. -/
namespace LM
open PySem
theorem wide_line {wd : Int} {ws : List Int} (W : Wd wd ws) {i j : Nat} (hi : i + 1 < j) (hj : j ≤ ws.length) (h : ws[j - 1]? = some wd) : wd < ln ws i j := by
  have a := sm_mono W (i := i) (j := j - 1) (by omega) (by omega)
  have b := sm_succ ws (j := j - 1) (by omega)
  have e : ws[j - 1]'(by omega) = wd := (List.getElem?_eq_some_iff.mp h).2
  rw [show j - 1 + 1 = j by omega, e] at b
  unfold ln
  have := a.1
  have := W.w1
  omega
theorem Wd.snocW {wd : Int} {ws : List Int} (W : Wd wd ws) {x : Int} (h : ws.length + 1 ≤ 1000) (h1 : 1 ≤ x) (h2 : x ≤ wd) : Wd wd (ws ++ [x]) := W.app h fun y hy => by rw [List.mem_singleton.mp hy]; exact ⟨h1, h2⟩
/-- a word of the width behind -/
theorem LS_wide {wd : Int} {ws : List Int} (W : Wd wd ws) (h : ws.length + 1 ≤ 1000) : LS wd (ws ++ [wd]) = ws.length ∧ C wd (ws ++ [wd]) (LS wd (ws ++ [wd])) = C wd ws ws.length := by
  have W' := W.snocW h W.w1 (Int.le_refl wd)
  have hl : (ws ++ [wd]).length = ws.length + 1 := by simp
  obtain ⟨h1, h2, h3, h4⟩ := LS_at W' (by omega)
  have e : LS wd (ws ++ [wd]) = ws.length := by
    by_cases c : LS wd (ws ++ [wd]) = ws.length
    · exact c
    · exact absurd h2 (Int.not_le.mpr (wide_line W' (by omega) (Nat.le_refl _) (by rw [hl]; simp)))
  refine ⟨e, ?_⟩
  rw [e]
  exact (CB_congr (n := ws.length) (fun i j h1 h2 => ln_appL (by omega) h2) (Nat.le_refl _)).1
end LM

/-! LT: what is behind an end of a best layout; begins of a last line. -/
namespace LM
open PySem
theorem Seg.up {wd : Int} {ws vs : List Int} {d n : Nat} (hq : ∀ i j, i < j → j + d ≤ n → ln vs i j = ln ws (i + d) (j + d)) {l r : Nat} {ns : List Nat} (c : Seg wd vs l ns r) : r + d ≤ n → Seg wd ws (l + d) (ns.map (· + d)) (r + d) ∧ sc wd ws (l + d) (ns.map (· + d)) = sc wd vs l ns := by
  induction c with
  | nil => exact fun _ => ⟨.nil, rfl⟩
  | @cons l h e ns g1 g2 c ih =>
    intro he
    have hle := c.le.1
    have q := hq l h g1 (by omega)
    obtain ⟨i1, i2⟩ := ih he
    show Seg wd ws (l + d) ((h + d) :: ns.map (· + d)) (e + d) ∧ _
    refine ⟨.cons (by omega) (by rw [← q]; exact g2) i1, ?_⟩
    show sq wd ws (l + d) (h + d) + sc wd ws (h + d) (ns.map (· + d)) = sq wd vs l h + sc wd vs h ns
    rw [i2]
    unfold sq
    rw [q]
open L2 QL in
theorem cut_from {α : Type} (f : α → PyData) (xs : List α) (i : Nat) (hi : i ≤ xs.length) : cutD (xs.map f) (some (i : Int)) none = (xs.drop i).map f := by
  rw [QL.cutD_map]
  have h1 : HT.sIx xs.length xs.length none = xs.length := rfl
  rw [h1, HT.sIx_nat, Nat.min_eq_left hi, List.take_of_length_le (by rw [List.length_drop]; omega)]
end LM

namespace K26
open PySem PySem.Spec PyProof.Rows L2 QL
open LM
theorem sc9 : FnScope ["_law_script", "_law_k", "_law_cell", "_law_own"] ["_law_script", "_law_k"] (defScope (topS 38)) := ⟨rfl, rfl, rfl, by decide +kernel, rfl, by decide +kernel, by decide +kernel⟩
theorem sc10 : FnScope ["_law_pot_here", "_law_many", "_law_digit", "_law_prime", "_law_mixed"] ["_law_pot_here", "_law_many"] (defScope (topS 39)) := ⟨rfl, rfl, rfl, by decide +kernel, rfl, by decide +kernel, by decide +kernel⟩
theorem sc11 : FnScope ["_law_pot_here", "_law_some"] ["_law_pot_here", "_law_some"] (defScope (topS 40)) := ⟨rfl, rfl, rfl, by decide +kernel, rfl, by decide +kernel, by decide +kernel⟩
section
variable {P : Program} {w : World} {K : PySem.W.Frag} {mg : Str → Option Value} {base : Heap} {Tq : List (Addr × Str)}
/-- the pot's state -/
def PotOk (n : Int) (a b c : Int) : Prop := 0 ≤ a ∧ (0 ≤ b ∧ b < 2305843009213693951) ∧ 0 ≤ c ∧ c ≤ n
theorem PotOk.le {n m a b c : Int} (h : PotOk n a b c) (l : n ≤ m) : PotOk m a b c := ⟨h.1, h.2.1, h.2.2.1, Int.le_trans h.2.2.2 l⟩
abbrev potD (a b c : Int) : List D := [.int a, .int b, .int c]
def spPot (K : PySem.W.Frag) : Spc := fun ts QT _ => ∃ (a : Addr) (ns : List Int) (i : Int), ts = [scT K a ns, .va (.int i)] ∧ (0 ≤ i ∧ i ≤ 100) ∧ ns.length ≤ 63 ∧ ∀ p x y, PotOk 0 x y 0 → QT (.lst p (potD x y 0)) [some (scT K a ns), none]
theorem bits60 : CPowQ (10 ^ 50) 8 := .inr ⟨by decide, by decide +kernel⟩
theorem g_pot {f : Addr} {fd : FuncData} {k : Nat} (Fn : Fun K "_law_pot" "_law_pot" (topS 38) f fd) (m_len : mg "len" = none) (m_abs : mg "abs" = none) (m_int : mg "int" = none) : FnG P w K mg base Tq (k + 1) f fd ["_law_script", "_law_k"] (spPot K) := by
  refine fn_g Fn sc9 (fun ts Q E h => ?_) fun cdv A outer s H E Z ts QT ET hr hgd hp tk h => ?_
  · obtain ⟨a, ns, i, rfl, _⟩ := h
    rfl
  · obtain ⟨a, ns, i, rfl, hi, hl, q⟩ := h
    have rest : ∀ m : Int, WSs Z (BX P w K mg base ["_law_script", "_law_k", "_law_cell", "_law_own"] "_law_pot" (topS 38) f cdv A outer s H E) ((defBody (topS 38)).drop 2) [some (scT K a ns), some (.va (.int i)), some (.va (.int m)), none] (finP QT [scT K a ns, .va (.int i)]) := fun m => by
      refine wss_cons (ws_set 3 (w_bin dop_mul (w_bin dop_mod (w_callB dc_abs m_abs rfl ⟨rfl, (w_var 2 (⟨rfl, (w_bin dop_pow (w_bin dop_pow (w_int ((w_int (⟨rfl, rfl, ?pow1, (w_int (⟨rfl, rfl, ?pow2, ⟨rfl, rfl, ?mod3, (w_callTy dc_int m_int rfl ⟨rfl, (w_cmp dop_ge (w_callB dc_abs m_abs rfl ⟨rfl, (w_var 2 (⟨rfl, (w_bin dop_pow (w_int ((w_int (⟨rfl, rfl, ?pow4, ⟨rfl, rfl, ⟨rfl, ⟨rfl, rfl, ?mul5, ⟨Nat.lt_of_sub_eq_succ rfl, ?nx6⟩⟩⟩⟩⟩)))))⟩))⟩))⟩)⟩⟩))⟩))))))⟩))⟩))) sc9.nd)
      case pow1 => exact .inl ⟨by decide, by decide, by decide⟩
      case pow2 => exact bits60
      case mod3 => exact of_decide_eq_true (p := (0 : Int) < (10 ^ (50 : Int).toNat) ^ (8 : Int).toNat) (by decide +kernel)
      case pow4 => exact .inl ⟨by decide, by decide, by decide⟩
      case mul5 => exact cmul_r (by split <;> decide) (by split <;> decide)
      case nx6 =>
        refine wss_one (ws_ret (w_lst ⟨rfl, (w_var 3 (⟨rfl, (w_bin dop_mod (w_bin dop_add (w_bin dop_add (w_bin dop_mul (w_bin dop_mod (w_var 2 ((w_int (⟨rfl, rfl, ?mod1, (w_int (⟨rfl, rfl, ?mul2, (w_bin dop_mul (w_bin dop_mul (w_int ((w_var 1 (⟨rfl, rfl, ?mul3, (w_var 1 (⟨rfl, rfl, ?mul4, ⟨rfl, rfl, (w_int (⟨rfl, rfl, (w_int (⟨rfl, rfl, ?mod5, ⟨rfl, (w_int (⟨?sz6, fun p => ?ret7⟩))⟩⟩))⟩))⟩⟩))⟩))))))⟩))⟩)))))))))⟩))⟩))
        case mod1 => exact (by decide : (0 : Int) < 2305843009213693951)
        case mul2 => exact cmul_r (by decide) (by decide)
        case mul3 => exact cmul_l (by decide) (by decide)
        case mul4 => exact cmul_r (by omega) (by omega)
        case mod5 => exact (by decide : (0 : Int) < 2305843009213693921)
        case sz6 => exact Nat.le_of_lt (small2000 (n := 3) (by decide))
        case ret7 =>
          refine ⟨rfl, q p _ _ ⟨?_, ⟨Int.emod_nonneg _ (by decide), ?_⟩, Int.le_refl 0, Int.le_refl 0⟩⟩
          · refine Int.mul_nonneg (Int.emod_nonneg _ (by decide +kernel)) (by split <;> decide)
          · exact Int.lt_trans (Int.emod_lt_of_pos _ (by decide)) (by decide)
    refine wss_cons (ws_set 2 (w_bin dop_add (w_bin dop_mul (w_int (w_var 1 ⟨rfl, rfl, cmul_l (by decide) (by decide), (w_int ⟨rfl, rfl, ⟨Nat.lt_of_sub_eq_succ rfl, ?_⟩⟩)⟩)))) sc9.nd)
    refine wss_cons (ws_if (wt_cmp dop_lt (w_var 1 (w_scLen 0 m_len rfl ⟨rfl, rfl, ⟨_, rfl, fun h => ?_, fun h => ?_⟩⟩))))
    · have h1 : i < ns.length := of_decide_eq_true h
      have e : ns[i.toNat]? = some ns[i.toNat] := List.getElem?_eq_getElem (by omega)
      have ei : i = ((i.toNat : Nat) : Int) := by omega
      exact wss_one (ws_set 2 (w_scIx 0 1 (m := ns[i.toNat]) rfl rfl ((congrArg (atI ns) ei).trans (atI_nat e)) ⟨Nat.lt_of_sub_eq_succ rfl, rest _⟩) sc9.nd)
    · exact wss_nil (rest _)
def spTake : Spc := fun ts QT _ => ∃ (p : Addr) (n a b c u : Int), ts = [.lst p (potD a b c), .va (.int u)] ∧ PotOk n a b c ∧ n ≤ 1000000 ∧ (0 < u ∧ u ≤ 1000000000000) ∧ ∀ a' b' c' d, PotOk (n + 1) a' b' c' → 0 ≤ d → d < u → QT (.va (.int d)) [some (.lst p (potD a' b' c')), none]
theorem ix5 (m : Int) : ∃ d, atI [PyData.int 2147483647, .int 2147483629, .int 2147483587, .int 2147483579, .int 2147483563] (m % 5) = some (.int d) ∧ 0 < d ∧ d ≤ 2147483647 := by
  have h0 := Int.emod_nonneg m (b := 5) (by decide)
  have h1 := Int.emod_lt_of_pos m (b := 5) (by decide)
  have : m % 5 = 0 ∨ m % 5 = 1 ∨ m % 5 = 2 ∨ m % 5 = 3 ∨ m % 5 = 4 := by omega
  rcases this with e | e | e | e | e <;> rw [e] <;> exact ⟨_, rfl, by decide, by decide⟩
theorem g_take {f : Addr} {fd : FuncData} {k : Nat} (Fn : Fun K "_law_take" "_law_take" (topS 39) f fd) : FnG P w K mg base Tq (k + 1) f fd ["_law_pot_here", "_law_many"] spTake := by
  refine fn_g Fn sc10 (fun ts Q E h => ?_) fun cdv A outer s H E Z ts QT ET hr hgd hp tk h => ?_
  · obtain ⟨p, n, a, b, c, u, rfl, _⟩ := h
    rfl
  · obtain ⟨p, n, a, b, c, u, rfl, ⟨ha, ⟨hb0, hb⟩, hc0, hc⟩, hn, ⟨hu0, hu⟩, q⟩ := h
    refine wss_cons (ws_if (wt_cmp dop_gt (w_ix (w_var 0 ((w_int (⟨rfl, rfl, _, rfl, (w_int (⟨rfl, rfl, _, rfl, ⟨fun h => ?then2, fun h => ?else3⟩⟩))⟩)))))))
    case then2 =>
      refine wss_cons (ws_set 2 (w_bin dop_mod (w_ix (w_var 0 ((w_int (⟨rfl, rfl, _, rfl, (w_var 1 (⟨rfl, rfl, hu0, ⟨Nat.lt_of_sub_eq_succ rfl, ?nxa⟩⟩))⟩)))))) sc10.nd)
      refine wss_cons (ws_setix (w_bin dop_fdiv (w_ix (w_var 0 ((w_int (⟨rfl, rfl, _, rfl, (w_var 1 (⟨rfl, rfl, ⟨hu0, by omega⟩, (w_var 0 (⟨_, _, _, rfl, (w_int (⟨_, rfl, _, _, 0, rfl, rfl, rfl, ?nxb⟩))⟩))⟩))⟩)))))))
      refine wss_one (ws_ret (w_var 2 ?_))
      have ha' : 0 ≤ a / u := Int.ediv_nonneg ha (Int.le_of_lt hu0)
      exact ⟨rfl, q _ _ _ _ ⟨ha', ⟨hb0, hb⟩, hc0, by omega⟩ (Int.emod_nonneg _ (by omega)) (Int.emod_lt_of_pos _ hu0)⟩
    case else3 =>
      refine wss_nil ?_
      refine wss_cons (ws_setix (w_bin dop_add (w_ix (w_var 0 ((w_int (⟨rfl, rfl, _, rfl, (w_int (⟨rfl, rfl, (w_var 0 (⟨_, _, _, rfl, (w_int (⟨_, rfl, _, _, 2, rfl, rfl, rfl, ?nxc⟩))⟩))⟩))⟩)))))))
      obtain ⟨pr, hpr, hp0, hp1⟩ := ix5 (c + 1)
      refine wss_cons (ws_set 3 (w_ix (w_lst ⟨rfl, (w_int (⟨rfl, (w_int (⟨rfl, (w_int (⟨rfl, (w_int (⟨rfl, (w_int (⟨Nat.le_of_lt (small2000 (n := 5) (by decide)), fun p => (w_bin dop_mod (w_ix (w_var 0 ((w_int (⟨rfl, rfl, _, rfl, (w_int (⟨rfl, rfl, (by decide : (0 : Int) < 5), ⟨rfl, rfl, _, hpr, ⟨Nat.lt_of_sub_eq_succ rfl, ?nxd⟩⟩⟩))⟩))))))⟩))⟩))⟩))⟩))⟩))⟩)) sc10.nd)
      refine wss_cons (ws_set 4 (w_bin dop_mod (w_bin dop_pow (w_bin dop_add (w_bin dop_add (w_ix (w_var 0 ((w_int (⟨rfl, rfl, _, rfl, (w_bin dop_mul (w_bin dop_mul (w_int ((w_ix (w_var 0 ((w_int (⟨rfl, rfl, _, rfl, ⟨rfl, rfl, ?mulA, (w_ix (w_var 0 ((w_int (⟨rfl, rfl, _, rfl, ⟨rfl, rfl, ?mulB, ⟨rfl, rfl, (w_int (⟨rfl, rfl, (w_int (⟨rfl, rfl, ?pow6, (w_var 3 (⟨rfl, rfl, hp0, ⟨Nat.lt_of_sub_eq_succ rfl, ?nx8⟩⟩))⟩))⟩))⟩⟩⟩)))))⟩⟩)))))))))⟩))))))))) sc10.nd)
      case mulA => exact cmul_l (by decide) (by decide)
      case mulB => exact cmul_r (by omega) (by omega)
      case pow6 =>
        have h1 : 97001 * (c + 1) * (c + 1) ≤ 97001 * 1000001 * 1000001 := Int.mul_le_mul (by omega) (by omega) (by omega) (by decide)
        have h2 : 0 ≤ 97001 * (c + 1) * (c + 1) := Int.mul_nonneg (by omega) (by omega)
        refine .inl ⟨by decide, by decide, ?_⟩
        have h3 : 0 ≤ b + 97001 * (c + 1) * (c + 1) + 31 := by omega
        have h4 : b + 97001 * (c + 1) * (c + 1) + 31 < 2 ^ 64 := by omega
        omega
      case nx8 =>
        have m0 := Int.emod_nonneg ((b + 97001 * (c + 1) * (c + 1) + 31) ^ (3 : Int).toNat) (b := pr) (by omega)
        have m1 := Int.emod_lt_of_pos ((b + 97001 * (c + 1) * (c + 1) + 31) ^ (3 : Int).toNat) hp0
        refine wss_one (ws_ret (w_bin dop_mod (w_bin dop_fdiv (w_bin dop_mod (w_bin dop_mul (w_var 4 ((w_bin dop_add (w_bin dop_mod (w_var 4 ((w_int (⟨rfl, rfl, (by decide : (0 : Int) < 10007), (w_bin dop_mul (w_int ((w_ix (w_var 0 ((w_int (⟨rfl, rfl, _, rfl, ⟨rfl, rfl, ?mul3, ⟨rfl, rfl, ⟨rfl, rfl, ?mul4, (w_int (⟨rfl, rfl, (by decide : (0 : Int) < 2305843009213693907), (w_int (⟨rfl, rfl, ⟨by decide, by decide⟩, (w_var 1 (⟨rfl, rfl, hu0, ?ret8⟩))⟩))⟩))⟩⟩⟩⟩))))))))⟩)))))))))))))
        case mul3 => exact cmul_l (by decide) (by decide)
        case mul4 => exact cmul_l (Int.lt_of_lt_of_le (by decide) m0) (Int.lt_trans m1 (Int.lt_of_le_of_lt hp1 (by decide)))
        case ret8 => exact ⟨rfl, q _ _ _ _ ⟨ha, ⟨hb0, hb⟩, by omega, by omega⟩ (Int.emod_nonneg _ (by omega)) (Int.emod_lt_of_pos _ hu0)⟩
/-- what a draw from some things gives -/
def spOf : Spc := fun ts QT _ => ∃ (p : Addr) (n a b c : Int) (ds : List D) (t2 : T) (r2 : Option T), ts = [.lst p (potD a b c), t2] ∧ ((t2 = .va (.list ds) ∧ r2 = none) ∨ ∃ q, t2 = .lst q ds ∧ r2 = some (.lst q ds)) ∧ PotOk n a b c ∧ n ≤ 1000000 ∧ (0 < ds.length ∧ ds.length ≤ 100000) ∧
  ∀ a' b' c' d, PotOk (n + 1) a' b' c' → d ∈ ds → QT (.va d) [some (.lst p (potD a' b' c')), r2]
theorem at_pos {ds : List D} {d : Int} (h0 : 0 ≤ d) (h1 : d < ds.length) : ∃ y, atI ds d = some y ∧ y ∈ ds := by
  have hl : d.toNat < ds.length := by omega
  have e : ds[d.toNat]? = some ds[d.toNat] := List.getElem?_eq_getElem hl
  have ed : d = ((d.toNat : Nat) : Int) := by omega
  exact ⟨_, (congrArg (atI ds) ed).trans (atI_nat e), List.getElem_mem hl⟩
theorem g_of {f : Addr} {fd : FuncData} {k : Nat} (Fn : Fun K "_law_of" "_law_of" (topS 40) f fd) (G__law_take : Df P w K mg base Tq (k + 1) "_law_take" ["_law_pot_here", "_law_many"] spTake) (m_len : mg "len" = none) : FnG P w K mg base Tq (k + 2) f fd ["_law_pot_here", "_law_some"] spOf := by
  refine fn_g Fn sc11 (fun ts Q E h => ?_) fun cdv A outer s H E Z ts QT ET hr hgd hp tk h => ?_
  · obtain ⟨p, n, a, b, c, ds, t2, r2, rfl, _⟩ := h
    rfl
  · obtain ⟨p, n, a, b, c, ds, t2, r2, rfl, h2, hpot, hn, ⟨hl0, hl⟩, q⟩ := h
    rcases h2 with ⟨rfl, rfl⟩ | ⟨z, rfl, rfl⟩
    · refine wss_one (ws_ret (w_ix (w_var 1 ((w_fn G__law_take hr hgd ⟨rfl, (w_var 0 (⟨rfl, (w_callB dc_len m_len rfl ⟨rfl, (w_var 1 (⟨rfl, ?call1⟩))⟩)⟩))⟩)))))
      refine ⟨rfl, p, n, a, b, c, (ds.length : Int), rfl, hpot, hn, ⟨by omega, by omega⟩, fun a' b' c' d hpot' h0 h1 => ?_⟩
      obtain ⟨y, hy, hm⟩ := at_pos h0 h1
      exact ⟨rfl, rfl, rfl, rfl, y, hy, rfl, q _ _ _ _ hpot' hm⟩
    · refine wss_one (ws_ret (w_ix (w_var 1 ((w_fn G__law_take hr hgd ⟨rfl, (w_var 0 (⟨rfl, (w_callB dc_len m_len rfl ⟨rfl, (w_var 1 (⟨rfl, ?call2⟩))⟩)⟩))⟩)))))
      refine ⟨rfl, p, n, a, b, c, (ds.length : Int), rfl, hpot, hn, ⟨by omega, by omega⟩, fun a' b' c' d hpot' h0 h1 => ?_⟩
      obtain ⟨y, hy, hm⟩ := at_pos h0 h1
      exact ⟨rfl, rfl, rfl, rfl, y, hy, rfl, rfl, q _ _ _ _ hpot' hm⟩
end
section
variable {P : Program} {w : World} {K : PySem.W.Frag} {mg : Str → Option Value} {base : Heap} {Tq : List (Addr × Str)}
def spOfI : Spc := fun ts QT _ => ∃ (p : Addr) (n a b c : Int) (xs : List Int) (lo hi : Int) (t2 : T) (r2 : Option T), ts = [.lst p (potD a b c), t2] ∧ ((t2 = .va (.list (iDs xs)) ∧ r2 = none) ∨ ∃ q, t2 = .lst q (iDs xs) ∧ r2 = some (.lst q (iDs xs))) ∧ PotOk n a b c ∧ n ≤ 1000000 ∧ (0 < xs.length ∧ xs.length ≤ 100000) ∧ (∀ x ∈ xs, lo ≤ x ∧ x ≤ hi) ∧
  ∀ a' b' c' x, PotOk (n + 1) a' b' c' → lo ≤ x → x ≤ hi → x ∈ xs → QT (.va (.int x)) [some (.lst p (potD a' b' c')), r2]
theorem g_ofI {f : Addr} {fd : FuncData} {k : Nat} (Fn : Fun K "_law_of" "_law_of" (topS 40) f fd) (G__law_take : Df P w K mg base Tq (k + 1) "_law_take" ["_law_pot_here", "_law_many"] spTake) (m_len : mg "len" = none) : FnG P w K mg base Tq (k + 2) f fd ["_law_pot_here", "_law_some"] spOfI :=
  (g_of Fn G__law_take m_len).weaken fun ts QT ET ⟨p, n, a, b, c, xs, lo, hi, t2, r2, e, h0, h1, h2, h3, h4, q⟩ => ⟨p, n, a, b, c, iDs xs, t2, r2, e, h0, h1, h2, by rw [List.length_map]; exact h3, fun a' b' c' d hp hm => by
    obtain ⟨x, hx, rfl⟩ := List.mem_map.mp hm
    exact q a' b' c' x hp (h4 x hx).1 (h4 x hx).2 hx⟩
end
end K26

namespace K26
open PySem PySem.Spec PyProof.Rows L2 QL
open LM
def Row (wd : Int) (ws : List Int) : Prop := ∀ x ∈ ws, 1 ≤ x ∧ x ≤ wd
def spDrawn : Spc := fun ts QT _ => ∃ (p : Addr) (n a b c mo ma : Int), ts = [.lst p (potD a b c), .va (.int mo), .va (.int ma)] ∧ PotOk n a b c ∧ n ≤ 900000 ∧ (1 ≤ mo ∧ mo ≤ 1000000000) ∧ (0 ≤ ma ∧ ma ≤ 1000) ∧
  ∀ a' b' c' ws, PotOk (n + 4 * ma + 4) a' b' c' → (ws.length : Int) ≤ ma → Row mo ws → QT (.va (.tuple (iDs ws))) [some (.lst p (potD a' b' c')), none, none]
theorem Row.snoc {wd x : Int} {ws : List Int} (h : Row wd ws) (h1 : 1 ≤ x) (h2 : x ≤ wd) : Row wd (ws ++ [x]) := fun y hy => (List.mem_append.mp hy).elim (h y) fun z => by rw [List.mem_singleton.mp z]; exact ⟨h1, h2⟩
theorem ix_of5 {a b c d e lo hi way : Int} (h0 : 0 ≤ way) (h1 : way < 5) (ha : lo ≤ a ∧ a ≤ hi) (hb : lo ≤ b ∧ b ≤ hi) (hc : lo ≤ c ∧ c ≤ hi) (hd : lo ≤ d ∧ d ≤ hi) (he : lo ≤ e ∧ e ≤ hi) : ∃ v, atI [PyData.int a, .int b, .int c, .int d, .int e] way = some (.int v) ∧ lo ≤ v ∧ v ≤ hi := by
  have : way = 0 ∨ way = 1 ∨ way = 2 ∨ way = 3 ∨ way = 4 := by omega
  rcases this with z | z | z | z | z <;> rw [z]
  · exact ⟨a, rfl, ha⟩
  · exact ⟨b, rfl, hb⟩
  · exact ⟨c, rfl, hc⟩
  · exact ⟨d, rfl, hd⟩
  · exact ⟨e, rfl, he⟩
section
variable {P : Program} {w : World} {K : PySem.W.Frag} {mg : Str → Option Value} {base : Heap} {Tq : List (Addr × Str)}
abbrev N__law_drawn : List Str := ["_law_pot_here", "_law_most", "_law_many", "_law_way", "_law_found", "_law_pair", "_law_turn", "_law_short", "_law_word"]
theorem sc__law_drawn : FnScope N__law_drawn ["_law_pot_here", "_law_most", "_law_many"] (defScope (topS 41)) := ⟨rfl, rfl, rfl, by decide +kernel, rfl, by decide +kernel, by decide +kernel⟩
theorem g__law_drawn {f : Addr} {fd : FuncData} {k : Nat} (Fn : Fun K "_law_drawn" "_law_drawn" (topS 41) f fd) (G__law_of : Df P w K mg base Tq k "_law_of" ["_law_pot_here", "_law_some"] spOfI) (G__law_take : Df P w K mg base Tq k "_law_take" ["_law_pot_here", "_law_many"] spTake) (m_max : mg "max" = none) (m_range : mg "range" = none) (m_tuple : mg "tuple" = none) : FnG P w K mg base Tq (k + 1) f fd ["_law_pot_here", "_law_most", "_law_many"] spDrawn := by
  refine fn_g Fn sc__law_drawn (fun ts Q E h => ?_) fun cdv A outer s H E Z ts QT ET hr hgd hp tk h => ?_
  · obtain ⟨p, n, a, b, c, mo, ma, rfl, hpot, hn, ⟨hm1, hm2⟩, ⟨ha1, ha2⟩, q⟩ := h; rfl
  · obtain ⟨p, n, a, b, c, mo, ma, rfl, hpot, hn, ⟨hm1, hm2⟩, ⟨ha1, ha2⟩, q⟩ := h
    -- line 201
    refine wss_cons (ws_par 3 4 rfl sc__law_drawn.nd (w_fn G__law_take hr hgd ⟨rfl, (w_var 0 ⟨rfl, (w_int ⟨rfl, ⟨_, _, _, _, _, _, rfl, (by assumption), (by omega), ⟨by omega, by omega⟩, fun a1 b1 c1 way hp1 hy0 hy1 => ⟨rfl, rfl, ⟨_, rfl, (w_lst ⟨(by first | decide | (simp only [List.length_append, List.length_map, List.length_cons, List.length_nil, List.length_singleton, List.length_replicate, List.length_range, List.length_take, List.length_drop, List.length_dropLast, List.length_reverse, Bool.false_eq_true, eq_self, reduceIte, sizeLine_eq]; omega)), fun p1 => ⟨_, rfl, Nat.lt_of_sub_eq_succ rfl, Nat.lt_of_sub_eq_succ rfl, ?_⟩⟩)⟩⟩⟩⟩)⟩)⟩))
    -- line 202
    refine wss_cons (ws_set 5 (w_lst ⟨rfl, (w_bin dop_add (w_int (w_fn G__law_take hr hgd ⟨rfl, (w_var 0 ⟨rfl, (w_var 1 ⟨rfl, ⟨_, _, _, _, _, _, rfl, (by assumption), (by omega), ⟨by omega, by omega⟩, fun a2 b2 c2 e1 hp2 he10 he11 => ⟨rfl, rfl, ⟨rfl, rfl, ⟨rfl, (w_bin dop_add (w_int (w_fn G__law_take hr hgd ⟨rfl, (w_var 0 ⟨rfl, (w_var 1 ⟨rfl, ⟨_, _, _, _, _, _, rfl, (by assumption), (by omega), ⟨by omega, by omega⟩, fun a3 b3 c3 e2 hp3 he20 he21 => ⟨rfl, rfl, ⟨rfl, rfl, ⟨(by first | decide | (simp only [List.length_append, List.length_map, List.length_cons, List.length_nil, List.length_singleton, List.length_replicate, List.length_range, List.length_take, List.length_drop, List.length_dropLast, List.length_reverse, Bool.false_eq_true, eq_self, reduceIte, sizeLine_eq]; omega)), fun p2 => ⟨Nat.lt_of_sub_eq_succ rfl, ?_⟩⟩⟩⟩⟩⟩)⟩)⟩)))⟩⟩⟩⟩⟩)⟩)⟩)))⟩) sc__law_drawn.nd)
    -- line 203
    refine wss_cons (ws_for hp rfl (pg_name (i := 6) sc__law_drawn.nd rfl (by first | exact Or.inl rfl | exact Or.inr rfl)) (gok_name 6) (wi_range1 m_range ⟨rfl, (w_fn G__law_take hr hgd ⟨rfl, (w_var 0 ⟨rfl, (w_bin dop_add (w_var 2 (w_int ⟨rfl, rfl, ⟨rfl, ⟨_, _, _, _, _, _, rfl, (by assumption), (by omega), ⟨by omega, by omega⟩, fun a4 b4 c4 cnt hp4 hc0 hc1 => ⟨rfl, rfl, ⟨rfl, ⟨by omega, by omega⟩, ?_⟩⟩⟩⟩⟩)))⟩)⟩)⟩))
    have h3 : 0 ≤ mo / 3 ∧ mo / 3 ≤ mo := ⟨by omega, by omega⟩
    have h2 : 0 ≤ mo / 2 ∧ mo / 2 ≤ mo := ⟨by omega, by omega⟩
    refine ⟨fun j e => ∃ x y z fs o6 o7 o8, PotOk (n + 4 + 4 * j) x y z ∧ fs.length = j ∧ Row mo fs ∧ e = [some (.lst p (potD x y z)), some (.va (.int mo)), some (.va (.int ma)), some (.va (.int way)), some (.lst p1 (iDs fs)), some (.lst p2 [.int (1 + e1), .int (1 + e2)]), o6, o7, o8], ⟨a4, b4, c4, [], none, none, none, hp4.le (by omega), rfl, (fun _ z => (nomatch z)), rfl⟩, ?_, ?_⟩
    · rintro j dd e hd ⟨x, y, z, fs, o6, o7, o8, hq, hfl, hrw, rfl⟩
      obtain ⟨rfl, hj⟩ := rangeD_at hd
      refine ⟨Nat.lt_of_sub_eq_succ rfl, ?_⟩
      -- line 204
      refine wss_cons (ws_par 7 8 rfl sc__law_drawn.nd (w_bin dop_add (w_int (w_fn G__law_take hr hgd ⟨rfl, (w_var 0 ⟨rfl, (w_callB (dc_max2 rfl) m_max rfl ⟨rfl, (w_int ⟨rfl, (w_bin dop_fdiv (w_var 1 (w_int ⟨rfl, rfl, ⟨by omega, by omega⟩, ⟨rfl, ⟨rfl, ⟨rfl, ⟨_, _, _, _, _, _, rfl, (by assumption), (by omega), ⟨by dsimp only; omega, by dsimp only; omega⟩, fun a5 b5 c5 sh hp5 hs0 hs1 => ⟨rfl, rfl, ⟨rfl, rfl, ⟨_, rfl, (w_bin dop_add (w_int (w_fn G__law_take hr hgd ⟨rfl, (w_var 0 ⟨rfl, (w_var 1 ⟨rfl, ⟨_, _, _, _, _, _, rfl, (by assumption), (by omega), ⟨by omega, by omega⟩, fun a6 b6 c6 wo hp6 hw0 hw1 => ⟨rfl, rfl, ⟨rfl, rfl, ⟨_, rfl, Nat.lt_of_sub_eq_succ rfl, Nat.lt_of_sub_eq_succ rfl, ?_⟩⟩⟩⟩⟩)⟩)⟩)))⟩⟩⟩⟩⟩⟩⟩⟩)))⟩)⟩)⟩)⟩))))
      dsimp only at hs1
      have hshm : sh + 1 ≤ mo := by omega
      -- line 205
      refine wss_one (ws_expr (w_append (w_var 4 ⟨_, _, _, _, rfl, rfl, (w_ix (w_lst ⟨rfl, (w_var 8 ⟨rfl, (w_var 7 ⟨rfl, (w_fn G__law_of hr hgd ⟨rfl, (w_var 0 ⟨rfl, (w_var 5 ⟨rfl, ⟨rfl, ⟨_, _, _, _, _, [1 + e1, 1 + e2], 1, mo, _, some (.lst p2 (iDs [1 + e1, 1 + e2])), rfl, (.inr ⟨_, rfl, rfl⟩), (by assumption), (by omega), ⟨by simp, by simp⟩, (by simp only [List.mem_cons, List.not_mem_nil, or_false, forall_eq_or_imp, forall_eq]; omega), fun a7 b7 c7 x7 hp7 l7 u7 m7 => ⟨rfl, rfl, ⟨rfl, rfl, ⟨rfl, (w_fn G__law_of hr hgd ⟨rfl, (w_var 0 ⟨rfl, (w_bin dop_add (w_var 5 (w_lst ⟨rfl, (w_var 7 ⟨(by first | decide | (simp only [List.length_append, List.length_map, List.length_cons, List.length_nil, List.length_singleton, List.length_replicate, List.length_range, List.length_take, List.length_drop, List.length_dropLast, List.length_reverse, Bool.false_eq_true, eq_self, reduceIte, sizeLine_eq]; omega)), fun p3 => ⟨rfl, rfl, (by first | decide | (simp only [List.length_append, List.length_map, List.length_cons, List.length_nil, List.length_singleton, List.length_replicate, List.length_range, List.length_take, List.length_drop, List.length_dropLast, List.length_reverse, Bool.false_eq_true, eq_self, reduceIte, sizeLine_eq]; omega)), fun p4 => ⟨rfl, ⟨_, _, _, _, _, [1 + e1, 1 + e2, 1 + sh], 1, mo, _, none, rfl, (.inl ⟨rfl, rfl⟩), (by assumption), (by omega), ⟨by simp, by simp⟩, (by simp only [List.mem_cons, List.not_mem_nil, or_false, forall_eq_or_imp, forall_eq]; omega), fun a8 b8 c8 x8 hp8 l8 u8 m8 => ?c8⟩⟩⟩⟩)⟩)))⟩)⟩)⟩⟩⟩⟩⟩⟩)⟩)⟩)⟩)⟩)⟩))⟩)))
      case c8 =>
        obtain ⟨v, hv, v1, v2⟩ := ix_of5 (lo := 1) (hi := mo) hy0 hy1 (a := 1 + wo) (b := 1 + sh) (c := x7) (d := x8) (e := max (1 + wo) (mo / 2)) ⟨by omega, by omega⟩ ⟨by omega, by omega⟩ ⟨by omega, by omega⟩ ⟨by omega, by omega⟩ ⟨by omega, by omega⟩
        refine ⟨rfl, rfl, ⟨rfl, (w_callB (dc_max2 rfl) m_max rfl ⟨rfl, (w_var 8 ⟨rfl, (w_bin dop_fdiv (w_var 1 (w_int ⟨rfl, rfl, ⟨by omega, by omega⟩, ⟨rfl, ⟨rfl, ⟨(by first | decide | (simp only [List.length_append, List.length_map, List.length_cons, List.length_nil, List.length_singleton, List.length_replicate, List.length_range, List.length_take, List.length_drop, List.length_dropLast, List.length_reverse, Bool.false_eq_true, eq_self, reduceIte, sizeLine_eq]; omega)), fun p5 => (w_var 3 ⟨rfl, rfl, _, hv, ⟨_, _, rfl, rfl, (by simp only [List.length_append, List.length_map, List.length_cons, List.length_nil, List.length_singleton, List.length_replicate, List.length_range, List.length_take, List.length_drop, List.length_dropLast, List.length_reverse, Bool.false_eq_true, eq_self, reduceIte, sizeLine_eq]; omega), ?_⟩⟩)⟩⟩⟩⟩)))⟩)⟩)⟩⟩
        exact ⟨_, _, _, fs ++ [v], _, _, _, hp8.le (by omega), by rw [List.length_append, hfl]; rfl, hrw.snoc v1 v2, by simp only [iDs, List.map_append]; rfl⟩
    · rintro e ⟨x, y, z, fs, o6, o7, o8, hq, hfl, hrw, rfl⟩
      rw [rangeD_len] at hfl hq
      -- line 206
      refine wss_one (ws_ret (w_callTy dc_tuple m_tuple rfl ⟨rfl, (w_var 4 ⟨rfl, ?_⟩)⟩))
      exact ⟨rfl, q _ _ _ fs (hq.le (by omega)) (by omega) hrw⟩
end
end K26

/-! LU: rows of priced layouts in order; a table begun from the back of a line; the start of a future. -/
namespace LM
open PySem L2 QL
def leQ (x y : Int × List Nat) : Prop := x.1 < y.1 ∨ (x.1 = y.1 ∧ rv x.2 ≤ rv y.2)
instance (x y : Int × List Nat) : Decidable (leQ x y) := by unfold leQ; infer_instance
/-! ### from the back of a line -/
/-- what was found among the begins b .. e - 1 -/
def Sofar (f : Nat → Int) (b e : Nat) (l : PyData) (a : Nat) : Prop := (l = .none ∧ b = e ∧ a = 0) ∨ (l = .int (f a) ∧ b ≤ a ∧ a < e ∧ ∀ c, b ≤ c → c < e → f a < f c ∨ (f a = f c ∧ c ≤ a))
theorem Sofar.start {f : Nat → Int} {e : Nat} : Sofar f e e .none 0 := .inl ⟨rfl, rfl, rfl⟩
theorem Sofar.first {f : Nat → Int} {b : Nat} : Sofar f b (b + 1) (.int (f b)) b := .inr ⟨rfl, Nat.le_refl _, Nat.lt_succ_self _, fun c h1 h2 => .inr ⟨by rw [show c = b by omega], by omega⟩⟩
theorem Sofar.more {f : Nat → Int} {b e a : Nat} {l : PyData} (s : Sofar f (b + 1) e l a) (hl : l = .int (f a)) (h : ¬ f b < f a) : Sofar f b e l a := by
  rcases s with ⟨s, _⟩ | ⟨_, s1, s2, s3⟩
  · rw [s] at hl; cases hl
  · refine .inr ⟨hl, by omega, s2, fun c h1 h2 => ?_⟩
    by_cases z : c = b
    · subst z
      by_cases g : f a = f c
      · exact .inr ⟨g, by omega⟩
      · exact .inl (by omega)
    · exact s3 c (by omega) h2
/-! ### the start of a future -/
def lastLe (n : Nat) (ns : List Nat) : Nat := (ns.filter fun x => decide (x ≤ n)).getLastD 0
theorem lastLe_yes {n h : Nat} (ns : List Nat) (c : h ≤ n) : lastLe n (ns ++ [h]) = h := by
  unfold lastLe
  rw [List.filter_append, List.filter_cons_of_pos (by simpa using c)]
  simp
theorem lastLe_no {n h : Nat} (ns : List Nat) (c : ¬ h ≤ n) : lastLe n (ns ++ [h]) = lastLe n ns := by
  unfold lastLe
  rw [List.filter_append, List.filter_cons_of_neg (by simpa using c)]
  simp
theorem lastLe_le (n : Nat) (ns : List Nat) : lastLe n ns ≤ n := by
  unfold lastLe
  rcases List.eq_nil_or_concat (ns.filter fun x => decide (x ≤ n)) with e | ⟨r, x, e⟩
  · rw [e]; exact Nat.zero_le _
  · have hx : x ∈ ns.filter fun x => decide (x ≤ n) := by rw [e]; simp
    rw [e, List.concat_eq_append]
    simp only [List.getLastD_concat]
    simpa using (List.mem_filter.mp hx).2
theorem lastLe_way {wd : Int} {ws : List Int} (W : Wd wd ws) {n e : Nat} (he : e ≤ ws.length) (h : e ≤ n) : lastLe n (way wd ws e) = e := by
  rcases Nat.eq_zero_or_pos e with z | z
  · subst z; rfl
  · rw [way_step W z he]; exact lastLe_yes _ h
end LM

/-! LG: where the line that goes on begins. -/
namespace LM
open PySem
/-- the best one of a kind, the latest of several -/
def IsBest (f : Nat → Int) (S : Nat → Prop) (b : Nat) : Prop := S b ∧ ∀ c, S c → f b < f c ∨ (f b = f c ∧ c ≤ b)
theorem IsBest.uniq {f : Nat → Int} {S : Nat → Prop} {b c : Nat} (h : IsBest f S b) (g : IsBest f S c) : b = c := by
  have := h.2 c g.1
  have := g.2 b h.1
  omega
theorem best_is {f : Nat → Int} {bs : List Nat} (h : bs ≠ []) : ∃ b, best f bs = (f b, -(b : Int)) ∧ IsBest f (· ∈ bs) b := by
  obtain ⟨b, hb, e, hm⟩ := best_spec f h
  exact ⟨b, e, hb, hm⟩
/-- the length from a place to the end -/
def tl (ws : List Int) (p : Nat) : Int := ln ws p ws.length
theorem tl_end (ws : List Int) : tl ws ws.length = -1 := by unfold tl ln; omega
/-- the places whose lines fit with a word behind them -/
def fit (wd : Int) (ws : List Int) (u : Int) : List Nat := (List.range (ws.length + 1)).filter fun p => decide (tl ws p ≤ wd - 1 - u)
def Fits (wd : Int) (ws : List Int) (u : Int) (p : Nat) : Prop := p ≤ ws.length ∧ tl ws p ≤ wd - 1 - u
theorem fit_mem {wd : Int} {ws : List Int} {u : Int} {p : Nat} : p ∈ fit wd ws u ↔ Fits wd ws u p := by
  unfold fit Fits
  rw [List.mem_filter, List.mem_range, decide_eq_true_eq]
  omega
theorem fit_ne {wd : Int} {ws : List Int} {u : Int} (h : u ≤ wd) : fit wd ws u ≠ [] := List.ne_nil_of_mem (fit_mem.mpr ⟨Nat.le_refl _, by rw [tl_end]; omega⟩)
/-- the full cost if the line from p ends with a word -/
def cc (wd : Int) (ws : List Int) (u : Int) (p : Nat) : Int := C wd ws p + (wd - 1 - u - tl ws p) * (wd - 1 - u - tl ws p)
def opn (wd : Int) (ws : List Int) (u : Int) : Nat := (-(best (C wd ws) (fit wd ws u)).2).toNat
def cls (wd : Int) (ws : List Int) (u : Int) : Nat := (-(best (cc wd ws u) (fit wd ws u)).2).toNat
theorem opn_is {wd : Int} {ws : List Int} {u : Int} (h : u ≤ wd) : best (C wd ws) (fit wd ws u) = (C wd ws (opn wd ws u), -(opn wd ws u : Int)) ∧ IsBest (C wd ws) (Fits wd ws u) (opn wd ws u) := by
  obtain ⟨b, e, hb⟩ := best_is (f := C wd ws) (fit_ne (ws := ws) h)
  have eb : opn wd ws u = b := by unfold opn; rw [e]; simp
  rw [eb]
  exact ⟨e, fit_mem.mp hb.1, fun c hc => hb.2 c (fit_mem.mpr hc)⟩
theorem cls_is {wd : Int} {ws : List Int} {u : Int} (h : u ≤ wd) : best (cc wd ws u) (fit wd ws u) = (cc wd ws u (cls wd ws u), -(cls wd ws u : Int)) ∧ IsBest (cc wd ws u) (Fits wd ws u) (cls wd ws u) := by
  obtain ⟨b, e, hb⟩ := best_is (f := cc wd ws u) (fit_ne (ws := ws) h)
  have eb : cls wd ws u = b := by unfold cls; rw [e]; simp
  rw [eb]
  exact ⟨e, fit_mem.mp hb.1, fun c hc => hb.2 c (fit_mem.mpr hc)⟩
/-! ### the start of a future -/
section
variable {wd : Int} {ws vs : List Int} (W : Wd wd (ws ++ vs))
include W
theorem ln_on {b e : Nat} (hb : b ≤ ws.length) (he : ws.length < e) (hm : e ≤ (ws ++ vs).length) : ln (ws ++ vs) b e = tl ws b + 1 + ln (ws ++ vs) ws.length e := by
  have h := ln_appL (ws := ws) (vs := vs) (i := b) (j := ws.length) hb (Nat.le_refl _)
  unfold tl
  rw [← h]
  unfold ln
  omega
theorem C_on {b : Nat} (hb : b ≤ ws.length) : C wd (ws ++ vs) b = C wd ws b := (CB_congr (n := ws.length) (fun i j h1 h2 => ln_appL (by omega) h2) hb).1
theorem U_bd {p e : Nat} (hp : p ≤ ws.length) (he : ws.length < e) (hm : e ≤ (ws ++ vs).length) (hf : ln (ws ++ vs) p e ≤ wd) : 1 ≤ ln (ws ++ vs) ws.length e ∧ ln (ws ++ vs) ws.length e ≤ wd :=
  ⟨ln_pos W he hm, Int.le_trans (ln_anti W hp (by omega) hm) hf⟩
theorem last_opn (hv : vs ≠ []) (h : LS wd (ws ++ vs) ≤ ws.length) : 1 ≤ ln (ws ++ vs) ws.length (ws ++ vs).length ∧ ln (ws ++ vs) ws.length (ws ++ vs).length ≤ wd ∧ LS wd (ws ++ vs) = opn wd ws (ln (ws ++ vs) ws.length (ws ++ vs).length) := by
  have hvp : 0 < vs.length := List.length_pos_iff.mpr hv
  have hl : (ws ++ vs).length = ws.length + vs.length := List.length_append
  obtain ⟨l1, l2, _, l4⟩ := LS_at W (by omega)
  obtain ⟨u1, u2⟩ := U_bd W h (by omega) (Nat.le_refl _) l2
  refine ⟨u1, u2, IsBest.uniq (f := C wd ws) (S := Fits wd ws (ln (ws ++ vs) ws.length (ws ++ vs).length)) (show IsBest _ _ _ from ⟨⟨h, ?_⟩, fun c hc => ?_⟩) (opn_is u2).2⟩
  · have := ln_on W h (by omega) (Nat.le_refl _); omega
  · have := l4 c (by have := hc.1; omega) (by rw [ln_on W hc.1 (by omega) (Nat.le_refl _)]; have := hc.2; omega)
    rw [C_on W h, C_on W hc.1] at this
    exact this
theorem B_cls {e : Nat} (he : ws.length < e) (hm : e ≤ (ws ++ vs).length) (h : B wd (ws ++ vs) e ≤ ws.length) : 1 ≤ ln (ws ++ vs) ws.length e ∧ ln (ws ++ vs) ws.length e ≤ wd ∧ B wd (ws ++ vs) e = cls wd ws (ln (ws ++ vs) ws.length e) := by
  obtain ⟨l1, l2, l3, _, l4⟩ := CB_at W (by omega) hm
  obtain ⟨u1, u2⟩ := U_bd W h he hm l2
  have key : ∀ c, c ≤ ws.length → C wd (ws ++ vs) c + sq wd (ws ++ vs) c e = cc wd ws (ln (ws ++ vs) ws.length e) c := fun c hc => by
    unfold cc sq
    rw [C_on W hc, ln_on W hc he hm, show wd - (tl ws c + 1 + ln (ws ++ vs) ws.length e) = wd - 1 - ln (ws ++ vs) ws.length e - tl ws c by omega, Int.pow_succ, Int.pow_succ, Int.pow_zero, Int.one_mul]
  refine ⟨u1, u2, IsBest.uniq (f := cc wd ws (ln (ws ++ vs) ws.length e)) (S := Fits wd ws (ln (ws ++ vs) ws.length e)) (show IsBest _ _ _ from ⟨⟨h, ?_⟩, fun c hc => ?_⟩) (cls_is u2).2⟩
  · have := ln_on W h he hm; omega
  · have := l4 c (by have := hc.1; omega) (by rw [ln_on W hc.1 he hm]; have := hc.2; omega)
    rw [l3, key _ h, key _ hc.1] at this
    exact this
theorem way_cls {e : Nat} : ws.length < e → e ≤ (ws ++ vs).length → ∃ U, 1 ≤ U ∧ U ≤ wd ∧ lastLe ws.length (way wd (ws ++ vs) e) = cls wd ws U := by
  induction e using Nat.strongRecOn with
  | _ e ih =>
    intro he hm
    obtain ⟨l1, l2, l3, _, l4⟩ := CB_at W (e := e) (by omega) hm
    rw [way_step W (by omega) hm, lastLe_no _ (by omega)]
    by_cases h : B wd (ws ++ vs) e ≤ ws.length
    · obtain ⟨a, b, c⟩ := B_cls W he hm h
      exact ⟨_, a, b, by rw [lastLe_way W (by omega) h, c]⟩
    · exact ih _ l1 (by omega) (by omega)
/-- the start of any future is that of one or two words -/
theorem start_any (hv : vs ≠ []) : ∃ U, 1 ≤ U ∧ U ≤ wd ∧ (lastLe ws.length (bestLay wd (ws ++ vs)) = opn wd ws U ∨ lastLe ws.length (bestLay wd (ws ++ vs)) = cls wd ws U) := by
  have hvp : 0 < vs.length := List.length_pos_iff.mpr hv
  have hl : (ws ++ vs).length = ws.length + vs.length := List.length_append
  have hb : bestLay wd (ws ++ vs) = way wd (ws ++ vs) (LS wd (ws ++ vs)) ++ [(ws ++ vs).length] := by unfold bestLay; rw [if_neg (by omega)]
  have hls := LS_le W
  rw [hb, lastLe_no _ (by omega)]
  by_cases h : LS wd (ws ++ vs) ≤ ws.length
  · obtain ⟨a, b, c⟩ := last_opn W hv h
    exact ⟨_, a, b, .inl (by rw [lastLe_way W hls h, ← c])⟩
  · obtain ⟨U, a, b, c⟩ := way_cls W (e := LS wd (ws ++ vs)) (by omega) hls
    exact ⟨U, a, b, .inr c⟩
end
theorem ln_last (ws : List Int) (u : Int) : ln (ws ++ [u]) ws.length (ws ++ [u]).length = u := by
  have h := sm_succ (ws ++ [u]) (j := ws.length) (by simp)
  unfold ln
  rw [show (ws ++ [u]).length = ws.length + 1 by simp, h]
  simp
  omega
theorem start_one {wd : Int} {ws : List Int} {u : Int} (W : Wd wd (ws ++ [u])) : lastLe ws.length (bestLay wd (ws ++ [u])) = opn wd ws u := by
  have hl : (ws ++ [u]).length = ws.length + 1 := by simp
  obtain ⟨l1, _⟩ := LS_at W (by omega)
  have hb : bestLay wd (ws ++ [u]) = way wd (ws ++ [u]) (LS wd (ws ++ [u])) ++ [(ws ++ [u]).length] := by unfold bestLay; rw [if_neg (by omega)]
  rw [hb, lastLe_no _ (by omega)]
  obtain ⟨_, _, c⟩ := last_opn W (List.cons_ne_nil _ _) (by omega)
  rw [lastLe_way W (by omega) (by omega), c, ln_last]
theorem start_two {wd : Int} {ws : List Int} {u : Int} (W : Wd wd (ws ++ [u])) (h : ws.length + 2 ≤ 1000) : lastLe ws.length (bestLay wd (ws ++ [u, wd])) = cls wd ws u := by
  have hl : (ws ++ [u]).length = ws.length + 1 := by simp
  have e : ws ++ [u, wd] = ws ++ [u] ++ [wd] := by simp
  have W2 := W.snocW (x := wd) (by omega) W.w1 (Int.le_refl _)
  obtain ⟨c1, _⟩ := LS_wide W (by omega)
  have hl2 : (ws ++ [u] ++ [wd]).length = ws.length + 2 := by simp
  have hb : bestLay wd (ws ++ [u] ++ [wd]) = way wd (ws ++ [u] ++ [wd]) (LS wd (ws ++ [u] ++ [wd])) ++ [(ws ++ [u] ++ [wd]).length] := by unfold bestLay; rw [if_neg (by omega)]
  rw [e, hb, lastLe_no _ (by omega), c1, hl]
  obtain ⟨b1, _⟩ := CB_at W2 (e := ws.length + 1) (by omega) (by omega)
  rw [way_step W2 (by omega) (by omega), lastLe_no _ (by omega), lastLe_way W2 (by omega) (by omega)]
  have W3 : Wd wd (ws ++ [u, wd]) := by rw [e]; exact W2
  have q := (B_cls W3 (e := ws.length + 1) (by omega) (by simp) (by rw [e]; omega)).2.2
  rw [e] at q
  rw [q]
  congr 1
  have := ln_appL (ws := ws ++ [u]) (vs := [wd]) (i := ws.length) (j := ws.length + 1) (by omega) (by omega)
  rw [this]
  have := ln_last ws u
  rwa [hl] at this
end LM

/-! LH: ranges of words with one start. -/
namespace LM
open PySem
theorem sqd (r a : Int) : (r - a) * (r - a) = r * r - 2 * (r * a) + a * a := by
  rw [Int.sub_mul, Int.mul_sub, Int.mul_sub, Int.mul_comm a r]; omega
/-- what is won at a later place -/
def gain (wd : Int) (ws : List Int) (p q : Nat) : Int := C wd ws p - C wd ws q + tl ws p * tl ws p - tl ws q * tl ws q
theorem cc_diff (wd : Int) (ws : List Int) (u : Int) (p q : Nat) : cc wd ws u p - cc wd ws u q = gain wd ws p q - 2 * (tl ws p - tl ws q) * (wd - 1 - u) := by
  unfold cc gain
  generalize wd - 1 - u = r
  have h1 := sqd r (tl ws p)
  have h2 := sqd r (tl ws q)
  have h3 : 2 * (tl ws p - tl ws q) * r = 2 * (r * tl ws p) - 2 * (r * tl ws q) := by
    rw [Int.mul_assoc, Int.sub_mul, Int.mul_comm (tl ws p), Int.mul_comm (tl ws q)]; omega
  rw [h1, h2, h3]
  generalize r * tl ws p = x
  generalize r * tl ws q = y
  generalize r * r = z
  generalize tl ws p * tl ws p = s
  generalize tl ws q * tl ws q = t
  omega
theorem tl_lt {wd : Int} {ws : List Int} (W : Wd wd ws) {p q : Nat} (h : p < q) (hq : q ≤ ws.length) : tl ws q < tl ws p := by
  have := (sm_mono W (i := p) (j := q) (by omega) hq).1
  unfold tl ln
  omega
/-- p is cheaper than a later q as long as the word is short enough -/
theorem cheaper {wd : Int} {ws : List Int} (W : Wd wd ws) {p q : Nat} (h : p < q) (hq : q ≤ ws.length) (u : Int) : cc wd ws u p < cc wd ws u q ↔ u ≤ wd - 2 - gain wd ws p q / (2 * (tl ws p - tl ws q)) := by
  have d := cc_diff wd ws u p q
  have l := tl_lt W h hq
  have k : 0 < 2 * (tl ws p - tl ws q) := by omega
  have e : gain wd ws p q / (2 * (tl ws p - tl ws q)) < wd - 1 - u ↔ gain wd ws p q < (wd - 1 - u) * (2 * (tl ws p - tl ws q)) := Int.ediv_lt_iff_lt_mul k
  rw [Int.mul_comm (wd - 1 - u)] at e
  constructor
  · intro g
    have := e.mpr (by omega)
    omega
  · intro g
    have := e.mp (by omega)
    omega
/-- an earlier place that is no better gets no better with longer words -/
theorem no_better {wd : Int} {ws : List Int} (W : Wd wd ws) {p q : Nat} (h : q < p) (hp : p ≤ ws.length) {u v : Int} (huv : u ≤ v) (g : cc wd ws u p ≤ cc wd ws u q) : cc wd ws v p ≤ cc wd ws v q := by
  have d1 := cc_diff wd ws u q p
  have d2 := cc_diff wd ws v q p
  have l := tl_lt W h hp
  have m : 2 * (tl ws q - tl ws p) * (wd - 1 - v) ≤ 2 * (tl ws q - tl ws p) * (wd - 1 - u) := Int.mul_le_mul_of_nonneg_left (by omega) (by omega)
  omega
/-- the longest word with which the line from a place still fits -/
def lfit (wd : Int) (ws : List Int) (p : Nat) : Int := min wd (wd - 1 - tl ws p)
/-- the places kept -/
def rch (wd : Int) (ws : List Int) : List Nat := (List.range (ws.length + 1)).filter fun p => decide (p = ws.length ∨ tl ws p ≤ wd - 2)
theorem rch_mem {wd : Int} {ws : List Int} (W : Wd wd ws) {p : Nat} : p ∈ rch wd ws ↔ p ≤ ws.length ∧ tl ws p ≤ wd - 2 := by
  unfold rch
  rw [List.mem_filter, List.mem_range, decide_eq_true_eq]
  have := W.w1
  have := tl_end ws
  constructor
  · rintro ⟨a, b | b⟩
    · subst b; omega
    · omega
  · rintro ⟨a, b⟩
    exact ⟨by omega, .inr b⟩
def lcloF (wd : Int) (ws : List Int) (p : Nat) (f : Int) (q : Nat) : Int := if p < q then min f (wd - 2 - gain wd ws p q / (2 * (tl ws p - tl ws q))) else f
def lclo (wd : Int) (ws : List Int) (p : Nat) : Int := (rch wd ws).foldl (lcloF wd ws p) (lfit wd ws p)
theorem foldl_le {wd : Int} {ws : List Int} {p : Nat} {u : Int} : ∀ (qs : List Nat) (f : Int), u ≤ qs.foldl (lcloF wd ws p) f ↔ u ≤ f ∧ ∀ q ∈ qs, p < q → u ≤ wd - 2 - gain wd ws p q / (2 * (tl ws p - tl ws q))
  | [], f => by simp
  | q :: qs, f => by
    rw [List.foldl_cons, foldl_le qs]
    unfold lcloF
    by_cases h : p < q
    · rw [if_pos h]
      constructor
      · rintro ⟨a, b⟩
        refine ⟨by omega, fun x hx hl => ?_⟩
        rcases List.mem_cons.mp hx with rfl | z
        · omega
        · exact b x z hl
      · rintro ⟨a, b⟩
        have := b q List.mem_cons_self h
        exact ⟨by omega, fun x hx hl => b x (List.mem_cons_of_mem _ hx) hl⟩
    · rw [if_neg h]
      constructor
      · rintro ⟨a, b⟩
        refine ⟨a, fun x hx hl => ?_⟩
        rcases List.mem_cons.mp hx with rfl | z
        · exact absurd hl h
        · exact b x z hl
      · rintro ⟨a, b⟩
        exact ⟨a, fun x hx hl => b x (List.mem_cons_of_mem _ hx) hl⟩
theorem lclo_iff {wd : Int} {ws : List Int} (W : Wd wd ws) {p : Nat} {u : Int} (hp : p ∈ rch wd ws) : u ≤ lclo wd ws p ↔ u ≤ lfit wd ws p ∧ ∀ q, q ≤ ws.length → p < q → cc wd ws u p < cc wd ws u q := by
  unfold lclo
  rw [foldl_le]
  have hp := (rch_mem W).mp hp
  constructor
  · rintro ⟨a, b⟩
    exact ⟨a, fun q hq hl => (cheaper W hl hq u).mpr (b q ((rch_mem W).mpr ⟨hq, by have := tl_lt W hl hq; omega⟩) hl)⟩
  · rintro ⟨a, b⟩
    exact ⟨a, fun q hq hl => (cheaper W hl ((rch_mem W).mp hq).1 u).mp (b q ((rch_mem W).mp hq).1 hl)⟩
theorem fits_rch {wd : Int} {ws : List Int} (W : Wd wd ws) {u : Int} {p : Nat} (h1 : 1 ≤ u) (h : Fits wd ws u p) : p ∈ rch wd ws := (rch_mem W).mpr ⟨h.1, by have := h.2; omega⟩
/-- the range of a start: words that end their line -/
theorem cls_range {wd : Int} {ws : List Int} (W : Wd wd ws) {u : Int} (h1 : 1 ≤ u) (h2 : u ≤ wd) : u ≤ lclo wd ws (cls wd ws u) ∧ lclo wd ws (cls wd ws u) ≤ wd ∧ (∀ v, u ≤ v → v ≤ lclo wd ws (cls wd ws u) → cls wd ws v = cls wd ws u) ∧ (lclo wd ws (cls wd ws u) + 1 ≤ wd → cls wd ws u < cls wd ws (lclo wd ws (cls wd ws u) + 1)) := by
  obtain ⟨_, hs, hb⟩ := cls_is (ws := ws) h2
  generalize hp : cls wd ws u = p at hs hb
  have hr := fits_rch W h1 hs
  have lf : lclo wd ws p ≤ lfit wd ws p := ((lclo_iff W hr).mp (Int.le_refl _)).1
  have lw : lclo wd ws p ≤ wd := by unfold lfit at lf; omega
  -- u itself
  have uu : u ≤ lclo wd ws p := (lclo_iff W hr).mpr ⟨by unfold lfit; have := hs.2; omega, fun q hq hl => by
    have := hb q ⟨hq, by have := tl_lt W hl hq; have := hs.2; omega⟩; omega⟩
  have earlier : ∀ v, u ≤ v → ∀ q, q < p → Fits wd ws v q → cc wd ws v p ≤ cc wd ws v q := fun v hv q hq hf =>
    no_better W hq hs.1 hv (by have := hb q ⟨hf.1, by have := hf.2; omega⟩; omega)
  refine ⟨uu, lw, fun v v1 v2 => ?_, fun h => ?_⟩
  · obtain ⟨a, b⟩ := (lclo_iff W hr).mp v2
    refine (IsBest.uniq (f := cc wd ws v) (S := Fits wd ws v) (b := p) ⟨⟨hs.1, by unfold lfit at a; omega⟩, fun q hq => ?_⟩ (cls_is (by omega)).2).symm
    rcases Nat.lt_trichotomy q p with z | z | z
    · have := earlier v v1 q z hq; omega
    · subst z; exact .inr ⟨rfl, Nat.le_refl _⟩
    · have := b q hq.1 z; exact .inl this
  · obtain ⟨_, hs', hb'⟩ := cls_is (ws := ws) h
    generalize hq : cls wd ws (lclo wd ws p + 1) = q at hs' hb'
    rcases Nat.lt_trichotomy q p with z | z | z
    · -- an earlier one is no better
      have hpf : Fits wd ws (lclo wd ws p + 1) p := ⟨hs.1, by have := tl_lt W z hs.1; have := hs'.2; omega⟩
      have a := earlier _ (by omega) q z hs'
      have b := hb' p hpf
      omega
    · subst z
      have := (lclo_iff W hr (u := lclo wd ws q + 1)).mpr ⟨by unfold lfit; have := hs'.2; omega, fun x hx hl => by
        have := hb' x ⟨hx, by have := tl_lt W hl hx; have := hs'.2; omega⟩; omega⟩
      omega
    · exact z
/-- the range of a start: words in the last line -/
theorem opn_range {wd : Int} {ws : List Int} (W : Wd wd ws) {u : Int} (h1 : 1 ≤ u) (h2 : u ≤ wd) : u ≤ lfit wd ws (opn wd ws u) ∧ lfit wd ws (opn wd ws u) ≤ wd ∧ (∀ v, u ≤ v → v ≤ lfit wd ws (opn wd ws u) → opn wd ws v = opn wd ws u) ∧ (lfit wd ws (opn wd ws u) + 1 ≤ wd → opn wd ws u < opn wd ws (lfit wd ws (opn wd ws u) + 1)) := by
  obtain ⟨_, hs, hb⟩ := opn_is (ws := ws) h2
  generalize hp : opn wd ws u = p at hs hb
  have s2 := hs.2
  refine ⟨by unfold lfit; omega, by unfold lfit; omega, fun v v1 v2 => ?_, fun h => ?_⟩
  · unfold lfit at v2
    exact (IsBest.uniq (f := C wd ws) (S := Fits wd ws v) (b := p) ⟨⟨hs.1, by omega⟩, fun q hq => hb q ⟨hq.1, by have := hq.2; omega⟩⟩ (opn_is (by omega)).2).symm
  · obtain ⟨_, hs', hb'⟩ := opn_is (ws := ws) h
    generalize hq : opn wd ws (lfit wd ws p + 1) = q at hs' hb'
    have s3 := hs'.2
    have np : ¬ tl ws p ≤ wd - 1 - (lfit wd ws p + 1) := by unfold lfit at h ⊢; omega
    rcases Nat.lt_trichotomy q p with z | z | z
    · have := tl_lt W z hs.1; omega
    · subst z; exact absurd s3 np
    · exact z
end LM

/-! LI: what closing_starts, open_starts and starts return. -/
namespace LM
open PySem
theorem fit_rch {wd : Int} {ws : List Int} {u : Int} (h1 : 1 ≤ u) (h2 : u ≤ wd) : (rch wd ws).filter (fun p => decide (tl ws p ≤ wd - 1 - u)) = fit wd ws u := by
  unfold rch fit
  rw [List.filter_filter]
  congr 1
  funext p
  by_cases h : tl ws p ≤ wd - 1 - u
  · rw [decide_eq_true h, decide_eq_true (Or.inr (by omega))]; rfl
  · rw [decide_eq_false h]; rfl
/-- ranges so far, the next one begins at lo -/
inductive Rgs (wd : Int) (f : Int → Nat) : List (Int × Int × Nat) → Int → Prop
  | nil : Rgs wd f [] 1
  | snoc {rs : List (Int × Int × Nat)} {lo hi : Int} : Rgs wd f rs lo → lo ≤ hi → hi ≤ wd → (∀ u, lo ≤ u → u ≤ hi → f u = f lo) → (hi + 1 ≤ wd → f lo < f (hi + 1)) → Rgs wd f (rs ++ [(lo, hi, f lo)]) (hi + 1)
section
variable {wd : Int} {f : Int → Nat}
theorem Rgs.one {rs : List (Int × Int × Nat)} {lo : Int} (h : Rgs wd f rs lo) : 1 ≤ lo := by
  induction h with
  | nil => exact Int.le_refl _
  | snoc _ _ _ _ _ ih => omega
theorem Rgs.len {rs : List (Int × Int × Nat)} {lo : Int} (h : Rgs wd f rs lo) : lo ≤ wd → rs.length ≤ f lo := by
  induction h with
  | nil => intro _; exact Nat.zero_le _
  | snoc h1 h2 h3 h4 h5 ih =>
    intro h
    have a := ih (by omega)
    have b := h5 h
    rw [List.length_append, List.length_singleton]
    omega
theorem Rgs.mem {rs : List (Int × Int × Nat)} {lo : Int} (h : Rgs wd f rs lo) (p : Nat) : (∃ r ∈ rs, r.2.2 = p) ↔ ∃ u, 1 ≤ u ∧ u < lo ∧ f u = p := by
  induction h with
  | nil => exact ⟨fun ⟨r, h, _⟩ => (nomatch h), fun ⟨u, a, b, _⟩ => absurd b (by omega)⟩
  | @snoc rs lo hi h1 h2 h3 h4 h5 ih =>
    have o := h1.one
    constructor
    · rintro ⟨r, hr, e⟩
      rcases List.mem_append.mp hr with z | z
      · obtain ⟨u, a, b, c⟩ := ih.mp ⟨r, z, e⟩
        exact ⟨u, a, by omega, c⟩
      · rw [List.mem_singleton.mp z] at e
        exact ⟨lo, o, by omega, e⟩
    · rintro ⟨u, a, b, c⟩
      by_cases z : u < lo
      · obtain ⟨r, hr, e⟩ := ih.mpr ⟨u, a, z, c⟩
        exact ⟨r, List.mem_append_left _ hr, e⟩
      · exact ⟨(lo, hi, f lo), List.mem_append_right _ (List.mem_singleton.mpr rfl), by show f lo = p; rw [← c]; exact (h4 u (by omega) (by omega)).symm⟩
/-- each range: its ends, its start -/
theorem Rgs.each {rs : List (Int × Int × Nat)} {lo : Int} (h : Rgs wd f rs lo) : ∀ r ∈ rs, 1 ≤ r.1 ∧ r.1 ≤ r.2.1 ∧ r.2.1 ≤ wd ∧ r.2.1 < lo ∧ ∀ u, r.1 ≤ u → u ≤ r.2.1 → f u = r.2.2 := by
  induction h with
  | nil => intro r h; nomatch h
  | @snoc rs lo hi h1 h2 h3 h4 h5 ih =>
    intro r hr
    have o := h1.one
    rcases List.mem_append.mp hr with z | z
    · have := ih r z; exact ⟨this.1, this.2.1, this.2.2.1, by omega, this.2.2.2.2⟩
    · rw [List.mem_singleton.mp z]; exact ⟨o, h2, h3, by show hi < hi + 1; omega, h4⟩
/-- the runs of equal starts, word by word -/
def runs (f : Int → Nat) : Nat → List (Int × Int × Nat)
  | 0 => []
  | k + 1 => match (runs f k).getLast? with
    | some r => if r.2.2 = f ((k : Int) + 1) then (runs f k).dropLast ++ [(r.1, (k : Int) + 1, r.2.2)] else runs f k ++ [((k : Int) + 1, (k : Int) + 1, f ((k : Int) + 1))]
    | none => runs f k ++ [((k : Int) + 1, (k : Int) + 1, f ((k : Int) + 1))]
theorem runs_snoc (k : Nat) (rs : List (Int × Int × Nat)) (r : Int × Int × Nat) (h : runs f k = rs ++ [r]) : runs f (k + 1) = if r.2.2 = f ((k : Int) + 1) then rs ++ [(r.1, (k : Int) + 1, r.2.2)] else (rs ++ [r]) ++ [((k : Int) + 1, (k : Int) + 1, f ((k : Int) + 1))] := by
  show (match (runs f k).getLast? with
    | some r => if r.2.2 = f ((k : Int) + 1) then (runs f k).dropLast ++ [(r.1, (k : Int) + 1, r.2.2)] else runs f k ++ [((k : Int) + 1, (k : Int) + 1, f ((k : Int) + 1))]
    | none => runs f k ++ [((k : Int) + 1, (k : Int) + 1, f ((k : Int) + 1))]) = _
  rw [h, List.getLast?_concat]
  simp only [List.dropLast_concat]
theorem Rgs.last {rs : List (Int × Int × Nat)} {lo : Int} (h : Rgs wd f rs lo) : rs = [] ∨ ∃ rs0 r, rs = rs0 ++ [r] ∧ (lo ≤ wd → r.2.2 < f lo) := by
  cases h with
  | nil => exact .inl rfl
  | snoc h1 h2 h3 h4 h5 => exact .inr ⟨_, _, rfl, h5⟩
theorem Rgs.runs {rs : List (Int × Int × Nat)} {lo : Int} (h : Rgs wd f rs lo) : rs = LM.runs f (lo - 1).toNat := by
  induction h with
  | nil => rfl
  | @snoc rs lo hi h1 h2 h3 h4 h5 ih =>
    have o := h1.one
    have key : ∀ j : Nat, lo + j ≤ hi → LM.runs f (lo - 1 + j + 1).toNat = rs ++ [(lo, lo + j, f lo)] := fun j => by
      induction j with
      | zero =>
        intro _
        have e1 : (lo - 1 + ((0 : Nat) : Int) + 1).toNat = (lo - 1).toNat + 1 := by omega
        have e2 : (((lo - 1).toNat : Nat) : Int) + 1 = lo := by omega
        rw [e1]
        have e3 : lo + ((0 : Nat) : Int) = lo := by omega
        rw [e3]
        rcases h1.last with z | ⟨rs0, r, z, lt⟩
        · subst z
          show (match (LM.runs f (lo - 1).toNat).getLast? with
            | some r => if r.2.2 = f (((lo - 1).toNat : Int) + 1) then (LM.runs f (lo - 1).toNat).dropLast ++ [(r.1, ((lo - 1).toNat : Int) + 1, r.2.2)] else LM.runs f (lo - 1).toNat ++ [(((lo - 1).toNat : Int) + 1, ((lo - 1).toNat : Int) + 1, f (((lo - 1).toNat : Int) + 1))]
            | none => LM.runs f (lo - 1).toNat ++ [(((lo - 1).toNat : Int) + 1, ((lo - 1).toNat : Int) + 1, f (((lo - 1).toNat : Int) + 1))]) = _
          rw [← ih, e2]
          rfl
        · have lt := lt (by omega)
          rw [runs_snoc _ rs0 r (by rw [← ih, z]), e2, if_neg (by omega), ← z]
      | succ j ihj =>
        intro hj
        have e0 := ihj (by omega)
        have e1 : (lo - 1 + ((j + 1 : Nat) : Int) + 1).toNat = (lo - 1 + (j : Int) + 1).toNat + 1 := by omega
        have e2 : (((lo - 1 + (j : Int) + 1).toNat : Nat) : Int) + 1 = lo + ((j + 1 : Nat) : Int) := by omega
        rw [e1, runs_snoc _ rs _ e0, e2]
        rw [if_pos (h4 _ (by omega) (by omega)).symm]
    have q := key (hi - lo).toNat (by omega)
    have e1 : lo - 1 + ((hi - lo).toNat : Int) + 1 = hi + 1 - 1 := by omega
    have e2 : lo + ((hi - lo).toNat : Int) = hi := by omega
    rw [e1, e2] at q
    exact q.symm
end
/-! ### the starts of all futures -/
def IsStart (wd : Int) (ws : List Int) (p : Nat) : Prop := ∃ u, 1 ≤ u ∧ u ≤ wd ∧ (cls wd ws u = p ∨ opn wd ws u = p)
noncomputable instance (wd : Int) (ws : List Int) (p : Nat) : Decidable (IsStart wd ws p) := Classical.propDecidable _
noncomputable def stL (wd : Int) (ws : List Int) : List Nat := (List.range (ws.length + 1)).filter fun p => decide (IsStart wd ws p)
theorem cls_le {wd : Int} {ws : List Int} {u : Int} (h : u ≤ wd) : cls wd ws u ≤ ws.length := (cls_is h).2.1.1
theorem opn_le {wd : Int} {ws : List Int} {u : Int} (h : u ≤ wd) : opn wd ws u ≤ ws.length := (opn_is h).2.1.1
theorem IsStart.le {wd : Int} {ws : List Int} {p : Nat} (h : IsStart wd ws p) : p ≤ ws.length := by
  obtain ⟨u, _, h2, h3 | h3⟩ := h
  · rw [← h3]; exact cls_le h2
  · rw [← h3]; exact opn_le h2
theorem stL_mem {wd : Int} {ws : List Int} {p : Nat} : p ∈ stL wd ws ↔ IsStart wd ws p := by
  unfold stL
  rw [List.mem_filter, List.mem_range, decide_eq_true_eq]
  exact ⟨fun h => h.2, fun h => ⟨by have := h.le; omega, h⟩⟩
theorem stL_lt (wd : Int) (ws : List Int) : (stL wd ws).Pairwise (· < ·) := List.Pairwise.filter _ List.pairwise_lt_range
theorem sorted_uniq : ∀ {xs ys : List Int}, xs.Pairwise (· < ·) → ys.Pairwise (· < ·) → (∀ c, c ∈ xs ↔ c ∈ ys) → xs = ys
  | [], [], _, _, _ => rfl
  | [], y :: ys, _, _, h => nomatch (h y).mpr List.mem_cons_self
  | x :: xs, [], _, _, h => nomatch (h x).mp List.mem_cons_self
  | x :: xs, y :: ys, h1, h2, h => by
    obtain ⟨a1, a2⟩ := List.pairwise_cons.mp h1
    obtain ⟨b1, b2⟩ := List.pairwise_cons.mp h2
    have e : x = y := by
      rcases List.mem_cons.mp ((h x).mp List.mem_cons_self) with z | z
      · exact z
      · rcases List.mem_cons.mp ((h y).mpr List.mem_cons_self) with z2 | z2
        · exact z2.symm
        · have := a1 y z2; have := b1 x z; omega
    subst e
    congr 1
    refine sorted_uniq a2 b2 fun c => ⟨fun hc => ?_, fun hc => ?_⟩
    · rcases List.mem_cons.mp ((h c).mp (List.mem_cons_of_mem _ hc)) with z | z
      · have := a1 c hc; omega
      · exact z
    · rcases List.mem_cons.mp ((h c).mpr (List.mem_cons_of_mem _ hc)) with z | z
      · have := b1 c hc; omega
      · exact z
theorem stL_uniq {wd : Int} {ws : List Int} {ns : List Int} (pw : ns.Pairwise (· < ·)) (mem : ∀ c, c ∈ ns ↔ ∃ p : Nat, c = p ∧ IsStart wd ws p) : ns = (stL wd ws).map fun (n : Nat) => (n : Int) := by
  refine sorted_uniq pw ?_ fun c => ?_
  · rw [List.pairwise_map]
    exact (stL_lt wd ws).imp fun h => by omega
  · rw [mem, List.mem_map]
    exact ⟨fun ⟨p, e, h⟩ => ⟨p, stL_mem.mpr h, e.symm⟩, fun ⟨p, h, e⟩ => ⟨p, e.symm, stL_mem.mp h⟩⟩
theorem stL_len (wd : Int) (ws : List Int) : (stL wd ws).length ≤ ws.length + 1 := by
  unfold stL
  exact Nat.le_trans (List.length_filter_le _ _) (by rw [List.length_range]; omega)
/-- both rows of ranges together have just the starts -/
theorem Rgs.starts {wd : Int} {ws : List Int} {rs qs : List (Int × Int × Nat)} (h : Rgs wd (cls wd ws) rs (wd + 1)) (g : Rgs wd (opn wd ws) qs (wd + 1)) (p : Nat) : (∃ r ∈ rs ++ qs, r.2.2 = p) ↔ IsStart wd ws p := by
  constructor
  · rintro ⟨r, hr, e⟩
    rcases List.mem_append.mp hr with z | z
    · obtain ⟨u, a, b, c⟩ := (h.mem p).mp ⟨r, z, e⟩
      exact ⟨u, a, by omega, .inl c⟩
    · obtain ⟨u, a, b, c⟩ := (g.mem p).mp ⟨r, z, e⟩
      exact ⟨u, a, by omega, .inr c⟩
  · rintro ⟨u, a, b, c | c⟩
    · obtain ⟨r, hr, e⟩ := (h.mem p).mpr ⟨u, a, by omega, c⟩
      exact ⟨r, List.mem_append_left _ hr, e⟩
    · obtain ⟨r, hr, e⟩ := (g.mem p).mpr ⟨u, a, by omega, c⟩
      exact ⟨r, List.mem_append_right _ hr, e⟩
end LM

namespace K26
open PySem PySem.Spec PyProof.Rows L2 QL
open LM
/-- what is known of the class -/
structure Txt_Goers (K : PySem.W.Frag) (a : Addr) : Prop where
  cl : Cls K a
  n_most : NoAttr K a "most"
  n_table : NoAttr K a "table"
  n_reaches : NoAttr K a "reaches"
/-- the places kept, with their lengths -/
def rchK (wd : Int) (ws : List Int) : List (Key × D) := (rch wd ws).map fun (p : Nat) => (.inl (p : Int), .int (tl ws p))
theorem valT_map {g : Nat → D} {p : Nat} : ∀ {ps : List Nat}, p ∈ ps → valT (ps.map fun (p : Nat) => ((.inl (p : Int) : Key), g p)) (.inl (p : Int)) = some (g p)
  | [], h => nomatch h
  | q :: ps, h => by
    unfold valT
    rw [List.map_cons, List.find?_cons]
    by_cases e : q = p
    · subst e; simp
    · have h2 : p ∈ ps := (List.mem_cons.mp h).resolve_left fun z => e z.symm
      have ne : ¬ ((.inl (q : Int) : Key) = .inl (p : Int)) := fun z => e (by have : (q : Int) = p := Sum.inl.inj z; omega)
      simp only [ne, decide_false]
      exact valT_map h2
theorem rchK_at {wd : Int} {ws : List Int} {p : Nat} (h : p ∈ rch wd ws) : valT (rchK wd ws) (.inl (p : Int)) = some (.int (tl ws p)) := valT_map (g := fun p => .int (tl ws p)) h
abbrev enP1 (ws : List Int) (p : Nat) : D := .tuple [.int (p : Int), .int (tl ws p)]
theorem items_eq (wd : Int) (ws : List Int) : (rchK wd ws).map (fun p => PyData.tuple [kD p.1, p.2]) = (rch wd ws).map (enP1 ws) := by
  unfold rchK
  rw [List.map_map]; rfl
theorem rch_le {wd : Int} {ws : List Int} {p : Nat} (h : p ∈ rch wd ws) : p ≤ ws.length := by
  unfold rch at h
  have := List.mem_range.mp (List.mem_filter.mp h).1
  omega
theorem rch_len (wd : Int) (ws : List Int) : (rch wd ws).length ≤ ws.length + 1 := by
  unfold rch
  exact Nat.le_trans (List.length_filter_le _ _) (by rw [List.length_range]; omega)
theorem fit_len (wd : Int) (ws : List Int) (u : Int) : (fit wd ws u).length ≤ ws.length + 1 := by
  unfold fit
  exact Nat.le_trans (List.length_filter_le _ _) (by rw [List.length_range]; omega)
theorem tl_bd {wd : Int} {ws : List Int} (W : Wd wd ws) {p : Nat} (h : p ≤ ws.length) : -1000000001001 ≤ tl ws p ∧ tl ws p ≤ 1000000001000 := ln_bd W h (Nat.le_refl _)
/-- the fields of such an instance: its table at a, its dict at d -/
abbrev goF (aT : Addr) (wd : Int) (ws : List Int) (a pc pb d : Addr) : List (Str × T) := [("most", .va (.int wd)), ("table", .ins a aT (tabF wd ws ws.length pc pb)), ("reaches", .fdc d (rchK wd ws))]
def spGInit (aG aT : Addr) : Spc := fun ts QT _ => ∃ (g : Addr) (wd : Int) (ws : List Int), ts = [.ins g aG [], .va (.int wd), .va (.tuple (iDs ws))] ∧ Wd wd ws ∧ ∀ a pc pb d, QT (.va .none) [some (.ins g aG (goF aT wd ws a pc pb d)), none, none]
def spRoom (aG aT : Addr) : Spc := fun ts QT _ => ∃ (g : Addr) (wd : Int) (ws : List Int) (a pc pb d : Addr) (u : Int), ts = [.ins g aG (goF aT wd ws a pc pb d), .va (.int u)] ∧ QT (.va (.int (wd - 1 - u))) [some (.ins g aG (goF aT wd ws a pc pb d)), none]
def spFitting (aG aT : Addr) : Spc := fun ts QT _ => ∃ (g : Addr) (wd : Int) (ws : List Int) (a pc pb d : Addr) (u : Int), ts = [.ins g aG (goF aT wd ws a pc pb d), .va (.int u)] ∧ Wd wd ws ∧ 1 ≤ u ∧ u ≤ wd ∧ ∀ p, QT (.lst p (nDs (fit wd ws u))) [some (.ins g aG (goF aT wd ws a pc pb d)), none]
def spCca (aG aT : Addr) : Spc := fun ts QT _ => ∃ (g : Addr) (wd : Int) (ws : List Int) (a pc pb d : Addr) (u : Int) (q : Nat), ts = [.ins g aG (goF aT wd ws a pc pb d), .va (.int (q : Int)), .va (.int u)] ∧ Wd wd ws ∧ 1 ≤ u ∧ u ≤ wd ∧ Fits wd ws u q ∧ QT (.va (.int (cc wd ws u q))) [some (.ins g aG (goF aT wd ws a pc pb d)), none, none]
def spGStart (f : Int → List Int → Int → Nat) (aG aT : Addr) : Spc := fun ts QT _ => ∃ (g : Addr) (wd : Int) (ws : List Int) (a pc pb d : Addr) (u : Int), ts = [.ins g aG (goF aT wd ws a pc pb d), .va (.int u)] ∧ Wd wd ws ∧ 1 ≤ u ∧ u ≤ wd ∧ QT (.va (.int (f wd ws u : Int))) [some (.ins g aG (goF aT wd ws a pc pb d)), none]
def spGLast (f : Int → List Int → Nat → Int) (aG aT : Addr) : Spc := fun ts QT _ => ∃ (g : Addr) (wd : Int) (ws : List Int) (a pc pb d : Addr) (q : Nat), ts = [.ins g aG (goF aT wd ws a pc pb d), .va (.int (q : Int))] ∧ Wd wd ws ∧ q ∈ rch wd ws ∧ QT (.va (.int (f wd ws q))) [some (.ins g aG (goF aT wd ws a pc pb d)), none]
abbrev enR (r : Int × Int × Nat) : D := .tuple [.int r.1, .int r.2.1, .int (r.2.2 : Int)]
/-- the start of a word, by the kind -/
noncomputable def stF (b : Bool) (wd : Int) (ws : List Int) (u : Int) : Nat := if b = true then cls wd ws u else opn wd ws u
def spRanges (aG aT : Addr) : Spc := fun ts QT _ => ∃ (g : Addr) (wd : Int) (ws : List Int) (a pc pb d : Addr) (b : Bool), ts = [.ins g aG (goF aT wd ws a pc pb d), .va (.bool b)] ∧ Wd wd ws ∧ ∀ rs, Rgs wd (stF b wd ws) rs (wd + 1) → QT (.va (.tuple (rs.map enR))) [some (.ins g aG (goF aT wd ws a pc pb d)), none]
def spRgs (f : Int → List Int → Int → Nat) : Spc := fun ts QT _ => ∃ (wd : Int) (ws : List Int), ts = [.va (.int wd), .va (.tuple (iDs ws))] ∧ Wd wd ws ∧ ∀ rs, Rgs wd (f wd ws) rs (wd + 1) → rs.length ≤ ws.length + 1 → QT (.va (.tuple (rs.map enR))) [none, none]
def spStarts : Spc := fun ts QT _ => ∃ (wd : Int) (ws : List Int), ts = [.va (.int wd), .va (.tuple (iDs ws))] ∧ Wd wd ws ∧ QT (.va (.tuple (nDs (stL wd ws)))) [none, none]
theorem rgs_len {wd : Int} {f : Int → Nat} {rs : List (Int × Int × Nat)} {n : Nat} (h : Rgs wd f rs (wd + 1)) (hf : ∀ u, u ≤ wd → f u ≤ n) : rs.length ≤ n + 1 := by
  rcases h.last with e | ⟨rs0, r, e, _⟩
  · rw [e]; exact Nat.zero_le _
  · have : ∀ {lo : Int} {rs}, Rgs wd f rs lo → rs.length ≤ n + 1 := fun {lo rs} h => by
      cases h with
      | nil => exact Nat.zero_le _
      | @snoc rs lo hi h1 h2 h3 h4 h5 =>
        have a := h1.len (by omega)
        have b := hf lo (by omega)
        rw [List.length_append, List.length_singleton]; omega
    exact this h
theorem range_nat (n : Nat) : rangeD 0 (((n : Int) + 1)).toNat = (List.range (n + 1)).map fun (p : Nat) => PyData.int (p : Int) := by
  unfold rangeD
  rw [show ((n : Int) + 1).toNat = n + 1 by omega]
  refine List.map_congr_left fun x _ => ?_
  rw [Int.zero_add]
section
variable {P : Program} {w : World} {K : PySem.W.Frag} {mg : Str → Option Value} {base : Heap} {Tq : List (Addr × Str)}
abbrev N_Goers_room : List Str := ["self", "word"]
theorem sc_Goers_room : FnScope N_Goers_room ["self", "word"] (defScope (inClass (topS 19) 1)) := ⟨rfl, rfl, rfl, by decide +kernel, rfl, by decide +kernel, by decide +kernel⟩
theorem g_Goers_room {f : Addr} {fd : FuncData} {k : Nat} {aGoers : Addr} {aTable : Addr} (Fn : Fun K "room" "Goers.room" (inClass (topS 19) 1) f fd) (TX : Txt_Goers K aGoers) : FnG P w K mg base Tq (k + 1) f fd ["self", "word"] (spRoom aGoers aTable) := by
  refine fn_g Fn sc_Goers_room (fun ts Q E h => ?_) fun cdv A outer s H E Z ts QT ET hr hgd hp tk h => ?_
  · obtain ⟨g, wd, ws, a, pc, pb, d, u, rfl, q⟩ := h; rfl
  · obtain ⟨g, wd, ws, a, pc, pb, d, u, rfl, q⟩ := h
    -- line 97
    refine wss_one (ws_ret (w_bin dop_sub (w_bin dop_sub (w_fld (w_var 0 ⟨rfl, ⟨TX.cl, TX.n_most⟩, (w_int ⟨rfl, rfl, (w_var 1 ⟨rfl, rfl, ?_⟩)⟩)⟩)))))
    exact ⟨rfl, q⟩
abbrev N_Goers_fitting : List Str := ["self", "word", "place", "length"]
theorem sc_Goers_fitting : FnScope N_Goers_fitting ["self", "word"] (defScope (inClass (topS 19) 2)) := ⟨rfl, rfl, rfl, by decide +kernel, rfl, by decide +kernel, by decide +kernel⟩
theorem g_Goers_fitting {f : Addr} {fd : FuncData} {k : Nat} {aGoers : Addr} {aTable : Addr} (Fn : Fun K "fitting" "Goers.fitting" (inClass (topS 19) 2) f fd) (TX : Txt_Goers K aGoers) (M_room : Mf P w K mg base Tq k aGoers "room" ["self", "word"] (spRoom aGoers aTable)) : FnG P w K mg base Tq (k + 1) f fd ["self", "word"] (spFitting aGoers aTable) := by
  refine fn_g Fn sc_Goers_fitting (fun ts Q E h => ?_) fun cdv A outer s H E Z ts QT ET hr hgd hp tk h => ?_
  · obtain ⟨g, wd, ws, a, pc, pb, d, u, rfl, W, h1, h2, q⟩ := h; rfl
  · obtain ⟨g, wd, ws, a, pc, pb, d, u, rfl, W, h1, h2, q⟩ := h
    have hlen := W.len
    have hrl := rch_len wd ws
    -- line 100
    refine wss_one (ws_ret (w_lcIf (own := [("place", 2), ("length", 3)]) rfl sc_Goers_fitting.nd (blkOk_by (N := N_Goers_fitting) (sc := defScope (inClass (topS 19) 2)) (by decide +kernel)) (fun _ _ _ _ _ => pg_tup (by rfl) (pgs_cons (pg_name (i := 2) sc_Goers_fitting.nd rfl (by first | exact Or.inl rfl | exact Or.inr rfl)) (pgs_cons (pg_name (i := 3) sc_Goers_fitting.nd rfl (by first | exact Or.inl rfl | exact Or.inr rfl)) (pgs_nil)))) (gok_tup (gsok_cons (gok_name 2) (gsok_cons (gok_name 3) (gsok_nil)))) (by decide) (wi_items (w_fld (w_var 0 ⟨rfl, ⟨TX.cl, TX.n_reaches⟩, ⟨rfl, (lc_filt fm_tup2 (enP1 ws) (rch wd ws) (fun p => decide (tl ws p ≤ wd - 1 - u)) (fun (p : Nat) => PyData.int (p : Int)) _ rfl (items_eq wd ws) (by simp only [sizeLine_eq]; omega) (fun k2 x hx => by skip; exact ⟨rfl, ⟨Nat.lt_of_sub_eq_succ rfl, ⟨Nat.lt_of_sub_eq_succ rfl, ⟨rfl, fun s2 H2 C2 cl2 fp2 => (wt_cmp dop_le (w_var 3 (w_meth M_room hr hgd (w_var 0 ⟨⟨rfl, rfl, rfl⟩, ⟨rfl, (w_var 1 ⟨rfl, ⟨g, wd, ws, a, pc, pb, d, u, rfl, ⟨rfl, rfl, ⟨rfl, rfl, _, rfl, ⟨rfl, fun ht s3 H3 C3 cl3 fp3 => (w_var 2 ⟨rfl, rfl⟩), fun ht => rfl⟩⟩⟩⟩⟩)⟩⟩))))⟩⟩⟩⟩) (fun p1 => ?_))⟩⟩)))))
    have e := fit_rch (ws := ws) h1 h2
    rw [e]; exact ⟨rfl, q _⟩
abbrev N_Goers_closed_cost_at : List Str := ["self", "place", "word", "rest"]
theorem sc_Goers_closed_cost_at : FnScope N_Goers_closed_cost_at ["self", "place", "word"] (defScope (inClass (topS 19) 3)) := ⟨rfl, rfl, rfl, by decide +kernel, rfl, by decide +kernel, by decide +kernel⟩
theorem g_Goers_closed_cost_at {f : Addr} {fd : FuncData} {k : Nat} {aGoers : Addr} {aTable : Addr} (Fn : Fun K "closed_cost_at" "Goers.closed_cost_at" (inClass (topS 19) 3) f fd) (TX_Table : Txt_Table K aTable) (TX : Txt_Goers K aGoers) (M_room : Mf P w K mg base Tq k aGoers "room" ["self", "word"] (spRoom aGoers aTable)) : FnG P w K mg base Tq (k + 1) f fd ["self", "place", "word"] (spCca aGoers aTable) := by
  refine fn_g Fn sc_Goers_closed_cost_at (fun ts Q E h => ?_) fun cdv A outer s H E Z ts QT ET hr hgd hp tk h => ?_
  · obtain ⟨g, wd, ws, a, pc, pb, d, u, p, rfl, W, h1, h2, hf, q⟩ := h; rfl
  · obtain ⟨g, wd, ws, a, pc, pb, d, u, p, rfl, W, h1, h2, hf, q⟩ := h
    have hr2 := rchK_at (fits_rch W h1 hf)
    have tb := tl_bd W hf.1
    have w1 := W.w1
    have w2 := W.w2
    -- line 103
    refine wss_cons (ws_set 3 (w_bin dop_sub (w_meth M_room hr hgd (w_var 0 ⟨⟨rfl, rfl, rfl⟩, ⟨rfl, (w_var 2 ⟨rfl, ⟨g, wd, ws, a, pc, pb, d, u, rfl, ⟨rfl, rfl, (w_dix (by first | exact lt1 (room64 hr) | (have := room64 hr; omega)) (w_fld (w_var 0 ⟨rfl, ⟨TX.cl, TX.n_reaches⟩, (w_var 1 ⟨rfl, rfl, _, .inl _, _, rfl, rfl, hr2, ⟨rfl, rfl, ⟨Nat.lt_of_sub_eq_succ rfl, ?_⟩⟩⟩)⟩)))⟩⟩⟩)⟩⟩))) sc_Goers_closed_cost_at.nd)
    -- line 104
    refine wss_one (ws_ret (w_bin dop_add (w_ix (w_fld (w_fld (w_var 0 ⟨rfl, ⟨TX.cl, TX.n_table⟩, ⟨rfl, ⟨TX_Table.cl, TX_Table.n_costs⟩, (w_var 1 ⟨rfl, rfl, _, (csL_at hf.1), (w_bin dop_mul (w_var 3 (w_var 3 ⟨rfl, rfl, (by first | exact cmul_l (by omega) (by omega) | exact cmul_r (by omega) (by omega)), ⟨rfl, rfl, ?_⟩⟩)))⟩)⟩⟩))))))
    exact ⟨rfl, q⟩
abbrev N_Goers_closing_start : List Str := ["self", "word", "place"]
theorem sc_Goers_closing_start : FnScope N_Goers_closing_start ["self", "word"] (defScope (inClass (topS 19) 4)) := ⟨rfl, rfl, rfl, by decide +kernel, rfl, by decide +kernel, by decide +kernel⟩
theorem g_Goers_closing_start {f : Addr} {fd : FuncData} {k : Nat} {aGoers : Addr} {aTable : Addr} (Fn : Fun K "closing_start" "Goers.closing_start" (inClass (topS 19) 4) f fd) (M_closed_cost_at : Mf P w K mg base Tq k aGoers "closed_cost_at" ["self", "place", "word"] (spCca aGoers aTable)) (M_fitting : Mf P w K mg base Tq k aGoers "fitting" ["self", "word"] (spFitting aGoers aTable)) (m_min : mg "min" = none) : FnG P w K mg base Tq (k + 1) f fd ["self", "word"] (spGStart cls aGoers aTable) := by
  refine fn_g Fn sc_Goers_closing_start (fun ts Q E h => ?_) fun cdv A outer s H E Z ts QT ET hr hgd hp tk h => ?_
  · obtain ⟨g, wd, ws, a, pc, pb, d, u, rfl, W, h1, h2, q⟩ := h; rfl
  · obtain ⟨g, wd, ws, a, pc, pb, d, u, rfl, W, h1, h2, q⟩ := h
    have hu := room110 hr
    have hlen := W.len
    have hfl := fit_len wd ws u
    obtain ⟨x, xs, m1, m2, m3, m4, m5⟩ := min_pairs (f := cc wd ws u) (fit_ne (wd := wd) (ws := ws) (u := u) h2)
    have e2 := (cls_is (ws := ws) h2).1
    -- line 107
    refine wss_one (ws_ret (w_bin dop_mul (w_ix (w_callB (dc_minL rfl hu) m_min rfl ⟨rfl, (w_lc (own := [("place", 2)]) rfl sc_Goers_closing_start.nd (blkOk_by (N := N_Goers_closing_start) (sc := defScope (inClass (topS 19) 4)) (by decide +kernel)) (fun _ _ _ _ _ => pg_name (i := 2) sc_Goers_closing_start.nd rfl (by first | exact Or.inl rfl | exact Or.inr rfl)) (gok_name 2) (by decide) (wi_list (w_meth M_fitting hr hgd (w_var 0 ⟨⟨rfl, rfl, rfl⟩, ⟨rfl, (w_var 1 ⟨rfl, ⟨g, wd, ws, a, pc, pb, d, u, rfl, W, h1, h2, fun p_1 => ⟨rfl, rfl, (lc_map fm_name (fun (b : Nat) => PyData.int b) (fit wd ws u) (fun (b : Nat) => PyData.tuple [.int (cc wd ws u b), .int (-(b : Int))]) _ rfl (rfl) (by simp only [sizeLine_eq]; omega) (fun k2 b hx => by have hm := fit_mem.mp (List.mem_of_getElem? hx); exact ⟨Nat.lt_of_sub_eq_succ rfl, fun s2 H2 C2 cl2 fp2 => (w_tup ⟨rfl, (w_meth M_closed_cost_at hr hgd (w_var 0 ⟨⟨rfl, rfl, rfl⟩, ⟨rfl, (w_var 2 ⟨rfl, (w_var 1 ⟨rfl, ⟨g, wd, ws, a, pc, pb, d, u, b, rfl, W, h1, h2, hm, ⟨rfl, rfl, ⟨rfl, (w_bin dop_sub (w_int (w_var 2 ⟨rfl, rfl, ⟨(by first | decide | (simp only [List.length_append, List.length_map, List.length_cons, List.length_nil, List.length_singleton, List.length_replicate, List.length_range, List.length_take, List.length_drop, List.length_dropLast, List.length_reverse, Bool.false_eq_true, eq_self, reduceIte, sizeLine_eq]; omega)), ⟨by rw [Int.zero_sub], rfl⟩⟩⟩)))⟩⟩⟩⟩)⟩)⟩⟩))⟩)⟩) (fun p1 => ⟨rfl, ⟨_, _, _, (.inl (congrArg (fun z => [PyData.list z]) m1)), m3, m4, m5, (m2.trans (congrArg pD e2)), (w_int ⟨rfl, rfl, _, rfl, (w_neg (w_int ⟨rfl, ⟨rfl, rfl, (by first | exact cmul_l (by omega) (by omega) | exact cmul_r (by omega) (by omega)), ?_⟩⟩))⟩)⟩⟩))⟩⟩⟩)⟩⟩))))⟩))))
    refine ⟨rfl, ?_⟩
    show QT (.va (.int (-(cls wd ws u : Int) * -1))) _
    rw [show -(cls wd ws u : Int) * -1 = (cls wd ws u : Int) by omega]; exact q
abbrev N_Goers_open_start : List Str := ["self", "word", "place"]
theorem sc_Goers_open_start : FnScope N_Goers_open_start ["self", "word"] (defScope (inClass (topS 19) 5)) := ⟨rfl, rfl, rfl, by decide +kernel, rfl, by decide +kernel, by decide +kernel⟩
theorem g_Goers_open_start {f : Addr} {fd : FuncData} {k : Nat} {aGoers : Addr} {aTable : Addr} (Fn : Fun K "open_start" "Goers.open_start" (inClass (topS 19) 5) f fd) (TX_Table : Txt_Table K aTable) (TX : Txt_Goers K aGoers) (M_fitting : Mf P w K mg base Tq k aGoers "fitting" ["self", "word"] (spFitting aGoers aTable)) (m_min : mg "min" = none) : FnG P w K mg base Tq (k + 1) f fd ["self", "word"] (spGStart opn aGoers aTable) := by
  refine fn_g Fn sc_Goers_open_start (fun ts Q E h => ?_) fun cdv A outer s H E Z ts QT ET hr hgd hp tk h => ?_
  · obtain ⟨g, wd, ws, a, pc, pb, d, u, rfl, W, h1, h2, q⟩ := h; rfl
  · obtain ⟨g, wd, ws, a, pc, pb, d, u, rfl, W, h1, h2, q⟩ := h
    have hu := room110 hr
    have hlen := W.len
    have hfl := fit_len wd ws u
    obtain ⟨x, xs, m1, m2, m3, m4, m5⟩ := min_pairs (f := C wd ws) (fit_ne (wd := wd) (ws := ws) (u := u) h2)
    have e2 := (opn_is (ws := ws) h2).1
    -- line 110
    refine wss_one (ws_ret (w_bin dop_mul (w_ix (w_callB (dc_minL rfl hu) m_min rfl ⟨rfl, (w_lc (own := [("place", 2)]) rfl sc_Goers_open_start.nd (blkOk_by (N := N_Goers_open_start) (sc := defScope (inClass (topS 19) 5)) (by decide +kernel)) (fun _ _ _ _ _ => pg_name (i := 2) sc_Goers_open_start.nd rfl (by first | exact Or.inl rfl | exact Or.inr rfl)) (gok_name 2) (by decide) (wi_list (w_meth M_fitting hr hgd (w_var 0 ⟨⟨rfl, rfl, rfl⟩, ⟨rfl, (w_var 1 ⟨rfl, ⟨g, wd, ws, a, pc, pb, d, u, rfl, W, h1, h2, fun p_1 => ⟨rfl, rfl, (lc_map fm_name (fun (b : Nat) => PyData.int b) (fit wd ws u) (fun (b : Nat) => PyData.tuple [.int (C wd ws b), .int (-(b : Int))]) _ rfl (rfl) (by simp only [sizeLine_eq]; omega) (fun k2 b hx => by have hm := fit_mem.mp (List.mem_of_getElem? hx); exact ⟨Nat.lt_of_sub_eq_succ rfl, fun s2 H2 C2 cl2 fp2 => (w_tup ⟨rfl, (w_ix (w_fld (w_fld (w_var 0 ⟨rfl, ⟨TX.cl, TX.n_table⟩, ⟨rfl, ⟨TX_Table.cl, TX_Table.n_costs⟩, (w_var 2 ⟨rfl, rfl, _, (csL_at hm.1), ⟨rfl, (w_bin dop_sub (w_int (w_var 2 ⟨rfl, rfl, ⟨(by first | decide | (simp only [List.length_append, List.length_map, List.length_cons, List.length_nil, List.length_singleton, List.length_replicate, List.length_range, List.length_take, List.length_drop, List.length_dropLast, List.length_reverse, Bool.false_eq_true, eq_self, reduceIte, sizeLine_eq]; omega)), ⟨by rw [Int.zero_sub], rfl⟩⟩⟩)))⟩⟩)⟩⟩))))⟩)⟩) (fun p1 => ⟨rfl, ⟨_, _, _, (.inl (congrArg (fun z => [PyData.list z]) m1)), m3, m4, m5, (m2.trans (congrArg pD e2)), (w_int ⟨rfl, rfl, _, rfl, (w_neg (w_int ⟨rfl, ⟨rfl, rfl, (cmul_r (by decide) (by decide)), ?_⟩⟩))⟩)⟩⟩))⟩⟩⟩)⟩⟩))))⟩))))
    refine ⟨rfl, ?_⟩
    show QT (.va (.int (-(opn wd ws u : Int) * -1))) _
    rw [show -(opn wd ws u : Int) * -1 = (opn wd ws u : Int) by omega]; exact q
abbrev N_Goers_last_fitting : List Str := ["self", "place"]
theorem sc_Goers_last_fitting : FnScope N_Goers_last_fitting ["self", "place"] (defScope (inClass (topS 19) 6)) := ⟨rfl, rfl, rfl, by decide +kernel, rfl, by decide +kernel, by decide +kernel⟩
theorem g_Goers_last_fitting {f : Addr} {fd : FuncData} {k : Nat} {aGoers : Addr} {aTable : Addr} (Fn : Fun K "last_fitting" "Goers.last_fitting" (inClass (topS 19) 6) f fd) (TX : Txt_Goers K aGoers) (m_min : mg "min" = none) : FnG P w K mg base Tq (k + 1) f fd ["self", "place"] (spGLast lfit aGoers aTable) := by
  refine fn_g Fn sc_Goers_last_fitting (fun ts Q E h => ?_) fun cdv A outer s H E Z ts QT ET hr hgd hp tk h => ?_
  · obtain ⟨g, wd, ws, a, pc, pb, d, p, rfl, W, hpr, q⟩ := h; rfl
  · obtain ⟨g, wd, ws, a, pc, pb, d, p, rfl, W, hpr, q⟩ := h
    have hr2 := rchK_at hpr
    -- line 113
    refine wss_one (ws_ret (w_callB (dc_min2 rfl) m_min rfl ⟨rfl, (w_fld (w_var 0 ⟨rfl, ⟨TX.cl, TX.n_most⟩, ⟨rfl, (w_bin dop_sub (w_bin dop_sub (w_fld (w_var 0 ⟨rfl, ⟨TX.cl, TX.n_most⟩, (w_int ⟨rfl, rfl, (w_dix (by first | exact lt1 (room64 hr) | (have := room64 hr; omega)) (w_fld (w_var 0 ⟨rfl, ⟨TX.cl, TX.n_reaches⟩, (w_var 1 ⟨rfl, rfl, _, .inl _, _, rfl, rfl, hr2, ⟨rfl, rfl, ⟨rfl, ⟨rfl, ?_⟩⟩⟩⟩)⟩)))⟩)⟩))))⟩⟩))⟩))
    exact ⟨rfl, q⟩
abbrev N_Goers_last_closing : List Str := ["self", "place", "own", "paid", "found", "other", "length", "gain"]
theorem sc_Goers_last_closing : FnScope N_Goers_last_closing ["self", "place"] (defScope (inClass (topS 19) 7)) := ⟨rfl, rfl, rfl, by decide +kernel, rfl, by decide +kernel, by decide +kernel⟩
theorem g_Goers_last_closing {f : Addr} {fd : FuncData} {k : Nat} {aGoers : Addr} {aTable : Addr} (Fn : Fun K "last_closing" "Goers.last_closing" (inClass (topS 19) 7) f fd) (TX_Table : Txt_Table K aTable) (TX : Txt_Goers K aGoers) (M_last_fitting : Mf P w K mg base Tq k aGoers "last_fitting" ["self", "place"] (spGLast LM.lfit aGoers aTable)) (m_min : mg "min" = none) : FnG P w K mg base Tq (k + 1) f fd ["self", "place"] (spGLast lclo aGoers aTable) := by
  refine fn_g Fn sc_Goers_last_closing (fun ts Q E h => ?_) fun cdv A outer s H E Z ts QT ET hr hgd hp tk h => ?_
  · obtain ⟨g, wd, ws, a, pc, pb, d, p, rfl, W, hpr, q⟩ := h; rfl
  · obtain ⟨g, wd, ws, a, pc, pb, d, p, rfl, W, hpr, q⟩ := h
    have hr2 := rchK_at hpr
    have hpl := rch_le hpr
    have tb := tl_bd W hpl
    -- line 116
    refine wss_cons (ws_par3 2 3 4 rfl sc_Goers_last_closing.nd ⟨rfl, (w_dix (by first | exact lt1 (room64 hr) | (have := room64 hr; omega)) (w_fld (w_var 0 ⟨rfl, ⟨TX.cl, TX.n_reaches⟩, (w_var 1 ⟨rfl, rfl, _, .inl _, _, rfl, rfl, hr2, ⟨rfl, (w_ix (w_fld (w_fld (w_var 0 ⟨rfl, ⟨TX.cl, TX.n_table⟩, ⟨rfl, ⟨TX_Table.cl, TX_Table.n_costs⟩, (w_var 1 ⟨rfl, rfl, _, (csL_at hpl), ⟨rfl, (w_meth M_last_fitting hr hgd (w_var 0 ⟨⟨rfl, rfl, rfl⟩, ⟨rfl, (w_var 1 ⟨rfl, ⟨g, wd, ws, a, pc, pb, d, p, rfl, W, hpr, ⟨rfl, rfl, ⟨_, _, _, rfl, Nat.lt_of_sub_eq_succ rfl, Nat.lt_of_sub_eq_succ rfl, Nat.lt_of_sub_eq_succ rfl, ?_⟩⟩⟩⟩)⟩⟩))⟩⟩)⟩⟩))))⟩⟩)⟩)))⟩)
    -- line 117
    refine wss_cons (ws_for hp rfl (pg_tup (by rfl) (pgs_cons (pg_name (i := 5) sc_Goers_last_closing.nd rfl (by first | exact Or.inl rfl | exact Or.inr rfl)) (pgs_cons (pg_name (i := 6) sc_Goers_last_closing.nd rfl (by first | exact Or.inl rfl | exact Or.inr rfl)) (pgs_nil)))) (gok_tup (gsok_cons (gok_name 5) (gsok_cons (gok_name 6) (gsok_nil)))) (wi_items (w_fld (w_var 0 ⟨rfl, ⟨TX.cl, TX.n_reaches⟩, ⟨rfl, ?_⟩⟩))))
    rw [items_eq]
    refine ⟨fun k e => ∃ o5 o6 o7, e = [some (.ins g aGoers (goF aTable wd ws a pc pb d)), some (.va (.int (p : Int))), some (.va (.int (tl ws p))), some (.va (.int (C wd ws p))), some (.va (.int (((rch wd ws).take k).foldl (lcloF wd ws p) (lfit wd ws p)))), o5, o6, o7], ⟨none, none, none, rfl⟩, ?_, ?_⟩
    · rintro k dd e hd ⟨o5, o6, o7, rfl⟩
      rw [List.getElem?_map, Option.map_eq_some_iff] at hd
      obtain ⟨x, hx, rfl⟩ := hd
      have hxr := List.mem_of_getElem? hx
      have hxl := rch_le hxr
      have tx := tl_bd W hxl
      have tk : (rch wd ws).take (k + 1) = (rch wd ws).take k ++ [x] := by rw [List.take_add_one, hx]; rfl
      refine ⟨rfl, Nat.lt_of_sub_eq_succ rfl, Nat.lt_of_sub_eq_succ rfl, rfl, ?_⟩
      -- line 118
      refine wss_one (ws_if (wt_cmp dop_gt (w_var 5 (w_var 1 ⟨rfl, rfl, _, rfl, ⟨fun h => ?_, fun h => ?_⟩⟩))))
      · have hlt : p < x := by have := of_decide_eq_true h; omega
        have tlt := tl_lt W hlt hxl
        -- line 119
        refine wss_cons (ws_set 7 (w_bin dop_sub (w_bin dop_add (w_bin dop_sub (w_var 3 (w_ix (w_fld (w_fld (w_var 0 ⟨rfl, ⟨TX.cl, TX.n_table⟩, ⟨rfl, ⟨TX_Table.cl, TX_Table.n_costs⟩, (w_var 5 ⟨rfl, rfl, _, (csL_at hxl), ⟨rfl, rfl, (w_bin dop_mul (w_var 2 (w_var 2 ⟨rfl, rfl, (by first | exact cmul_l (by omega) (by omega) | exact cmul_r (by omega) (by omega)), ⟨rfl, rfl, (w_bin dop_mul (w_var 6 (w_var 6 ⟨rfl, rfl, (by first | exact cmul_l (by omega) (by omega) | exact cmul_r (by omega) (by omega)), ⟨rfl, rfl, ⟨Nat.lt_of_sub_eq_succ rfl, ?_⟩⟩⟩)))⟩⟩)))⟩⟩)⟩⟩)))))))) sc_Goers_last_closing.nd)
        -- line 120
        refine wss_one (ws_set 4 (w_callB (dc_min2 rfl) m_min rfl ⟨rfl, (w_var 4 ⟨rfl, (w_bin dop_sub (w_bin dop_sub (w_fld (w_var 0 ⟨rfl, ⟨TX.cl, TX.n_most⟩, (w_int ⟨rfl, rfl, (w_bin dop_fdiv (w_var 7 (w_bin dop_mul (w_int (w_bin dop_sub (w_var 2 (w_var 6 ⟨rfl, rfl, ⟨rfl, rfl, (by first | exact cmul_l (by omega) (by omega) | exact cmul_r (by omega) (by omega)), ⟨rfl, rfl, ⟨by omega, by omega⟩, ⟨rfl, rfl, ⟨rfl, ⟨rfl, ⟨Nat.lt_of_sub_eq_succ rfl, ?_⟩⟩⟩⟩⟩⟩⟩)))))))⟩)⟩))))⟩)⟩) sc_Goers_last_closing.nd)
        refine ⟨some (.va (.int (x : Int))), some (.va (.int (tl ws x))), some (.va (.int (gain wd ws p x))), ?_⟩
        rw [tk, List.foldl_append, List.foldl_cons, List.foldl_nil]
        rw [show lcloF wd ws p (((rch wd ws).take k).foldl (lcloF wd ws p) (lfit wd ws p)) x = min (((rch wd ws).take k).foldl (lcloF wd ws p) (lfit wd ws p)) (wd - 2 - gain wd ws p x / (2 * (tl ws p - tl ws x))) from if_pos hlt]
        rfl
      · have hlt : ¬ p < x := by have := of_decide_eq_false h; omega
        refine wss_nil ⟨some (.va (.int (x : Int))), some (.va (.int (tl ws x))), o7, ?_⟩
        rw [tk, List.foldl_append, List.foldl_cons, List.foldl_nil, show lcloF wd ws p (((rch wd ws).take k).foldl (lcloF wd ws p) (lfit wd ws p)) x = ((rch wd ws).take k).foldl (lcloF wd ws p) (lfit wd ws p) from if_neg hlt]
        rfl
    · rintro e ⟨o5, o6, o7, rfl⟩
      rw [List.length_map, List.take_length]
      -- line 121
      refine wss_one (ws_ret (w_var 4 ?_))
      exact ⟨rfl, q⟩
end
end K26

namespace K26
open PySem PySem.Spec PyProof.Rows L2 QL
open LM
section
variable {P : Program} {w : World} {K : PySem.W.Frag} {mg : Str → Option Value} {base : Heap} {Tq : List (Addr × Str)}
abbrev N_Goers___init__ : List Str := ["self", "width", "text", "sums", "count", "lengths", "place", "length"]
theorem sc_Goers___init__ : FnScope N_Goers___init__ ["self", "width", "text"] (defScope (inClass (topS 19) 0)) := ⟨rfl, rfl, rfl, by decide +kernel, rfl, by decide +kernel, by decide +kernel⟩
theorem g_Goers___init__ {f : Addr} {fd : FuncData} {k : Nat} {aGoers : Addr} {aTable : Addr} (Fn : Fun K "__init__" "Goers.__init__" (inClass (topS 19) 0) f fd) (TX : Txt_Goers K aGoers) (G_length_by : Df P w K mg base Tq k "length_by" ["sums", "begin", "end"] spLenBy) (G_sums_of : Df P w K mg base Tq k "sums_of" ["text"] spSums) (C_Table : Ck P w K mg base Tq k "Table" aTable ["self", "width", "text"] (spInit aTable)) (m_len : mg "len" = none) (m_range : mg "range" = none) : FnG P w K mg base Tq (k + 2) f fd ["self", "width", "text"] (spGInit aGoers aTable) := by
  have G_length_by := G_length_by.mono (Nat.le_succ k)
  have G_sums_of := G_sums_of.mono (Nat.le_succ k)
  refine fn_g Fn sc_Goers___init__ (fun ts Q E h => ?_) fun cdv A outer s H E Z ts QT ET hr hgd hp tk h => ?_
  · obtain ⟨g, wd, ws, rfl, W, q⟩ := h; rfl
  · obtain ⟨g, wd, ws, rfl, W, q⟩ := h
    have hlen := W.len
    have hnl : (iDs ws).length = ws.length := List.length_map _
    -- line 90
    refine wss_cons (ws_fld 0 (w_var 1 ⟨⟨TX.cl, TX.n_most, Nat.lt_of_sub_eq_succ rfl⟩, ?_⟩))
    -- line 91
    refine wss_cons (ws_fld 0 (w_make C_Table hr hgd ⟨rfl, (w_var 1 ⟨rfl, (w_var 2 fun pN1 => ⟨_, wd, ws, rfl, W, fun pc_1 pb_1 => ⟨rfl, rfl, ⟨⟨TX.cl, TX.n_table, Nat.lt_of_sub_eq_succ rfl⟩, ?_⟩⟩⟩)⟩)⟩))
    -- line 92
    refine wss_cons (ws_asg (pg_tup (by rfl) (pgs_cons (pg_name (i := 3) sc_Goers___init__.nd rfl (by first | exact Or.inl rfl | exact Or.inr rfl)) (pgs_cons (pg_name (i := 4) sc_Goers___init__.nd rfl (by first | exact Or.inl rfl | exact Or.inr rfl)) (pgs_nil)))) (gok_tup (gsok_cons (gok_name 3) (gsok_cons (gok_name 4) (gsok_nil)))) (w_tup ⟨rfl, (w_fn G_sums_of hr hgd ⟨rfl, (w_var 2 ⟨_, rfl, (by first | assumption | omega | decide), ⟨rfl, (w_callB dc_len m_len rfl ⟨rfl, (w_var 2 ⟨rfl, ⟨(by first | decide | (simp only [List.length_append, List.length_map, List.length_cons, List.length_nil, List.length_singleton, List.length_replicate, List.length_range, List.length_take, List.length_drop, List.length_dropLast, List.length_reverse, Bool.false_eq_true, eq_self, reduceIte, sizeLine_eq]; omega)), ⟨_, rfl, rfl, ⟨Nat.lt_of_sub_eq_succ rfl, ⟨Nat.lt_of_sub_eq_succ rfl, ⟨rfl, ?_⟩⟩⟩⟩⟩⟩)⟩)⟩⟩)⟩)⟩))
    -- line 93
    refine wss_cons (ws_setLc 5 (own := [("place", 6)]) rfl sc_Goers___init__.nd (blkOk_by (N := N_Goers___init__) (sc := defScope (inClass (topS 19) 0)) (by decide +kernel)) (fun _ _ _ _ _ => pg_name (i := 6) sc_Goers___init__.nd rfl (by first | exact Or.inl rfl | exact Or.inr rfl)) (gok_name 6) (by decide) (wi_range1 m_range ⟨rfl, (w_bin dop_add (w_var 4 (w_int ⟨rfl, rfl, ⟨rfl, ⟨by omega, by omega⟩, ?lc⟩⟩)))⟩))
    case lc =>
      refine lc_map fm_name (fun (p : Nat) => PyData.int (p : Int)) (List.range (ws.length + 1)) (fun p => enP1 ws p) _ rfl ?hd (by rw [List.length_range, sizeLine_eq]; omega) (fun k2 x hx => ?el) (fun pL => ?fin)
      case hd => rw [hnl]; exact range_nat ws.length
      case el =>
        have hxl : x ≤ ws.length := by have := List.mem_range.mp (List.mem_of_getElem? hx); omega
        refine ⟨Nat.lt_of_sub_eq_succ rfl, fun s2 H2 C2 cl2 fp2 => (w_tup ⟨rfl, (w_var 6 ⟨rfl, (w_fn G_length_by hr hgd ⟨rfl, (w_var 3 ⟨rfl, (w_var 6 ⟨rfl, (w_var 4 ⟨ws, x, ws.length, (by rw [hnl]), hxl, (Nat.le_refl _), ⟨(by first | decide | (simp only [List.length_append, List.length_map, List.length_cons, List.length_nil, List.length_singleton, List.length_replicate, List.length_range, List.length_take, List.length_drop, List.length_dropLast, List.length_reverse, Bool.false_eq_true, eq_self, reduceIte, sizeLine_eq]; omega)), ⟨rfl, rfl⟩⟩⟩)⟩)⟩)⟩)⟩)⟩)⟩
      case fin =>
        refine ⟨Nat.lt_of_sub_eq_succ rfl, ?_⟩
        -- line 94
        refine wss_one (ws_fld 0 (w_dcIf (own := [("place", 6), ("length", 7)]) rfl sc_Goers___init__.nd (blkOk_by (N := N_Goers___init__) (sc := defScope (inClass (topS 19) 0)) (by decide +kernel)) (fun _ _ _ _ _ => pg_tup (n := 2) (by rfl) (pgs_cons (pg_name (i := 6) sc_Goers___init__.nd rfl (by first | exact Or.inl rfl | exact Or.inr rfl)) (pgs_cons (pg_name (i := 7) sc_Goers___init__.nd rfl (by first | exact Or.inl rfl | exact Or.inr rfl)) (pgs_nil)))) (gok_tup (gsok_cons (gok_name 6) (gsok_cons (gok_name 7) (gsok_nil)))) (by decide) (wi_list (w_var 5 ⟨rfl, ?dc⟩))))
        case dc =>
          refine dc_filt fm_tup2 (enP1 ws) (List.range (ws.length + 1)) (fun p => decide (p = ws.length ∨ tl ws p ≤ wd - 2)) (fun p => .inl (p : Int)) (fun p => .int (tl ws p)) _ rfl rfl (by rw [List.length_range, sizeLine_eq]; omega) ?nd (fun k2 x hx => ?st) (fun pD => ?fn)
          case nd =>
            rw [List.nodup_iff_pairwise_ne, List.pairwise_map]
            exact (List.pairwise_lt_range).imp fun {a b} h z => by have : (a : Int) = b := Sum.inl.inj z; omega
          case st =>
            refine ⟨rfl, ⟨Nat.lt_of_sub_eq_succ rfl, ⟨Nat.lt_of_sub_eq_succ rfl, ⟨rfl, fun s2 H2 C2 cl2 fp2 => (WW.t (ww_or (wt_cmp (dop_eq (room64 hr)) (w_var 6 (w_var 4 ⟨rfl, rfl, _, rfl, ⟨fun h => (ww_or1 (wt_cmp dop_le (w_var 7 (w_bin dop_sub (w_var 1 (w_int ⟨rfl, rfl, ⟨rfl, rfl, _, rfl, ⟨?t2, fun ht s3 H3 C3 cl3 fp3 => (w_var 6 ⟨rfl, fun s4 H4 C4 cl4 fp4 => (w_var 7 ⟨rfl, rfl⟩)⟩), fun ht => rfl⟩⟩⟩)))))), fun h => ⟨?t1, fun ht s3 H3 C3 cl3 fp3 => (w_var 6 ⟨rfl, fun s4 H4 C4 cl4 fp4 => (w_var 7 ⟨rfl, rfl⟩)⟩), fun ht => rfl⟩⟩⟩)))))⟩⟩⟩⟩
            case t1 =>
              have h := of_decide_eq_true h
              rw [hnl] at h
              exact (decide_eq_true (.inl (by omega))).symm
            case t2 =>
              have h := of_decide_eq_false h
              rw [hnl] at h
              show decide (tl ws x ≤ wd - 2) = decide (x = ws.length ∨ tl ws x ≤ wd - 2)
              by_cases z : tl ws x ≤ wd - 2
              · rw [decide_eq_true z, decide_eq_true (.inr z)]
              · rw [decide_eq_false z, decide_eq_false (by omega)]
          case fn => exact ⟨⟨TX.cl, TX.n_reaches, Nat.lt_of_sub_eq_succ rfl⟩, rfl, q _ _ _ pD⟩
abbrev N_Goers_ranges : List Str := ["self", "is_closing", "found", "low", "start", "high"]
theorem sc_Goers_ranges : FnScope N_Goers_ranges ["self", "is_closing"] (defScope (inClass (topS 19) 8)) := ⟨rfl, rfl, rfl, by decide +kernel, rfl, by decide +kernel, by decide +kernel⟩
theorem g_Goers_ranges {f : Addr} {fd : FuncData} {k : Nat} {aGoers : Addr} {aTable : Addr} (Fn : Fun K "ranges" "Goers.ranges" (inClass (topS 19) 8) f fd) (TX : Txt_Goers K aGoers) (M_closing_start : Mf P w K mg base Tq k aGoers "closing_start" ["self", "word"] (spGStart LM.cls aGoers aTable)) (M_last_closing : Mf P w K mg base Tq k aGoers "last_closing" ["self", "place"] (spGLast LM.lclo aGoers aTable)) (M_last_fitting : Mf P w K mg base Tq k aGoers "last_fitting" ["self", "place"] (spGLast LM.lfit aGoers aTable)) (M_open_start : Mf P w K mg base Tq k aGoers "open_start" ["self", "word"] (spGStart LM.opn aGoers aTable)) (m_tuple : mg "tuple" = none) : FnG P w K mg base Tq (k + 1) f fd ["self", "is_closing"] (spRanges aGoers aTable) := by
  refine fn_g Fn sc_Goers_ranges (fun ts Q E h => ?_) fun cdv A outer s H E Z ts QT ET hr hgd hp tk h => ?_
  · obtain ⟨g, wd, ws, a, pc, pb, d, b, rfl, W, q⟩ := h; rfl
  · obtain ⟨g, wd, ws, a, pc, pb, d, b, rfl, W, q⟩ := h
    have hlen := W.len
    have w1 := W.w1
    have hn : ∀ u, u ≤ wd → stF b wd ws u ≤ ws.length := fun u h => by unfold stF; split; exact cls_le h; exact opn_le h
    -- line 124
    refine wss_cons (ws_par 2 3 rfl sc_Goers_ranges.nd (w_lst ⟨(by first | decide | (simp only [List.length_append, List.length_map, List.length_cons, List.length_nil, List.length_singleton, List.length_replicate, List.length_range, List.length_take, List.length_drop, List.length_dropLast, List.length_reverse, Bool.false_eq_true, eq_self, reduceIte, sizeLine_eq]; omega)), fun p1 => ⟨_, rfl, (w_int ⟨_, rfl, Nat.lt_of_sub_eq_succ rfl, Nat.lt_of_sub_eq_succ rfl, ?_⟩)⟩⟩))
    let Iv : Nat → QL.Env → Prop := fun m en => ∃ (lo : Int) (rs : List (Int × Int × Nat)) (o4 o5 : Option T), m = (wd + 1 - lo).toNat ∧ lo ≤ wd + 1 ∧ Rgs wd (stF b wd ws) rs lo ∧ en = [some (.ins g aGoers (goF aTable wd ws a pc pb d)), some (.va (.bool b)), some (.lst p1 (rs.map enR)), some (.va (.int lo)), o4, o5]
    -- line 125
    refine wss_cons (ws_while Iv (wd + 1 - 1).toNat ⟨1, [], none, none, rfl, by omega, .nil, rfl⟩ ?step hp)
    case step =>
      rintro m en ⟨lo, rs, o4, o5, rfl, hlo, hrg, rfl⟩
      refine (wt_cmp dop_le (w_var 3 (w_fld (w_var 0 ⟨rfl, ⟨TX.cl, TX.n_most⟩, ⟨rfl, rfl, _, rfl, ⟨fun h => ?_, fun h => ?_⟩⟩⟩))))
      · have hle : lo ≤ wd := of_decide_eq_true h
        have h1 := hrg.one
        have hrl := hrg.len hle
        have hfl := hn lo hle
        have rg : lo ≤ (if b = true then lclo wd ws (stF b wd ws lo) else lfit wd ws (stF b wd ws lo)) ∧ (if b = true then lclo wd ws (stF b wd ws lo) else lfit wd ws (stF b wd ws lo)) ≤ wd ∧ (∀ v, lo ≤ v → v ≤ (if b = true then lclo wd ws (stF b wd ws lo) else lfit wd ws (stF b wd ws lo)) → stF b wd ws v = stF b wd ws lo) ∧ ((if b = true then lclo wd ws (stF b wd ws lo) else lfit wd ws (stF b wd ws lo)) + 1 ≤ wd → stF b wd ws lo < stF b wd ws ((if b = true then lclo wd ws (stF b wd ws lo) else lfit wd ws (stF b wd ws lo)) + 1)) := by
          cases b with
          | true => exact cls_range W h1 hle
          | false => exact opn_range W h1 hle
        have hst : stF b wd ws lo ∈ rch wd ws := by
          cases b with
          | true => exact fits_rch W h1 (cls_is hle).2.1
          | false => exact fits_rch W h1 (opn_is hle).2.1
        generalize hhi : (if b = true then lclo wd ws (stF b wd ws lo) else lfit wd ws (stF b wd ws lo)) = hi at rg
        obtain ⟨r1, r2, r3, r4⟩ := rg
        -- line 126
        refine wss_cons (ws_set 4 (WE.to (r0 := .t (.va (.int (stF b wd ws lo : Int)))) (e1 := [some (.ins g aGoers (goF aTable wd ws a pc pb d)), some (.va (.bool b)), some (.lst p1 (rs.map enR)), some (.va (.int lo)), o4, o5]) (w_ifExp (wt_val (w_var 1 ⟨_, rfl, ⟨fun h => (w_meth M_closing_start hr hgd (w_var 0 ⟨⟨rfl, rfl, rfl⟩, ⟨rfl, (w_var 3 ⟨rfl, ⟨g, wd, ws, a, pc, pb, d, lo, rfl, W, h1, hle, ⟨rfl, rfl, ⟨?i1, rfl⟩⟩⟩⟩)⟩⟩)), fun h => (w_meth M_open_start hr hgd (w_var 0 ⟨⟨rfl, rfl, rfl⟩, ⟨rfl, (w_var 3 ⟨rfl, ⟨g, wd, ws, a, pc, pb, d, lo, rfl, W, h1, hle, ⟨rfl, rfl, ⟨?i2, rfl⟩⟩⟩⟩)⟩⟩))⟩⟩))) ⟨Nat.lt_of_sub_eq_succ rfl, ?_⟩) sc_Goers_ranges.nd)
        case i1 => have h : b = true := h; subst h; rfl
        case i2 => have h : b = false := h; subst h; rfl
        -- line 127
        refine wss_cons (ws_set 5 (WE.to (r0 := .t (.va (.int hi))) (e1 := [some (.ins g aGoers (goF aTable wd ws a pc pb d)), some (.va (.bool b)), some (.lst p1 (rs.map enR)), some (.va (.int lo)), some (.va (.int (stF b wd ws lo : Int))), o5]) (w_ifExp (wt_val (w_var 1 ⟨_, rfl, ⟨fun h => (w_meth M_last_closing hr hgd (w_var 0 ⟨⟨rfl, rfl, rfl⟩, ⟨rfl, (w_var 4 ⟨rfl, ⟨g, wd, ws, a, pc, pb, d, stF b wd ws lo, rfl, W, hst, ⟨rfl, rfl, ⟨?i3, rfl⟩⟩⟩⟩)⟩⟩)), fun h => (w_meth M_last_fitting hr hgd (w_var 0 ⟨⟨rfl, rfl, rfl⟩, ⟨rfl, (w_var 4 ⟨rfl, ⟨g, wd, ws, a, pc, pb, d, stF b wd ws lo, rfl, W, hst, ⟨rfl, rfl, ⟨?i4, rfl⟩⟩⟩⟩)⟩⟩))⟩⟩))) ⟨Nat.lt_of_sub_eq_succ rfl, ?_⟩) sc_Goers_ranges.nd)
        case i3 => have h : b = true := h; rw [← hhi, if_pos h]
        case i4 => have h : b = false := h; subst h; rw [← hhi]; rfl
        -- line 128
        refine wss_cons (ws_expr (w_append (w_var 2 ⟨_, _, _, _, rfl, rfl, (w_tup ⟨rfl, (w_var 3 ⟨rfl, (w_var 5 ⟨rfl, (w_var 4 ⟨(by first | decide | (simp only [List.length_append, List.length_map, List.length_cons, List.length_nil, List.length_singleton, List.length_replicate, List.length_range, List.length_take, List.length_drop, List.length_dropLast, List.length_reverse, Bool.false_eq_true, eq_self, reduceIte, sizeLine_eq]; omega)), ⟨_, _, rfl, rfl, (by simp only [List.length_append, List.length_map, List.length_cons, List.length_nil, List.length_singleton, List.length_replicate, List.length_range, List.length_take, List.length_drop, List.length_dropLast, List.length_reverse, Bool.false_eq_true, eq_self, reduceIte, sizeLine_eq]; omega), ?_⟩⟩)⟩)⟩)⟩)⟩)))
        -- line 129
        refine wss_one (ws_set 3 (w_bin dop_add (w_var 5 (w_int ⟨rfl, rfl, ⟨Nat.lt_of_sub_eq_succ rfl, ?_⟩⟩))) sc_Goers_ranges.nd)
        refine ⟨(wd + 1 - (hi + 1)).toNat, by omega, hi + 1, rs ++ [(lo, hi, stF b wd ws lo)], some (.va (.int (stF b wd ws lo : Int))), some (.va (.int hi)), rfl, by omega, .snoc hrg r1 r2 r3 r4, ?_⟩
        rw [List.map_append]; rfl
      · have hle : lo = wd + 1 := by have := of_decide_eq_false h; omega
        subst hle
        show WSs _ _ _ _ _
        -- line 130
        refine wss_one (ws_ret (w_callTy dc_tuple m_tuple rfl ⟨rfl, (w_var 2 ⟨rfl, ?_⟩)⟩))
        exact ⟨rfl, q _ hrg⟩
abbrev N_closing_starts : List Str := ["width", "text"]
theorem sc_closing_starts : FnScope N_closing_starts ["width", "text"] (defScope (topS 20)) := ⟨rfl, rfl, rfl, by decide +kernel, rfl, by decide +kernel, by decide +kernel⟩
theorem g_closing_starts {f : Addr} {fd : FuncData} {k : Nat} {aGoers : Addr} {aTable : Addr} (Fn : Fun K "closing_starts" "closing_starts" (topS 20) f fd) (M_ranges : Mf P w K mg base Tq k aGoers "ranges" ["self", "is_closing"] (spRanges aGoers aTable)) (C_Goers : Ck P w K mg base Tq k "Goers" aGoers ["self", "width", "text"] (spGInit aGoers aTable)) : FnG P w K mg base Tq (k + 2) f fd ["width", "text"] (spRgs cls) := by
  have M_ranges := M_ranges.mono (Nat.le_succ k)
  refine fn_g Fn sc_closing_starts (fun ts Q E h => ?_) fun cdv A outer s H E Z ts QT ET hr hgd hp tk h => ?_
  · obtain ⟨wd, ws, rfl, W, q⟩ := h; rfl
  · obtain ⟨wd, ws, rfl, W, q⟩ := h
    -- line 132
    refine wss_one (ws_ret (w_methT M_ranges hr hgd (w_make C_Goers hr hgd ⟨rfl, (w_var 0 ⟨rfl, (w_var 1 fun pN1 => ⟨_, wd, ws, rfl, W, fun a_1 pc_1 pb_1 d_1 => ⟨rfl, rfl, ⟨⟨rfl, rfl⟩, ⟨rfl, (w_bl ⟨_, wd, ws, _, _, _, _, true, rfl, W, fun rs_2 hrs_2 => ?_⟩)⟩⟩⟩⟩)⟩)⟩)))
    exact q _ hrs_2 (rgs_len hrs_2 fun u h => cls_le h)
abbrev N_open_starts : List Str := ["width", "text"]
theorem sc_open_starts : FnScope N_open_starts ["width", "text"] (defScope (topS 21)) := ⟨rfl, rfl, rfl, by decide +kernel, rfl, by decide +kernel, by decide +kernel⟩
theorem g_open_starts {f : Addr} {fd : FuncData} {k : Nat} {aGoers : Addr} {aTable : Addr} (Fn : Fun K "open_starts" "open_starts" (topS 21) f fd) (M_ranges : Mf P w K mg base Tq k aGoers "ranges" ["self", "is_closing"] (spRanges aGoers aTable)) (C_Goers : Ck P w K mg base Tq k "Goers" aGoers ["self", "width", "text"] (spGInit aGoers aTable)) : FnG P w K mg base Tq (k + 2) f fd ["width", "text"] (spRgs opn) := by
  have M_ranges := M_ranges.mono (Nat.le_succ k)
  refine fn_g Fn sc_open_starts (fun ts Q E h => ?_) fun cdv A outer s H E Z ts QT ET hr hgd hp tk h => ?_
  · obtain ⟨wd, ws, rfl, W, q⟩ := h; rfl
  · obtain ⟨wd, ws, rfl, W, q⟩ := h
    -- line 134
    refine wss_one (ws_ret (w_methT M_ranges hr hgd (w_make C_Goers hr hgd ⟨rfl, (w_var 0 ⟨rfl, (w_var 1 fun pN1 => ⟨_, wd, ws, rfl, W, fun a_1 pc_1 pb_1 d_1 => ⟨rfl, rfl, ⟨⟨rfl, rfl⟩, ⟨rfl, (w_bl ⟨_, wd, ws, _, _, _, _, false, rfl, W, fun rs_2 hrs_2 => ?_⟩)⟩⟩⟩⟩)⟩)⟩)))
    exact q _ hrs_2 (rgs_len hrs_2 fun u h => opn_le h)
abbrev N_starts : List Str := ["width", "text", "both", "low", "high", "start"]
theorem sc_starts : FnScope N_starts ["width", "text"] (defScope (topS 22)) := ⟨rfl, rfl, rfl, by decide +kernel, rfl, by decide +kernel, by decide +kernel⟩
theorem g_starts {f : Addr} {fd : FuncData} {k : Nat} (Fn : Fun K "starts" "starts" (topS 22) f fd) (G_closing_starts : Df P w K mg base Tq k "closing_starts" ["width", "text"] (spRgs LM.cls)) (G_open_starts : Df P w K mg base Tq k "open_starts" ["width", "text"] (spRgs LM.opn)) (m_sorted : mg "sorted" = none) (m_tuple : mg "tuple" = none) : FnG P w K mg base Tq (k + 1) f fd ["width", "text"] spStarts := by
  refine fn_g Fn sc_starts (fun ts Q E h => ?_) fun cdv A outer s H E Z ts QT ET hr hgd hp tk h => ?_
  · obtain ⟨wd, ws, rfl, W, q⟩ := h; rfl
  · obtain ⟨wd, ws, rfl, W, q⟩ := h
    have hu := room110 hr
    have hlen := W.len
    -- line 136
    refine wss_cons (ws_set 2 (w_bin dop_add (w_fn G_closing_starts hr hgd ⟨rfl, (w_var 0 ⟨rfl, (w_var 1 ⟨wd, ws, rfl, W, fun rs_1 hrs_1 hrl_1 => (w_fn G_open_starts hr hgd ⟨rfl, (w_var 0 ⟨rfl, (w_var 1 ⟨wd, ws, rfl, W, fun rs_2 hrs_2 hrl_2 => ⟨rfl, rfl, (by first | decide | (simp only [List.length_append, List.length_map, List.length_cons, List.length_nil, List.length_singleton, List.length_replicate, List.length_range, List.length_take, List.length_drop, List.length_dropLast, List.length_reverse, Bool.false_eq_true, eq_self, reduceIte, sizeLine_eq]; omega)), ⟨Nat.lt_of_sub_eq_succ rfl, ?_⟩⟩⟩)⟩)⟩)⟩)⟩)⟩)) sc_starts.nd)
    -- line 137
    refine wss_one (ws_ret (w_callTy dc_tuple m_tuple rfl ⟨rfl, (w_sortSc (own := [("low", 3), ("high", 4), ("start", 5)]) hu m_sorted rfl sc_starts.nd (blkOk_by (N := N_starts) (sc := defScope (topS 22)) (by decide +kernel)) (fun _ _ _ _ _ => pg_tup (n := 3) (by rfl) (pgs_cons (pg_name (i := 3) sc_starts.nd rfl (by first | exact Or.inl rfl | exact Or.inr rfl)) (pgs_cons (pg_name (i := 4) sc_starts.nd rfl (by first | exact Or.inl rfl | exact Or.inr rfl)) (pgs_cons (pg_name (i := 5) sc_starts.nd rfl (by first | exact Or.inl rfl | exact Or.inr rfl)) (pgs_nil))))) (gok_tup (gsok_cons (gok_name 3) (gsok_cons (gok_name 4) (gsok_cons (gok_name 5) (gsok_nil))))) (by decide) (wi_tup (w_var 2 ?sc)))⟩))
    case sc =>
      rw [← List.map_append]
      refine ⟨by rw [List.length_map, List.length_append]; omega, fun k acc e => e = [some (.va (.int wd)), some (.va (.tuple (iDs ws))), some (.va (.tuple ((rs_1 ++ rs_2).map enR))), none, none, none] ∧ acc = ((rs_1 ++ rs_2).take k).map fun r => (r.2.2 : Int), ⟨rfl, rfl⟩, ?_, ?_⟩
      · rintro k dd acc e hd ⟨rfl, rfl⟩
        rw [List.getElem?_map, Option.map_eq_some_iff] at hd
        obtain ⟨x, hx, rfl⟩ := hd
        have tk : (rs_1 ++ rs_2).take (k + 1) = (rs_1 ++ rs_2).take k ++ [x] := by rw [List.take_add_one, hx]; rfl
        refine ⟨rfl, Nat.lt_of_sub_eq_succ rfl, Nat.lt_of_sub_eq_succ rfl, Nat.lt_of_sub_eq_succ rfl, rfl, fun s2 H2 C2 cl2 fp2 => (w_var 5 ⟨_, rfl, rfl, ?_⟩)⟩
        rw [tk, List.map_append]; rfl
      · rintro acc e ⟨rfl, rfl⟩ ns pS pw mem
        rw [List.length_map, List.take_length] at mem
        have e1 : ns = (stL wd ws).map fun (n : Nat) => (n : Int) := stL_uniq pw fun c => by
          rw [mem, List.mem_map]
          exact ⟨fun ⟨r, hr, e⟩ => ⟨r.2.2, e.symm, (Rgs.starts hrs_1 hrs_2 _).mp ⟨r, hr, rfl⟩⟩, fun ⟨p, e, h⟩ => by obtain ⟨r, hr, e2⟩ := (Rgs.starts hrs_1 hrs_2 p).mpr h; exact ⟨r, hr, by rw [e, e2]⟩⟩
        have e2 : ns.map PyData.int = nDs (stL wd ws) := by rw [e1, List.map_map]; rfl
        rw [e2]
        exact ⟨rfl, q⟩
end
end K26

/-! LJ: starts behind words as long as the width, or single ones. -/
namespace LM
open PySem
theorem Rgs.uniq {wd : Int} {f : Int → Nat} {rs qs : List (Int × Int × Nat)} {lo : Int} (h : Rgs wd f rs lo) (g : Rgs wd f qs lo) : rs = qs := h.runs.trans g.runs.symm
section
variable {wd w : Int} (W : Wd wd [w])
include W
end
end LM

/-! LK: rows of ranges, range by range. -/
namespace LM
open PySem
section
variable {wd : Int} {f : Int → Nat}
/-- the first j ranges, and where the next one begins -/
theorem Rgs.cut {rs : List (Int × Int × Nat)} {hi : Int} (h : Rgs wd f rs hi) : ∀ j, j ≤ rs.length → ∃ lo, Rgs wd f (rs.take j) lo ∧ (∀ r, rs[j]? = some r → r.1 = lo) ∧ (j = rs.length → lo = hi) := by
  induction h with
  | nil => intro j hj; exact ⟨1, by rw [List.take_nil]; exact .nil, fun r h => by simp at h, fun _ => rfl⟩
  | @snoc rs lo hi h1 h2 h3 h4 h5 ih =>
    intro j hj
    rw [List.length_append, List.length_singleton] at hj
    by_cases z : j ≤ rs.length
    · obtain ⟨l, a, b, c⟩ := ih j z
      refine ⟨l, by rw [List.take_append_of_le_length z]; exact a, fun r hr => ?_, fun e => by rw [List.length_append, List.length_singleton] at e; omega⟩
      by_cases y : j < rs.length
      · rw [List.getElem?_append_left y] at hr; exact b r hr
      · have e : j = rs.length := by omega
        rw [List.getElem?_append_right (by omega), e, Nat.sub_self] at hr
        simp at hr
        rw [← hr]
        exact (c e).symm
    · have e : j = (rs ++ [(lo, hi, f lo)]).length := by rw [List.length_append, List.length_singleton]; omega
      refine ⟨hi + 1, ?_, fun r hr => ?_, fun _ => rfl⟩
      · rw [e, List.take_length]
        exact .snoc h1 h2 h3 h4 h5
      · rw [List.getElem?_eq_none (by omega)] at hr
        cases hr
/-- neighbouring ranges: the next one begins behind, with a later start -/
theorem Rgs.next {rs : List (Int × Int × Nat)} {hi : Int} (h : Rgs wd f rs hi) (hh : hi ≤ wd + 1) : ∀ j r q, rs[j]? = some r → rs[j + 1]? = some q → r.2.1 + 1 = q.1 ∧ r.2.2 < q.2.2 := by
  induction h with
  | nil => intro j r q h; simp at h
  | @snoc rs lo hi h1 h2 h3 h4 h5 ih =>
    intro j r q hr hq
    have hj := (List.getElem?_eq_some_iff.mp hq).1
    rw [List.length_append, List.length_singleton] at hj
    rw [List.getElem?_append_left (by omega)] at hr
    by_cases z : j + 1 < rs.length
    · rw [List.getElem?_append_left z] at hq
      exact ih (by omega) j r q hr hq
    · have e : j + 1 = rs.length := by omega
      rw [List.getElem?_append_right (by omega), e, Nat.sub_self] at hq
      simp at hq
      subst hq
      -- the last of rs
      cases h1 with
      | nil => simp at hr
      | @snoc rs0 lo0 hi0 g1 g2 g3 g4 g5 =>
        rw [List.length_append, List.length_singleton] at e
        rw [List.getElem?_append_right (by omega), show j - rs0.length = 0 by omega] at hr
        simp at hr
        subst hr
        exact ⟨rfl, g5 (by omega)⟩
theorem Rgs.ne {rs : List (Int × Int × Nat)} (w1 : 1 ≤ wd) (h : Rgs wd f rs (wd + 1)) : rs ≠ [] := fun e => by
  have k : ∀ {rs : List (Int × Int × Nat)} {hi : Int}, Rgs wd f rs hi → rs = [] → hi = 1 := fun {rs hi} h e => by
    cases h with
    | nil => rfl
    | snoc => simp at e
  have := k h e
  omega
end
end LM

/-! LO: which places the best layouts with all futures have. -/
namespace LM
open PySem
/-- the ends up to n are those of the way to the last of them -/
theorem way_upto {wd : Int} {us : List Int} (W : Wd wd us) {n q : Nat} (hq : q ≤ n) : ∀ e, e ≤ us.length → (q ∈ way wd us e ↔ q ∈ way wd us (lastLe n (way wd us e))) := by
  intro e
  induction e using Nat.strongRecOn with
  | _ e ih =>
    intro he
    by_cases h : e ≤ n
    · rw [lastLe_way W he h]
    · obtain ⟨c1, _⟩ := CB_at W (e := e) (by omega) he
      have hs : way wd us e = way wd us (B wd us e) ++ [e] := way_step W (by omega) he
      rw [hs, lastLe_no _ h, List.mem_append, List.mem_singleton]
      rw [← ih _ c1 (by omega)]
      exact ⟨fun z => z.elim id fun z => absurd z (by omega), .inl⟩
/-- a place of a text is an end with a future exactly if it is one on the way to the future's start -/
theorem mem_start {wd : Int} {ws vs : List Int} (W : Wd wd (ws ++ vs)) (V : Wd wd ws) (hv : vs ≠ []) {q : Nat} (hq : q ≤ ws.length) : q ∈ bestLay wd (ws ++ vs) ↔ q ∈ way wd ws (lastLe ws.length (bestLay wd (ws ++ vs))) := by
  have hvp : 0 < vs.length := List.length_pos_iff.mpr hv
  have hl : (ws ++ vs).length = ws.length + vs.length := List.length_append
  have hb : bestLay wd (ws ++ vs) = way wd (ws ++ vs) (LS wd (ws ++ vs)) ++ [(ws ++ vs).length] := by unfold bestLay; rw [if_neg (by omega)]
  have hls := LS_le W
  have hle := lastLe_le ws.length (bestLay wd (ws ++ vs))
  have e1 : way wd ws (lastLe ws.length (bestLay wd (ws ++ vs))) = way wd (ws ++ vs) (lastLe ws.length (bestLay wd (ws ++ vs))) :=
    way_congr V (n := ws.length) (Nat.le_refl _) (fun i j h1 h2 => (ln_appL (by omega) h2).symm) hle
  rw [e1, hb, lastLe_no _ (by omega), List.mem_append, List.mem_singleton, way_upto W hq _ hls]
  exact ⟨fun z => z.elim id fun z => absurd z (by omega), .inl⟩
/-- the rows of ends that all futures have, one for each start, and the text's own -/
noncomputable def allE (wd : Int) (ws : List Int) : List (List Nat) := (stL wd ws).map (way wd ws) ++ [bestLay wd ws]
noncomputable def cntE (wd : Int) (ws : List Int) (q : Nat) : Nat := (allE wd ws).countP fun ns => decide (q ∈ ns)
theorem allE_len {wd : Int} {ws : List Int} : (allE wd ws).length = (stL wd ws).length + 1 := by
  unfold allE
  rw [List.length_append, List.length_map, List.length_singleton]
theorem cntE_zero {wd : Int} {ws : List Int} {q : Nat} : cntE wd ws q = 0 ↔ (∀ p ∈ stL wd ws, q ∉ way wd ws p) ∧ q ∉ bestLay wd ws := by
  unfold cntE allE
  rw [List.countP_eq_zero]
  constructor
  · intro h
    refine ⟨fun p hp => ?_, ?_⟩
    · simpa using h (way wd ws p) (List.mem_append_left _ (List.mem_map.mpr ⟨p, hp, rfl⟩))
    · simpa using h (bestLay wd ws) (List.mem_append_right _ (List.mem_singleton.mpr rfl))
  · rintro ⟨a, b⟩ ns hn
    rcases List.mem_append.mp hn with z | z
    · obtain ⟨p, hp, rfl⟩ := List.mem_map.mp z
      simpa using a p hp
    · rw [List.mem_singleton.mp z]; simpa using b
theorem cntE_all {wd : Int} {ws : List Int} {q : Nat} : cntE wd ws q = (allE wd ws).length ↔ (∀ p ∈ stL wd ws, q ∈ way wd ws p) ∧ q ∈ bestLay wd ws := by
  unfold cntE
  rw [List.countP_eq_length]
  unfold allE
  constructor
  · intro h
    refine ⟨fun p hp => ?_, ?_⟩
    · simpa using h (way wd ws p) (List.mem_append_left _ (List.mem_map.mpr ⟨p, hp, rfl⟩))
    · simpa using h (bestLay wd ws) (List.mem_append_right _ (List.mem_singleton.mpr rfl))
  · rintro ⟨a, b⟩ ns hn
    rcases List.mem_append.mp hn with z | z
    · obtain ⟨p, hp, rfl⟩ := List.mem_map.mp z
      simpa using a p hp
    · rw [List.mem_singleton.mp z]; simpa using b
/-- what a number of rows out of all tells -/
def tells (c m : Nat) : Nat := if c = 0 then 0 else if c = m then 2 else 1
/-- by any row of futures that has the empty one and each start -/
theorem futures_tell {wd : Int} {ws : List Int} (V : Wd wd ws) (F : List (List Int)) (h0 : [] ∈ F) (hF : ∀ vs ∈ F, vs ≠ [] → Wd wd (ws ++ vs)) (hs : ∀ p ∈ stL wd ws, ∃ vs ∈ F, vs ≠ [] ∧ lastLe ws.length (bestLay wd (ws ++ vs)) = p) {q : Nat} (hq : q ≤ ws.length) :
    tells (F.countP fun vs => decide (q ∈ bestLay wd (ws ++ vs))) F.length = tells (cntE wd ws q) (allE wd ws).length := by
  have key : ∀ vs ∈ F, (vs = [] ∧ bestLay wd (ws ++ vs) = bestLay wd ws) ∨ (vs ≠ [] ∧ lastLe ws.length (bestLay wd (ws ++ vs)) ∈ stL wd ws ∧ (q ∈ bestLay wd (ws ++ vs) ↔ q ∈ way wd ws (lastLe ws.length (bestLay wd (ws ++ vs))))) := fun vs hv => by
    by_cases e : vs = []
    · exact .inl ⟨e, by rw [e, List.append_nil]⟩
    · have W := hF vs hv e
      refine .inr ⟨e, stL_mem.mpr ?_, mem_start W V e hq⟩
      obtain ⟨u, u1, u2, z | z⟩ := start_any W e
      · exact ⟨u, u1, u2, .inr z.symm⟩
      · exact ⟨u, u1, u2, .inl z.symm⟩
  have a0 : F.countP (fun vs => decide (q ∈ bestLay wd (ws ++ vs))) = 0 ↔ cntE wd ws q = 0 := by
    rw [cntE_zero, List.countP_eq_zero]
    constructor
    · intro h
      refine ⟨fun p hp => ?_, ?_⟩
      · obtain ⟨vs, hv, hn, e⟩ := hs p hp
        have := h vs hv
        rcases key vs hv with ⟨z, _⟩ | ⟨_, _, z⟩
        · exact absurd z hn
        · rw [e] at z
          intro y
          exact this (by simpa using z.mpr y)
      · have := h [] h0
        rw [List.append_nil] at this
        simpa using this
    · rintro ⟨a, b⟩ vs hv
      rcases key vs hv with ⟨z, e⟩ | ⟨_, z1, z2⟩
      · rw [e]; simpa using b
      · have := a _ z1
        intro y
        exact this (z2.mp (by simpa using y))
  have a1 : F.countP (fun vs => decide (q ∈ bestLay wd (ws ++ vs))) = F.length ↔ cntE wd ws q = (allE wd ws).length := by
    rw [cntE_all, List.countP_eq_length]
    constructor
    · intro h
      refine ⟨fun p hp => ?_, ?_⟩
      · obtain ⟨vs, hv, hn, e⟩ := hs p hp
        have := h vs hv
        rcases key vs hv with ⟨z, _⟩ | ⟨_, _, z⟩
        · exact absurd z hn
        · rw [e] at z
          exact z.mp (by simpa using this)
      · have := h [] h0
        rw [List.append_nil] at this
        simpa using this
    · rintro ⟨a, b⟩ vs hv
      rcases key vs hv with ⟨z, e⟩ | ⟨_, z1, z2⟩
      · rw [e]; simpa using b
      · simpa using z2.mpr (a _ z1)
  unfold tells
  simp only [a0, a1]
theorem Lay.nodup {wd : Int} {ws : List Int} {ns : List Nat} {e : Nat} (c : Lay wd ws ns e) : ns.Nodup := by
  induction c with
  | nil => exact List.nodup_nil
  | snoc c h1 h2 ih =>
    refine List.nodup_append.mpr ⟨ih, List.nodup_cons.mpr ⟨fun z => (nomatch z), List.nodup_nil⟩, fun a ha b hb z => ?_⟩
    rw [List.mem_singleton.mp hb] at z
    have := (c.mem a ha).2
    omega
theorem allE_lay {wd : Int} {ws : List Int} (W : Wd wd ws) : ∀ ns ∈ allE wd ws, ∃ e, Lay wd ws ns e ∧ e ≤ ws.length := fun ns hn => by
  rcases List.mem_append.mp hn with z | z
  · obtain ⟨p, hp, rfl⟩ := List.mem_map.mp z
    have := (stL_mem.mp hp).le
    exact ⟨p, (way_lay W p this).1, this⟩
  · rw [List.mem_singleton.mp z]
    exact ⟨_, (best_lay W).1, Nat.le_refl _⟩
end LM

/-! QTx: a op b op c as a test. -/
namespace QL
open PySem PySem.Spec PyProof.Rows L2
section
variable {Tq : List (Addr × Str)} {Z : Zb Tq} {X : Cx} {env : Env} {a b c : Expr} {pos : Pos}
theorem wt_chain {op op' : CmpOp} {g g' : D → D → (T → Prop) → Prop} {P : Bool → Env → Prop} (ho : DOp X (compareOp op) g) (ho' : DOp X (compareOp op') g')
    (h : WA Z X a env fun a1 e1 => WA Z X b e1 fun a2 e2 => View a1 e2 fun d1 => View a2 e2 fun d2 => g d1 d2 fun t => ∃ k, t = .va (.bool k) ∧ (k = true → WA Z X c e2 fun a3 e3 => View a2 e3 fun d2' => View a3 e3 fun d3 => g' d2' d3 fun t => ∃ k, t = .va (.bool k) ∧ P k e3) ∧ (k = false → P false e2))
    (hm : lastMarks [op, op'] [b, c] = false := by with_unfolding_all rfl) : WT Z X (.Compare a [op, op'] [b, c] pos) env P :=
  wt_of (pt_chain ho.r ho'.r (pe_A (Z := Z)) (pe_A (Z := Z)) (pe_A (Z := Z)) hm) fun σ H F O b0 o => by
    refine ⟨env, F, O, _, b0, o, h, fun v1 H1 ⟨F1, O1, a1, e1, b1, o1, st1, fr1, h1⟩ => ?_⟩
    refine ⟨e1, F1, O1, _, b1, o1, h1, fun v2 H2 ⟨F2, O2, a2, e2, b2, o2, st2, fr2, h2⟩ => ?_⟩
    obtain ⟨d1, w1, h3⟩ := View.vw h2 o2 (st1.mono fr2.fz)
    obtain ⟨d2, w2, h4⟩ := View.vw h3 o2 st2
    refine ⟨F2, d1, d2, _, b2.sub, w1, w2, h4, fun v H3 n => ?_⟩
    obtain ⟨F3, O3, r3, e3, b3, st3, fr3, ee, k, er, hT, hF⟩ := n.post b2 o2 (P := fun r e => e = e2 ∧ ∃ k, r = .t (.va (.bool k)) ∧ (k = true → WA Z X c e2 fun a3 e3 => View a2 e3 fun d2' => View a3 e3 fun d3 => g' d2' d3 fun t => ∃ k, t = .va (.bool k) ∧ P k e3) ∧ (k = false → P false e2))
      fun t ⟨k, e, q⟩ => ⟨rfl, k, by rw [e], q⟩
    subst er ee
    obtain ⟨Oa, Ob, rfl, o3, w3⟩ := st3
    cases w3 with
    | va r =>
      cases r with
      | bl k =>
        rw [List.append_nil] at b3 fr3
        refine ⟨k, rfl, ?_⟩
        cases k with
        | false => exact iteF ⟨false, rfl, F3, Oa, e3, b3, o3, (fr1.trans fr2).trans fr3, hF rfl⟩
        | true =>
          refine iteT ⟨e3, F3, Oa, _, b3, o3, hT rfl, fun v4 H4 ⟨F4, O4, a3, e4, b4, o4, st4, fr4, h5⟩ => ?_⟩
          obtain ⟨d2', w5, h6⟩ := View.vw h5 o4 (st2.mono (fr3.fz.trans fr4.fz))
          obtain ⟨d3, w6, h7⟩ := View.vw h6 o4 st4
          refine ⟨F4, d2', d3, _, b4.sub, w5, w6, h7, fun v H' n => ?_⟩
          obtain ⟨k, F5, O5, e5, rfl, b5, o5, fr5, p⟩ := post_bool (K := P) (n.post b4 o4 (P := fun r e1 => ∃ k, r = .t (.va (.bool k)) ∧ P k e1) fun t ⟨k, e, q⟩ => ⟨k, by rw [e], q⟩)
          exact ⟨k, rfl, F5, O5, e5, b5, o5, (((fr1.trans fr2).trans fr3).trans fr4).trans fr5, p⟩
end
end QL

namespace K26
open PySem PySem.Spec PyProof.Rows L2 QL
open LM
/-- the words for a place -/
def wordS (t : Nat) : Str := if t = 0 then "never" else if t = 2 then "always" else "sometimes"
noncomputable def stS (wd : Int) (ws : List Int) (q : Nat) : Str := wordS (tells (cntE wd ws q) (allE wd ws).length)
noncomputable def cntD (wd : Int) (ws : List Int) : List D := (List.range (ws.length + 1)).map fun (q : Nat) => .int (cntE wd ws q : Int)
noncomputable def stsD (wd : Int) (ws : List Int) : List D := ((List.range (ws.length + 1)).drop 1).map fun (q : Nat) => .str (stS wd ws q)
def spAllEnds : Spc := fun ts QT _ => ∃ (wd : Int) (ws : List Int), ts = [.va (.int wd), .va (.tuple (iDs ws))] ∧ Wd wd ws ∧ ∀ p, QT (.lst p ((allE wd ws).map tN)) [none, none]
def spCounted : Spc := fun ts QT _ => ∃ (wd : Int) (ws : List Int), ts = [.va (.int wd), .va (.tuple (iDs ws))] ∧ Wd wd ws ∧ QT (.va (.tuple [.list (cntD wd ws), .int ((allE wd ws).length : Int)])) [none, none]
def spStates : Spc := fun ts QT _ => ∃ (wd : Int) (ws : List Int), ts = [.va (.int wd), .va (.tuple (iDs ws))] ∧ Wd wd ws ∧ QT (.va (.tuple (stsD wd ws))) [none, none]
theorem ixN_nat {n j : Nat} (h : j < n) : ixN n (j : Int) = some j := by
  unfold ixN
  rw [if_pos (by omega), if_pos (by omega), Int.toNat_natCast]
theorem zeros (k : Nat) : (List.replicate k [PyData.int 0]).flatten = (List.range k).map fun (_ : Nat) => PyData.int ((0 : Nat) : Int) := by
  induction k with
  | zero => rfl
  | succ k ih =>
    rw [List.replicate_succ', List.flatten_append, ih, List.range_succ, List.map_append]
    rfl
theorem set_range {k x : Nat} (hx : x < k) (f : Nat → D) (v : D) : ((List.range k).map f).set x v = (List.range k).map fun q => if q = x then v else f q := by
  refine List.ext_getElem? fun i => ?_
  rw [List.getElem?_set, List.getElem?_map]
  by_cases h : x = i
  · subst h
    simp [hx]
  · rw [if_neg h]
    by_cases hi : i < k
    · simp [List.getElem?_range hi, show ¬ i = x from fun z => h z.symm]
    · rw [List.getElem?_map]
      simp [show ¬ i < k from hi]
theorem word_at {c m : Nat} (hm : m ≠ 0) : (valT [((.inl 0 : Key), PyData.str "never"), (.inl (m : Int), PyData.str "always")] (.inl (c : Int))).getD (.str "sometimes") = PyData.str (wordS (tells c m)) := by
  unfold valT tells wordS
  rw [List.find?_cons, List.find?_cons, List.find?_nil]
  by_cases h0 : c = 0
  · subst h0
    simp
  · have n0 : ¬ ((.inl 0 : Key) = .inl (c : Int)) := fun z => h0 (by have := Sum.inl.inj z; omega)
    simp only [n0, decide_false]
    by_cases h1 : c = m
    · subst h1
      simp [h0]
    · have n1 : ¬ ((.inl (m : Int) : Key) = .inl (c : Int)) := fun z => h1 (by have := Sum.inl.inj z; omega)
      simp [n1, h0, h1]
section
variable {P : Program} {w : World} {K : PySem.W.Frag} {mg : Str → Option Value} {base : Heap} {Tq : List (Addr × Str)}
abbrev N_all_ends : List Str := ["width", "text", "table", "start"]
theorem sc_all_ends : FnScope N_all_ends ["width", "text"] (defScope (topS 29)) := ⟨rfl, rfl, rfl, by decide +kernel, rfl, by decide +kernel, by decide +kernel⟩
theorem g_all_ends {f : Addr} {fd : FuncData} {k : Nat} {aTable : Addr} (Fn : Fun K "all_ends" "all_ends" (topS 29) f fd) (G_best_layout : Df P w K mg base Tq k "best_layout" ["width", "text"] spBest) (G_starts : Df P w K mg base Tq k "starts" ["width", "text"] spStarts) (M_way : Mf P w K mg base Tq k aTable "way" ["self", "place"] (spWay aTable)) (C_Table : Ck P w K mg base Tq k "Table" aTable ["self", "width", "text"] (spInit aTable)) : FnG P w K mg base Tq (k + 2) f fd ["width", "text"] spAllEnds := by
  have G_best_layout := G_best_layout.mono (Nat.le_succ k)
  have G_starts := G_starts.mono (Nat.le_succ k)
  have M_way := M_way.mono (Nat.le_succ k)
  refine fn_g Fn sc_all_ends (fun ts Q E h => ?_) fun cdv A outer s H E Z ts QT ET hr hgd hp tk h => ?_
  · obtain ⟨wd, ws, rfl, W, q⟩ := h; rfl
  · obtain ⟨wd, ws, rfl, W, q⟩ := h
    have hlen := W.len
    have hsl := stL_len wd ws
    -- line 147
    refine wss_cons (ws_set 2 (w_make C_Table hr hgd ⟨rfl, (w_var 0 ⟨rfl, (w_var 1 fun pN1 => ⟨_, wd, ws, rfl, W, fun pc_1 pb_1 => ⟨rfl, rfl, ⟨Nat.lt_of_sub_eq_succ rfl, ?_⟩⟩⟩)⟩)⟩) sc_all_ends.nd)
    -- line 148
    refine wss_one (ws_ret (w_bin dop_add (w_lc (own := [("start", 3)]) rfl sc_all_ends.nd (blkOk_by (N := N_all_ends) (sc := defScope (topS 29)) (by decide +kernel)) (fun _ _ _ _ _ => pg_name (i := 3) sc_all_ends.nd rfl (by first | exact Or.inl rfl | exact Or.inr rfl)) (gok_name 3) (by decide) (wi_tup (w_fn G_starts hr hgd ⟨rfl, (w_var 0 ⟨rfl, (w_var 1 ⟨wd, ws, rfl, W, (lc_map fm_name (fun (p : Nat) => PyData.int (p : Int)) (stL wd ws) (fun p => tN (way wd ws p)) _ rfl (rfl) (by rw [sizeLine_eq]; omega) (fun k2 x hx => by have hs := (stL_mem.mp (List.mem_of_getElem? hx)).le; exact ⟨Nat.lt_of_sub_eq_succ rfl, fun s2 H2 C2 cl2 fp2 => (w_meth M_way hr hgd (w_var 2 ⟨⟨rfl, rfl, rfl⟩, ⟨rfl, (w_var 3 ⟨rfl, ⟨_, wd, ws, _, _, x, rfl, W, hs, ⟨rfl, rfl, ⟨rfl, rfl⟩⟩⟩⟩)⟩⟩))⟩) (fun p1 => (w_lst ⟨rfl, (w_fn G_best_layout hr hgd ⟨rfl, (w_var 0 ⟨rfl, (w_var 1 ⟨wd, ws, rfl, W, ⟨(by first | decide | (simp only [List.length_append, List.length_map, List.length_cons, List.length_nil, List.length_singleton, List.length_replicate, List.length_range, List.length_take, List.length_drop, List.length_dropLast, List.length_reverse, Bool.false_eq_true, eq_self, reduceIte, sizeLine_eq]; omega)), fun p2 => ⟨rfl, rfl, (by simp only [List.length_append, List.length_map, List.length_cons, List.length_nil, List.length_singleton, List.length_replicate, List.length_range, List.length_take, List.length_drop, List.length_dropLast, List.length_reverse, Bool.false_eq_true, eq_self, reduceIte, sizeLine_eq]; omega), fun p3 => ?_⟩⟩⟩)⟩)⟩)⟩)))⟩)⟩)⟩)))))
    have e1 : (stL wd ws).map (fun p => tN (way wd ws p)) ++ [tN (bestLay wd ws)] = (allE wd ws).map tN := by unfold allE; rw [List.map_append, List.map_map]; rfl
    rw [e1]; exact q _
abbrev N_counted_states : List Str := ["width", "text", "ends", "found", "some", "place"]
theorem sc_counted_states : FnScope N_counted_states ["width", "text"] (defScope (topS 30)) := ⟨rfl, rfl, rfl, by decide +kernel, rfl, by decide +kernel, by decide +kernel⟩
theorem g_counted_states {f : Addr} {fd : FuncData} {k : Nat} (Fn : Fun K "counted_states" "counted_states" (topS 30) f fd) (G_all_ends : Df P w K mg base Tq k "all_ends" ["width", "text"] spAllEnds) (m_len : mg "len" = none) : FnG P w K mg base Tq (k + 1) f fd ["width", "text"] spCounted := by
  refine fn_g Fn sc_counted_states (fun ts Q E h => ?_) fun cdv A outer s H E Z ts QT ET hr hgd hp tk h => ?_
  · obtain ⟨wd, ws, rfl, W, q⟩ := h; rfl
  · obtain ⟨wd, ws, rfl, W, q⟩ := h
    have hlen := W.len
    have hsl := stL_len wd ws
    have hal := allE_len (wd := wd) (ws := ws)
    have hnl : (iDs ws).length = ws.length := List.length_map _
    -- line 150
    refine wss_cons (ws_set 2 (w_fn G_all_ends hr hgd ⟨rfl, (w_var 0 ⟨rfl, (w_var 1 ⟨wd, ws, rfl, W, fun pE_1 => ⟨Nat.lt_of_sub_eq_succ rfl, ?_⟩⟩)⟩)⟩) sc_counted_states.nd)
    -- line 151
    refine wss_cons (ws_set 3 (w_bin dop_mul (w_lst ⟨rfl, (w_int ⟨(by first | decide | (simp only [List.length_append, List.length_map, List.length_cons, List.length_nil, List.length_singleton, List.length_replicate, List.length_range, List.length_take, List.length_drop, List.length_dropLast, List.length_reverse, Bool.false_eq_true, eq_self, reduceIte, sizeLine_eq]; omega)), fun p1 => (w_bin dop_add (w_callB dc_len m_len rfl ⟨rfl, (w_var 1 ⟨rfl, (w_int ⟨rfl, rfl, ⟨rfl, rfl, ⟨by omega, by omega, by simp only [List.length_append, List.length_map, List.length_cons, List.length_nil, List.length_singleton, List.length_replicate, List.length_range, List.length_take, List.length_drop, List.length_dropLast, List.length_reverse, Bool.false_eq_true, eq_self, reduceIte, sizeLine_eq]; omega⟩, fun p2 => ⟨Nat.lt_of_sub_eq_succ rfl, ?_⟩⟩⟩)⟩)⟩))⟩)⟩)) sc_counted_states.nd)
    rw [show (((iDs ws).length : Int) + 1).toNat = ws.length + 1 by rw [hnl]; omega, zeros]
    -- line 152
    refine wss_cons (ws_for hp rfl (pg_name (i := 4) sc_counted_states.nd rfl (by first | exact Or.inl rfl | exact Or.inr rfl)) (gok_name 4) (wi_list (w_var 2 ⟨rfl, ?_⟩)))
    refine ⟨fun j e => ∃ o4 o5, e = [some (.va (.int wd)), some (.va (.tuple (iDs ws))), some (.va (.list ((allE wd ws).map tN))), some (.lst p2 ((List.range (ws.length + 1)).map (fun (q : Nat) => PyData.int ((((allE wd ws).take j).countP fun ns => decide (q ∈ ns) : Nat) : Int)))), o4, o5], ⟨none, none, ?i0⟩, ?_, ?_⟩
    case i0 => simp only [List.take_zero, List.countP_nil]; rfl
    · rintro j dd e hd ⟨o4, o5, rfl⟩
      rw [List.getElem?_map, Option.map_eq_some_iff] at hd
      obtain ⟨ns, hx, rfl⟩ := hd
      obtain ⟨e, hlay, hle⟩ := allE_lay W ns (List.mem_of_getElem? hx)
      have hnd := Lay.nodup hlay
      have tk : (allE wd ws).take (j + 1) = (allE wd ws).take j ++ [ns] := by rw [List.take_add_one, hx]; rfl
      refine ⟨Nat.lt_of_sub_eq_succ rfl, ?_⟩
      -- line 153
      refine wss_one (ws_for hp rfl (pg_name (i := 5) sc_counted_states.nd rfl (by first | exact Or.inl rfl | exact Or.inr rfl)) (gok_name 5) (wi_tup (w_var 4 ?_)))
      refine ⟨fun i e => ∃ o5, e = [some (.va (.int wd)), some (.va (.tuple (iDs ws))), some (.va (.list ((allE wd ws).map tN))), some (.lst p2 ((List.range (ws.length + 1)).map (fun (q : Nat) => PyData.int (((((allE wd ws).take j).countP fun ns => decide (q ∈ ns)) + (if q ∈ ns.take i then 1 else 0) : Nat) : Int)))), some (.va (tN ns)), o5], ⟨o5, ?i1⟩, ?_, ?_⟩
      case i1 => simp only [List.take_zero, List.not_mem_nil, if_false, Nat.add_zero]; rfl
      · rintro i dd e hd ⟨o5, rfl⟩
        rw [List.getElem?_map, Option.map_eq_some_iff] at hd
        obtain ⟨x, hxx, rfl⟩ := hd
        have hxe := (hlay.mem x (List.mem_of_getElem? hxx)).2
        have tx : ns.take (i + 1) = ns.take i ++ [x] := by rw [List.take_add_one, hxx]; rfl
        have nx : x ∉ ns.take i := fun z => by
          have h2 : (ns.take (i + 1)).Nodup := List.Sublist.nodup (List.take_sublist _ _) hnd
          rw [tx, List.nodup_append] at h2
          exact h2.2.2 x z x (by simp) rfl
        refine ⟨Nat.lt_of_sub_eq_succ rfl, ?_⟩
        -- line 154
        refine wss_one (ws_augix (w_var 3 ⟨_, _, _, rfl, (w_var 5 ⟨_, _, _, rfl, rfl, (by rw [List.length_map, List.length_range]; omega), (by rw [List.getElem?_map, List.getElem?_range (show x < ws.length + 1 by omega)]; rfl), (w_int ⟨_, _, rfl, rfl, (ixN_nat (by rw [List.length_map, List.length_range]; omega)), ?_⟩)⟩)⟩))
        refine ⟨some (.va (.int (x : Int))), ?_⟩
        rw [set_range (show x < ws.length + 1 by omega)]
        have e5 : ((List.range (ws.length + 1)).map fun q => if q = x then PyData.int ((((((allE wd ws).take j).countP fun ns => decide (x ∈ ns)) + (if x ∈ ns.take i then 1 else 0) : Nat) : Int) + 1) else (fun (q : Nat) => PyData.int (((((allE wd ws).take j).countP fun ns => decide (q ∈ ns)) + (if q ∈ ns.take i then 1 else 0) : Nat) : Int)) q) = (List.range (ws.length + 1)).map (fun (q : Nat) => PyData.int (((((allE wd ws).take j).countP fun ns => decide (q ∈ ns)) + (if q ∈ ns.take (i + 1) then 1 else 0) : Nat) : Int)) := by
          refine List.map_congr_left fun q _ => ?_
          by_cases h : q = x
          · subst h
            rw [if_pos rfl, if_neg nx, tx, if_pos (List.mem_append_right _ (List.mem_singleton.mpr rfl))]
            rfl
          · rw [if_neg h, tx]
            have e6 : (q ∈ ns.take i ++ [x]) ↔ q ∈ ns.take i := by rw [List.mem_append, List.mem_singleton]; exact ⟨fun z => z.elim id fun z => absurd z h, .inl⟩
            simp only [e6]
        rw [e5]
        rfl
      · rintro e ⟨o5, rfl⟩
        rw [List.length_map, List.take_length]
        refine ⟨some (.va (tN ns)), o5, ?_⟩
        rw [tk]
        have e7 : ((List.range (ws.length + 1)).map fun (q : Nat) => PyData.int (((((allE wd ws).take j).countP fun ns => decide (q ∈ ns)) + (if q ∈ ns then 1 else 0) : Nat) : Int)) = (List.range (ws.length + 1)).map fun (q : Nat) => PyData.int ((((allE wd ws).take j ++ [ns]).countP fun ns => decide (q ∈ ns) : Nat) : Int) := by
          refine List.map_congr_left fun q _ => ?_
          rw [List.countP_append]
          by_cases h : q ∈ ns <;> simp [h]
        rw [e7]
    · rintro e ⟨o4, o5, rfl⟩
      rw [List.length_map, List.take_length]
      -- line 155
      refine wss_one (ws_ret (w_tup ⟨rfl, (w_var 3 ⟨rfl, (w_callB dc_len m_len rfl ⟨rfl, (w_var 2 ⟨rfl, ⟨rfl, ⟨(by first | decide | (simp only [List.length_append, List.length_map, List.length_cons, List.length_nil, List.length_singleton, List.length_replicate, List.length_range, List.length_take, List.length_drop, List.length_dropLast, List.length_reverse, Bool.false_eq_true, eq_self, reduceIte, sizeLine_eq]; omega)), ?_⟩⟩⟩)⟩)⟩)⟩))
      rw [show ((allE wd ws).map tN).length = (allE wd ws).length from List.length_map _]
      exact q
abbrev N_states : List Str := ["width", "text", "counts", "most", "words", "count"]
theorem sc_states : FnScope N_states ["width", "text"] (defScope (topS 31)) := ⟨rfl, rfl, rfl, by decide +kernel, rfl, by decide +kernel, by decide +kernel⟩
theorem g_states {f : Addr} {fd : FuncData} {k : Nat} (Fn : Fun K "states" "states" (topS 31) f fd) (G_counted_states : Df P w K mg base Tq k "counted_states" ["width", "text"] spCounted) {tALWAYS : Tok} (m_ALWAYS : mg "ALWAYS" = some (.str "always" tALWAYS)) {tNEVER : Tok} (m_NEVER : mg "NEVER" = some (.str "never" tNEVER)) {tSOMETIMES : Tok} (m_SOMETIMES : mg "SOMETIMES" = some (.str "sometimes" tSOMETIMES)) (m_tuple : mg "tuple" = none) : FnG P w K mg base Tq (k + 1) f fd ["width", "text"] spStates := by
  refine fn_g Fn sc_states (fun ts Q E h => ?_) fun cdv A outer s H E Z ts QT ET hr hgd hp tk h => ?_
  · obtain ⟨wd, ws, rfl, W, q⟩ := h; rfl
  · obtain ⟨wd, ws, rfl, W, q⟩ := h
    have hlen := W.len
    have w1 := W.w1
    have hm : (allE wd ws).length ≠ 0 := by rw [allE_len]; omega
    -- line 157
    refine wss_cons (ws_asg (pg_tup (by rfl) (pgs_cons (pg_name (i := 2) sc_states.nd rfl (by first | exact Or.inl rfl | exact Or.inr rfl)) (pgs_cons (pg_name (i := 3) sc_states.nd rfl (by first | exact Or.inl rfl | exact Or.inr rfl)) (pgs_nil)))) (gok_tup (gsok_cons (gok_name 2) (gsok_cons (gok_name 3) (gsok_nil)))) (w_fn G_counted_states hr hgd ⟨rfl, (w_var 0 ⟨rfl, (w_var 1 ⟨wd, ws, rfl, W, ⟨_, rfl, rfl, ⟨Nat.lt_of_sub_eq_succ rfl, ⟨Nat.lt_of_sub_eq_succ rfl, ⟨rfl, ?_⟩⟩⟩⟩⟩)⟩)⟩))
    -- line 158
    refine wss_cons (ws_set 4 (w_dict2 (w_int ⟨.inl _, rfl, (w_glob (v := .str "never") (d := .str "never") m_NEVER ⟨_, rfl⟩ (fun _ => .str _) ⟨_, rfl, (w_var 3 ⟨.inl _, rfl, (w_glob (v := .str "always") (d := .str "always") m_ALWAYS ⟨_, rfl⟩ (fun _ => .str _) ⟨_, rfl, (fun z => hm (by have := Sum.inl.inj z; omega)), fun p1 => ⟨Nat.lt_of_sub_eq_succ rfl, ?_⟩⟩)⟩)⟩)⟩)) sc_states.nd)
    -- line 159
    refine wss_one (ws_ret (w_callTy dc_tuple m_tuple rfl ⟨rfl, (w_lc (own := [("count", 5)]) rfl sc_states.nd (blkOk_by (N := N_states) (sc := defScope (topS 31)) (by decide +kernel)) (fun _ _ _ _ _ => pg_name (i := 5) sc_states.nd rfl (by first | exact Or.inl rfl | exact Or.inr rfl)) (gok_name 5) (by decide) (wi_list (w_sl (w_var 2 (w_int ⟨_, rfl, ⟨rfl, fun p2 => (lc_map fm_name (fun (q : Nat) => PyData.int (cntE wd ws q : Int)) ((List.range (ws.length + 1)).drop 1) (fun (q : Nat) => PyData.str (stS wd ws q)) _ rfl (cut_from (fun (q : Nat) => PyData.int (cntE wd ws q : Int)) (List.range (ws.length + 1)) 1 (by rw [List.length_range]; omega)) (by rw [List.length_drop, List.length_range, sizeLine_eq]; omega) (fun k2 x hx => by skip; exact ⟨Nat.lt_of_sub_eq_succ rfl, fun s2 H2 C2 cl2 fp2 => (w_dget2 (lt1 (room64 hr)) (w_var 4 ⟨_, _, _, _, rfl, rfl, (w_var 5 (w_glob (v := .str "sometimes") (d := .str "sometimes") m_SOMETIMES ⟨_, rfl⟩ (fun _ => .str _) ⟨.inl _, _, _, rfl, rfl, rfl, ⟨by rw [word_at hm]; rfl, rfl⟩⟩))⟩))⟩) (fun p3 => ⟨rfl, ?_⟩))⟩⟩)))))⟩))
    exact q
end
end K26

/-! QTp: x, y, z = data, data, anything. -/
namespace QL
open PySem PySem.Spec PyProof.Rows L2
variable {Tq : List (Addr × Str)} {Z : Zb Tq} {X : Cx} {env : Env} {PO : Out → Prop} {a b c : Expr} {pos : Pos}
end QL

/-! QTq: xs.count(x). -/
namespace QL
open PySem PySem.Spec PyProof.Rows L2
end QL
namespace QL
open PySem PySem.Spec PyProof.Rows L2
end QL

/-! QLf: xs.index(x) of data. -/
namespace QL
open PySem PySem.Spec PyProof.Rows L2
/-- a value is a place of n, or none -/
theorem domT_map (o : Option D) : DomT (o.map T.va) (o.map T.va) := by cases o <;> trivial
end QL

namespace K26
open PySem PySem.Spec PyProof.Rows L2 QL
open LM
def isI : D → Bool
  | .int _ => true
  | _ => false
def btw (d : D) (lo hi : Int) : Bool := match d with
  | .int i => decide (lo ≤ i) && decide (i ≤ hi)
  | _ => false
theorem isB_int (d : D) : isB d "int" = true → (!isB d "bool") = isI d := by cases d <;> simp [isB, tyD, isI]
theorem isB_int0 (d : D) : isB d "int" = false → isI d = false := by cases d <;> simp [isB, tyD, isI]
theorem isI_int (d : D) : isI d = true → ∃ i, d = .int i := by cases d <;> simp [isI]
theorem btw_no (d : D) (lo hi : Int) : isI d = false → btw d lo hi = false := by cases d <;> simp [isI, btw]
def spIsI : Spc := fun ts QT _ => ∃ d, ts = [.va d] ∧ QT (.va (.bool (isI d))) [none]
def spBtw : Spc := fun ts QT _ => ∃ d lo hi, ts = [.va d, .va (.int lo), .va (.int hi)] ∧ QT (.va (.bool (btw d lo hi))) [none, none, none]
theorem pl_cases (d : D) (n : Nat) : (∃ q : Nat, d = .int (q : Int) ∧ 1 ≤ q ∧ q ≤ n) ∨ btw d 1 (n : Int) = false := by
  cases d with
  | int i =>
    by_cases h : 1 ≤ i ∧ i ≤ (n : Int)
    · exact .inl ⟨i.toNat, by rw [Int.toNat_of_nonneg (by omega)], by omega, by omega⟩
    · refine .inr ?_
      show (decide (1 ≤ i) && decide (i ≤ (n : Int))) = false
      rw [Bool.and_eq_false_iff, decide_eq_false_iff_not, decide_eq_false_iff_not]
      omega
  | _ => exact .inr rfl
def spCheckE (aB : Addr) : Spc := fun ts QT ET => ∃ (ws : List Int) (d : D), ts = [.va (.tuple (iDs ws)), .va d] ∧ ws.length ≤ 1000 ∧ ((∃ q : Nat, d = .int (q : Int) ∧ (1 ≤ q ∧ q ≤ ws.length) ∧ QT (.va .none) [none, none]) ∨ (btw d 1 (ws.length : Int) = false ∧ ET ⟨aB, [("value", d)]⟩ [none, none]))
def spStateE (aB : Addr) : Spc := fun ts QT ET => ∃ (wd : Int) (ws : List Int) (d : D), ts = [.va (.int wd), .va (.tuple (iDs ws)), .va d] ∧ Wd wd ws ∧ ((∃ q : Nat, d = .int (q : Int) ∧ (1 ≤ q ∧ q ≤ ws.length) ∧ QT (.va (.str (stS wd ws q))) [none, none, none]) ∨ (btw d 1 (ws.length : Int) = false ∧ ET ⟨aB, [("value", d)]⟩ [none, none, none]))
section
variable {P : Program} {w : World} {K : PySem.W.Frag} {mg : Str → Option Value} {base : Heap} {Tq : List (Addr × Str)}
theorem sce_BadPlace : FnScope ["self", "value"] ["self", "value"] (defScope (inClass (topS 3) 0)) := ⟨rfl, rfl, rfl, by decide +kernel, rfl, by decide +kernel, by decide +kernel⟩
theorem init_BadPlace {f : Addr} {fd : FuncData} {k : Nat} {aT aB : Addr} {mc : Value} (Fn : Fun K "__init__" "BadPlace.__init__" (inClass (topS 3) 0) f fd)
    (mB : mg "LineError" = some (.ref aB)) (r : ClX.CRead K aB mc) (hk : PySem.W.findCls K (.ref aB) mc "__init__" = some (.val (.builtin "ValueError.__init__"))) (no : PySem.W.findIn K (.ref aT) "value" = some none) :
    FnOk P w K mg base (L2.CX P w) (k + 1) f fd ["self", "value"] (spX K aT "value") := by
  obtain ⟨oc, od, kV, doc, pm, an, cdv, ct, osl, rfl, lk, hcd⟩ := Fn.ex
  refine fn_of (N := ["self", "value"]) lk hcd sce_BadPlace (fun vs H Q E h => ?_) fun A outer s H vs Q E hr h => ⟨_, pss_cons (ps_expr (pe_ownInit (B := aB) (mc := mc) rfl mB r hk (pa_cons (pe_var (i := 0) rfl (.inl rfl)) (pa_cons pe_str pa_nil)))) (pss_one (ps_ost (pe_var (i := 0) rfl (.inl rfl)) (pe_var (i := 1) rfl (.inl rfl)))), ?_⟩
  · obtain ⟨a, v, e, _⟩ := h
    subst e
    rfl
  · obtain ⟨a, v, e, T, ha, q⟩ := h
    subst e
    exact ⟨_, rfl, a, aT, _, rfl, by decide, T, ha, _, rfl, _, rfl, a, aT, rfl, T, no, .inl ⟨ha, fun dx n ne => q dx n ne⟩⟩
abbrev N_is_integer : List Str := ["value"]
theorem sc_is_integer : FnScope N_is_integer ["value"] (defScope (topS 9)) := ⟨rfl, rfl, rfl, by decide +kernel, rfl, by decide +kernel, by decide +kernel⟩
theorem g_is_integer {f : Addr} {fd : FuncData} {k : Nat} (Fn : Fun K "is_integer" "is_integer" (topS 9) f fd) (m_bool : mg "bool" = none) (m_int : mg "int" = none) (m_isinstance : mg "isinstance" = none) : FnG P w K mg base Tq (k + 1) f fd ["value"] spIsI := by
  refine fn_g Fn sc_is_integer (fun ts Q E h => ?_) fun cdv A outer s H E Z ts QT ET hr hgd hp tk h => ?_
  · obtain ⟨dv, rfl, q⟩ := h; rfl
  · obtain ⟨dv, rfl, q⟩ := h
    -- line 32
    refine wss_one (ws_ret (w_and (w_isi (w_var 0 ⟨rfl, ⟨_, rfl, fun h => (w_one (w_not (w_isi (w_var 0 ⟨rfl, ⟨_, rfl, ?_⟩⟩) kit_bool m_isinstance m_bool rfl))), fun h => ?_⟩⟩) kit_int m_isinstance m_int rfl)))
    · have e := isB_int dv h
      show QT (.va (.bool (!isB dv "bool"))) [none]
      rw [e]; exact q
    · have e := isB_int0 dv h
      rw [e] at q; exact q
abbrev N_check_place : List Str := ["text", "place"]
theorem sc_check_place : FnScope N_check_place ["text", "place"] (defScope (topS 28)) := ⟨rfl, rfl, rfl, by decide +kernel, rfl, by decide +kernel, by decide +kernel⟩
theorem g_check_place {f : Addr} {fd : FuncData} {k : Nat} {aBadPlace : Addr} (Fn : Fun K "check_place" "check_place" (topS 28) f fd) (Z_BadPlace : Rz P w K mg base k "BadPlace" aBadPlace "value") (G_is_integer : Df P w K mg base Tq k "is_integer" ["value"] spIsI) (m_len : mg "len" = none) : FnG P w K mg base Tq (k + 2) f fd ["text", "place"] (spCheckE aBadPlace) := by
  have G_is_integer := G_is_integer.mono (Nat.le_succ k)
  refine fn_g Fn sc_check_place (fun ts Q E h => ?_) fun cdv A outer s H E Z ts QT ET hr hgd hp tk h => ?_
  · obtain ⟨ws, dv, rfl, hn, hq⟩ := h; rfl
  · obtain ⟨ws, dv, rfl, hn, hq⟩ := h
    have hnl : (iDs ws).length = ws.length := List.length_map _
    rcases hq with ⟨q0, rfl, ⟨h1, h2⟩, q⟩ | ⟨hv, qe⟩
    · skip
      -- line 144
      refine wss_one (ws_if (WW.t (ww_or (wt_not (wt_val (w_fn G_is_integer hr hgd ⟨rfl, (w_var 1 ⟨_, rfl, ⟨_, rfl, ⟨fun h => (ww_or1 (wt_not (wt_chain dop_le dop_le (w_int (w_var 1 ⟨rfl, rfl, _, rfl, fun hc => (w_callB dc_len m_len rfl ⟨rfl, (w_var 0 ⟨rfl, ⟨rfl, rfl, _, rfl, ⟨fun h => ?_, fun h => ?_⟩⟩⟩)⟩), fun hc => ⟨fun h => ?_, fun h => ?_⟩⟩))))), fun h => ?s1⟩⟩⟩)⟩))))))
      case s1 => exact absurd h (by simp [isI])
      · exact absurd (show (!decide ((q0 : Int) ≤ ((iDs ws).length : Int))) = true from h) (by rw [decide_eq_true (by omega)]; decide)
      · exact wss_nil q
      all_goals exact absurd (show decide ((1 : Int) ≤ (q0 : Int)) = false from hc) (by rw [decide_eq_true (by omega)]; decide)
    cases hI : isI dv
    · refine wss_one (ws_if (WW.t (ww_or (wt_not (wt_val (w_fn G_is_integer hr hgd ⟨rfl, (w_var 1 ⟨_, rfl, ⟨_, rfl, ⟨fun h => ?g1, fun h => ?g2⟩⟩⟩)⟩))))))
      case g1 => exact absurd h (by rw [hI]; decide)
      case g2 =>
        refine ⟨fun _ => ?_, fun z => nomatch z⟩
        -- line 145
        refine wss_one (ws_raiseR Z_BadPlace hr tk ⟨rfl, (w_var 1 ⟨_, rfl, ?_⟩)⟩)
        exact qe
    · obtain ⟨i, rfl⟩ := isI_int dv hI
      have hv2 : (decide (1 ≤ i) && decide (i ≤ (ws.length : Int))) = false := hv
      -- line 144
      refine wss_one (ws_if (WW.t (ww_or (wt_not (wt_val (w_fn G_is_integer hr hgd ⟨rfl, (w_var 1 ⟨_, rfl, ⟨_, rfl, ⟨fun h => (ww_or1 (wt_not (wt_chain dop_le dop_le (w_int (w_var 1 ⟨rfl, rfl, _, rfl, fun hc => (w_callB dc_len m_len rfl ⟨rfl, (w_var 0 ⟨rfl, ⟨rfl, rfl, _, rfl, ⟨fun h => ?_, fun h => ?_⟩⟩⟩)⟩), fun hc => ⟨fun h => ?_, fun h => ?_⟩⟩))))), fun h => ?s2⟩⟩⟩)⟩))))))
      case s2 => exact absurd h (by simp [isI])
      · skip
        -- line 145
        refine wss_one (ws_raiseR Z_BadPlace hr tk ⟨rfl, (w_var 1 ⟨_, rfl, ?_⟩)⟩)
        exact qe
      · exfalso
        rw [show decide (1 ≤ i) = true from hc, Bool.true_and] at hv2
        have h : (!decide (i ≤ ((iDs ws).length : Int))) = false := h
        rw [hnl, hv2] at h
        exact absurd h (by decide)
      · skip
        -- line 145
        refine wss_one (ws_raiseR Z_BadPlace hr tk ⟨rfl, (w_var 1 ⟨_, rfl, ?_⟩)⟩)
        exact qe
      all_goals exact absurd h (by decide)
abbrev N_state_of : List Str := ["width", "text", "place"]
theorem sc_state_of : FnScope N_state_of ["width", "text", "place"] (defScope (topS 32)) := ⟨rfl, rfl, rfl, by decide +kernel, rfl, by decide +kernel, by decide +kernel⟩
theorem g_state_of {f : Addr} {fd : FuncData} {k : Nat} {aBadPlace : Addr} (Fn : Fun K "state_of" "state_of" (topS 32) f fd) (G_check_place : Df P w K mg base Tq k "check_place" ["text", "place"] (spCheckE aBadPlace)) (G_states : Df P w K mg base Tq k "states" ["width", "text"] spStates) : FnG P w K mg base Tq (k + 1) f fd ["width", "text", "place"] (spStateE aBadPlace) := by
  refine fn_g Fn sc_state_of (fun ts Q E h => ?_) fun cdv A outer s H E Z ts QT ET hr hgd hp tk h => ?_
  · obtain ⟨wd, ws, dv, rfl, W, hq⟩ := h; rfl
  · obtain ⟨wd, ws, dv, rfl, W, hq⟩ := h
    have hlen := W.len
    rcases hq with ⟨q0, rfl, ⟨h1, h2⟩, q⟩ | ⟨hv, qe⟩
    · skip
      have hat : atI (stsD wd ws) ((q0 : Int) - 1) = some (.str (stS wd ws q0)) := by
        rw [show ((q0 : Int) - 1) = ((q0 - 1 : Nat) : Int) by omega]
        refine atI_nat ?_
        unfold stsD
        rw [List.getElem?_map, List.getElem?_drop, show 1 + (q0 - 1) = q0 by omega, List.getElem?_range (by omega)]
        rfl
      -- line 161
      refine wss_cons (ws_expr (w_fnX G_check_place hr hgd tk  ⟨rfl, (w_var 1 ⟨rfl, (w_var 2 ⟨ws, _, rfl, hlen, .inl ⟨_, rfl, ⟨h1, h2⟩, ?_⟩⟩)⟩)⟩))
      -- line 162
      refine wss_one (ws_ret (w_ix (w_fn G_states hr hgd ⟨rfl, (w_var 0 ⟨rfl, (w_var 1 ⟨wd, ws, rfl, W, (w_bin dop_sub (w_var 2 (w_int ⟨rfl, rfl, ⟨rfl, rfl, _, hat, ?_⟩⟩)))⟩)⟩)⟩)))
      exact q
    · refine wss_cons (ws_expr (w_fnX G_check_place hr hgd tk ⟨rfl, w_var 1 ⟨rfl, w_var 2 ⟨ws, dv, rfl, hlen, .inr ⟨hv, qe⟩⟩⟩⟩))
end
end K26

/-! LY: the settled lines: what all futures have in common. -/
namespace LM
open PySem
end LM

/-! LZ: settled words with more words behind; a text behind a place that all pass. -/
namespace LM
open PySem
end LM

/-! LZf: futures of at most two words, and the ends that they have. -/
namespace LM
open PySem
abbrev FE := List Int × List Nat
noncomputable def futsF (wd : Int) (ws : List Int) (rs qs : List (Int × Int × Nat)) : List FE :=
  ([([], bestLay wd ws)] ++ rs.map fun r => ([r.1], way wd ws r.2.2)) ++ qs.map fun r => ([r.1, wd], way wd ws r.2.2)
/-- the futures of at most two words -/
def FewW (wd : Int) (vs : List Int) : Prop := vs = [] ∨ ∃ u, 1 ≤ u ∧ u ≤ wd ∧ (vs = [u] ∨ vs = [u, wd])
theorem FewW.row {wd : Int} (w1 : 1 ≤ wd) {vs : List Int} (h : FewW wd vs) : vs.length ≤ 2 ∧ ∀ x ∈ vs, 1 ≤ x ∧ x ≤ wd := by
  rcases h with rfl | ⟨u, u1, u2, rfl | rfl⟩
  · exact ⟨by simp, fun x h => nomatch h⟩
  · exact ⟨by simp, fun x h => by rw [List.mem_singleton.mp h]; omega⟩
  · exact ⟨by simp, fun x h => by simp at h; omega⟩
section
variable {wd : Int} {ws : List Int} (V : Wd wd ws) (hl : ws.length + 2 ≤ 1000) {rs qs : List (Int × Int × Nat)} (ho : Rgs wd (opn wd ws) rs (wd + 1)) (hc : Rgs wd (cls wd ws) qs (wd + 1))
include V hl
theorem one_in {u : Int} (u1 : 1 ≤ u) (u2 : u ≤ wd) {q : Nat} (hq : q ≤ ws.length) : q ∈ bestLay wd (ws ++ [u]) ↔ q ∈ way wd ws (opn wd ws u) := by
  have W1 : Wd wd (ws ++ [u]) := V.app (by simp; omega) fun y hy => by rw [List.mem_singleton.mp hy]; omega
  rw [mem_start W1 V (List.cons_ne_nil _ _) hq, start_one W1]
theorem two_in {u : Int} (u1 : 1 ≤ u) (u2 : u ≤ wd) {q : Nat} (hq : q ≤ ws.length) : q ∈ bestLay wd (ws ++ [u, wd]) ↔ q ∈ way wd ws (cls wd ws u) := by
  have W1 : Wd wd (ws ++ [u]) := V.app (by simp; omega) fun y hy => by rw [List.mem_singleton.mp hy]; omega
  have W2 : Wd wd (ws ++ [u, wd]) := V.app (by simp; omega) fun y hy => by simp at hy; omega
  rw [mem_start W2 V (List.cons_ne_nil _ _) hq, start_two W1 hl]
include ho hc
theorem futs_mem {x : FE} (h : x ∈ futsF wd ws rs qs) : FewW wd x.1 ∧ ∀ q, q ≤ ws.length → (q ∈ x.2 ↔ q ∈ bestLay wd (ws ++ x.1)) := by
  unfold futsF at h
  rw [List.mem_append, List.mem_append, List.mem_singleton, List.mem_map, List.mem_map] at h
  rcases h with (rfl | ⟨r, hr, rfl⟩) | ⟨r, hr, rfl⟩
  · exact ⟨.inl rfl, fun q _ => by rw [List.append_nil]⟩
  · obtain ⟨a, b, c, _, e⟩ := ho.each r hr
    exact ⟨.inr ⟨r.1, a, by omega, .inl rfl⟩, fun q hq => by rw [one_in V hl a (by omega) hq, e r.1 (Int.le_refl _) b]⟩
  · obtain ⟨a, b, c, _, e⟩ := hc.each r hr
    exact ⟨.inr ⟨r.1, a, by omega, .inr rfl⟩, fun q hq => by rw [two_in V hl a (by omega) hq, e r.1 (Int.le_refl _) b]⟩
theorem futs_has {vs : List Int} (h : FewW wd vs) : ∃ x ∈ futsF wd ws rs qs, x.1.length = vs.length ∧ ∀ q, q ≤ ws.length → (q ∈ x.2 ↔ q ∈ bestLay wd (ws ++ vs)) := by
  unfold futsF
  rcases h with rfl | ⟨u, u1, u2, rfl | rfl⟩
  · exact ⟨([], bestLay wd ws), by simp, rfl, fun q _ => by rw [List.append_nil]⟩
  · obtain ⟨r, hr, e⟩ := (ho.mem (opn wd ws u)).mpr ⟨u, u1, by omega, rfl⟩
    exact ⟨_, List.mem_append_left _ (List.mem_append_right _ (List.mem_map.mpr ⟨r, hr, rfl⟩)), rfl, fun q hq => by rw [one_in V hl u1 u2 hq, e]⟩
  · obtain ⟨r, hr, e⟩ := (hc.mem (cls wd ws u)).mpr ⟨u, u1, by omega, rfl⟩
    exact ⟨_, List.mem_append_right _ (List.mem_map.mpr ⟨r, hr, rfl⟩), rfl, fun q hq => by rw [two_in V hl u1 u2 hq, e]⟩
theorem futs_tell {q : Nat} (hq : q ≤ ws.length) : tells ((futsF wd ws rs qs).countP fun x => decide (q ∈ x.2)) (futsF wd ws rs qs).length = tells (cntE wd ws q) (allE wd ws).length := by
  have w1 := V.w1
  have h := futures_tell V ((futsF wd ws rs qs).map Prod.fst) (by unfold futsF; simp) (fun vs hv _ => ?_) (fun p hp => ?_) hq
  · rw [List.length_map, List.countP_map] at h
    rw [← h]
    congr 1
    refine List.countP_congr fun x hx => ?_
    rw [decide_eq_true_eq, (futs_mem V hl ho hc hx).2 q hq]
    show _ ↔ decide (q ∈ bestLay wd (ws ++ x.1)) = true
    rw [decide_eq_true_eq]
  · obtain ⟨x, hx, rfl⟩ := List.mem_map.mp hv
    have r := (futs_mem V hl ho hc hx).1.row w1
    exact V.app (by omega) r.2
  · obtain ⟨u, u1, u2, z⟩ := stL_mem.mp hp
    have W1 : Wd wd (ws ++ [u]) := V.app (by simp; omega) fun y hy => by rw [List.mem_singleton.mp hy]; omega
    rcases z with z | z
    · obtain ⟨r, hr, e⟩ := (hc.mem p).mpr ⟨u, u1, by omega, z⟩
      obtain ⟨a, b, c, _, e2⟩ := hc.each r hr
      have W3 : Wd wd (ws ++ [r.1]) := V.app (by simp; omega) fun y hy => by rw [List.mem_singleton.mp hy]; omega
      refine ⟨[r.1, wd], List.mem_map.mpr ⟨_, List.mem_append_right _ (List.mem_map.mpr ⟨r, hr, rfl⟩), rfl⟩, List.cons_ne_nil _ _, ?_⟩
      rw [start_two W3 hl, e2 r.1 (Int.le_refl _) b, e]
    · obtain ⟨r, hr, e⟩ := (ho.mem p).mpr ⟨u, u1, by omega, z⟩
      obtain ⟨a, b, c, _, e2⟩ := ho.each r hr
      have W3 : Wd wd (ws ++ [r.1]) := V.app (by simp; omega) fun y hy => by rw [List.mem_singleton.mp hy]; omega
      refine ⟨[r.1], List.mem_map.mpr ⟨_, List.mem_append_left _ (List.mem_append_right _ (List.mem_map.mpr ⟨r, hr, rfl⟩)), rfl⟩, List.cons_ne_nil _ _, ?_⟩
      rw [start_one W3, e2 r.1 (Int.le_refl _) b, e]
omit V hl ho hc in
theorem futs_pw : (futsF wd ws rs qs).Pairwise fun a b => a.1.length ≤ b.1.length := by
  have c : ∀ (k : Nat) (xs : List FE), (∀ x ∈ xs, x.1.length = k) → xs.Pairwise fun a b => a.1.length ≤ b.1.length := fun k xs h => by
    induction xs with
    | nil => exact .nil
    | cons x xs ih =>
      refine List.pairwise_cons.mpr ⟨fun y hy => ?_, ih fun y hy => h y (List.mem_cons_of_mem _ hy)⟩
      rw [h x (by simp), h y (List.mem_cons_of_mem _ hy)]
      exact Nat.le_refl _
  have h1 : ∀ x ∈ rs.map fun r => (([r.1], way wd ws r.2.2) : FE), x.1.length = 1 := fun x hx => by obtain ⟨r, _, rfl⟩ := List.mem_map.mp hx; rfl
  have h2 : ∀ x ∈ qs.map fun r => (([r.1, wd], way wd ws r.2.2) : FE), x.1.length = 2 := fun x hx => by obtain ⟨r, _, rfl⟩ := List.mem_map.mp hx; rfl
  unfold futsF
  refine List.pairwise_append.mpr ⟨List.pairwise_append.mpr ⟨List.pairwise_singleton _ _, c 1 _ h1, fun a ha b hb => ?_⟩, c 2 _ h2, fun a ha b hb => ?_⟩
  · rw [List.mem_singleton.mp ha]; exact Nat.zero_le _
  · rw [h2 b hb]
    rcases List.mem_append.mp ha with z | z
    · rw [List.mem_singleton.mp z]; exact Nat.zero_le _
    · rw [h1 a z]; decide
end
/-- a future that ends a line at a place, or not, of as few words as any -/
def TwoOk (wd : Int) (ws : List Int) (q : Nat) (pos : Bool) (v : List Int) : Prop :=
  FewW wd v ∧ decide (q ∈ bestLay wd (ws ++ v)) = pos ∧ ∀ u, FewW wd u → decide (q ∈ bestLay wd (ws ++ u)) = pos → v.length ≤ u.length
section
variable {wd : Int} {ws : List Int} (V : Wd wd ws) (hl : ws.length + 2 ≤ 1000) {rs qs : List (Int × Int × Nat)} (ho : Rgs wd (opn wd ws) rs (wd + 1)) (hc : Rgs wd (cls wd ws) qs (wd + 1))
include V hl ho hc
theorem futs_first {q : Nat} (hq : q ≤ ws.length) (pos : Bool) {x : FE} {xs : List FE} (h : (futsF wd ws rs qs).filter (fun x => decide (q ∈ x.2) == pos) = x :: xs) : TwoOk wd ws q pos x.1 := by
  have hx : x ∈ (futsF wd ws rs qs).filter (fun x => decide (q ∈ x.2) == pos) := by rw [h]; simp
  obtain ⟨m1, m2⟩ := List.mem_filter.mp hx
  obtain ⟨f1, f2⟩ := futs_mem V hl ho hc m1
  have m2 : decide (q ∈ x.2) = pos := by simpa using m2
  refine ⟨f1, by rw [← m2, decide_eq_decide]; exact (f2 q hq).symm, fun u hu hp => ?_⟩
  obtain ⟨y, hy, hyl, hym⟩ := futs_has V hl ho hc hu
  have hyf : y ∈ (futsF wd ws rs qs).filter (fun x => decide (q ∈ x.2) == pos) := List.mem_filter.mpr ⟨hy, by rw [beq_iff_eq, ← hp, decide_eq_decide]; exact hym q hq⟩
  have pw := (futs_pw (wd := wd) (ws := ws) (rs := rs) (qs := qs)).filter (fun x => decide (q ∈ x.2) == pos)
  rw [h] at pw hyf
  rw [← hyl]
  rcases List.mem_cons.mp hyf with z | z
  · rw [z]; exact Nat.le_refl _
  · exact (List.pairwise_cons.mp pw).1 y z
theorem futs_none {q : Nat} (hq : q ≤ ws.length) (pos : Bool) (h : (futsF wd ws rs qs).filter (fun x => decide (q ∈ x.2) == pos) = []) : tells (cntE wd ws q) (allE wd ws).length = if pos then 0 else 2 := by
  have ht := futs_tell V hl ho hc hq
  have hf : ∀ x ∈ futsF wd ws rs qs, decide (q ∈ x.2) ≠ pos := fun x hx z => by
    have : x ∈ (futsF wd ws rs qs).filter (fun x => decide (q ∈ x.2) == pos) := List.mem_filter.mpr ⟨hx, by simpa using z⟩
    rw [h] at this
    cases this
  have h0 : 0 < (futsF wd ws rs qs).length := by unfold futsF; simp
  rw [← ht]
  cases pos with
  | true =>
    have : (futsF wd ws rs qs).countP (fun x => decide (q ∈ x.2)) = 0 := List.countP_eq_zero.mpr hf
    rw [this]; rfl
  | false =>
    have : (futsF wd ws rs qs).countP (fun x => decide (q ∈ x.2)) = (futsF wd ws rs qs).length := List.countP_eq_length.mpr fun x hx => by have := hf x hx; simpa using this
    rw [this]
    unfold tells
    rw [if_neg (by omega), if_pos rfl]; rfl
theorem futs_both {q : Nat} (hq : q ≤ ws.length) {x y : FE} {xs ys : List FE} (h : (futsF wd ws rs qs).filter (fun x => decide (q ∈ x.2) == true) = x :: xs) (g : (futsF wd ws rs qs).filter (fun x => decide (q ∈ x.2) == false) = y :: ys) : tells (cntE wd ws q) (allE wd ws).length = 1 := by
  have ht := futs_tell V hl ho hc hq
  have hx := List.mem_filter.mp (show x ∈ (futsF wd ws rs qs).filter (fun x => decide (q ∈ x.2) == true) by rw [h]; simp)
  have hy := List.mem_filter.mp (show y ∈ (futsF wd ws rs qs).filter (fun x => decide (q ∈ x.2) == false) by rw [g]; simp)
  have n0 : (futsF wd ws rs qs).countP (fun x => decide (q ∈ x.2)) ≠ 0 := fun z => List.countP_eq_zero.mp z x hx.1 (by simpa using hx.2)
  have n1 : (futsF wd ws rs qs).countP (fun x => decide (q ∈ x.2)) ≠ (futsF wd ws rs qs).length := fun z => by
    have := List.countP_eq_length.mp z y hy.1
    have h2 := hy.2
    rw [this] at h2
    exact absurd h2 (by decide)
  rw [← ht]
  unfold tells
  rw [if_neg n0, if_neg n1]
end
end LM

namespace K26
open PySem PySem.Spec PyProof.Rows L2 QL
open LM
theorem in_nats {q : Nat} {ns : List Nat} : decide ((q : Int) ∈ ns.map fun (n : Nat) => (n : Int)) = decide (q ∈ ns) := by
  rw [decide_eq_decide, List.mem_map]
  exact ⟨fun ⟨a, h, e⟩ => by have : a = q := by omega
                             rwa [← this], fun h => ⟨q, h, rfl⟩⟩
abbrev enF (x : FE) : D := .tuple [.tuple (iDs x.1), tN x.2]
def spShort : Spc := fun ts QT _ => ∃ (wd : Int) (ws : List Int), ts = [.va (.int wd), .va (.tuple (iDs ws))] ∧ Wd wd ws ∧ ∀ rs qs p, Rgs wd (opn wd ws) rs (wd + 1) → rs.length ≤ ws.length + 1 → Rgs wd (cls wd ws) qs (wd + 1) → qs.length ≤ ws.length + 1 → QT (.lst p ((futsF wd ws rs qs).map enF)) [none, none]
def spEndsLine : Spc := fun ts QT _ => ∃ (wd : Int) (ws vs : List Int) (q : Nat), ts = [.va (.int wd), .va (.tuple (iDs ws)), .va (.int (q : Int)), .va (.tuple (iDs vs))] ∧ Wd wd (ws ++ vs) ∧ QT (.va (.bool (decide (q ∈ bestLay wd (ws ++ vs))))) [none, none, none, none]
def spAreW : Spc := fun ts QT _ => ∃ (wd : Int) (vs : List Int), ts = [.va (.int wd), .va (.tuple (iDs vs))] ∧ (∀ x ∈ vs, 1 ≤ x ∧ x ≤ wd) ∧ vs.length ≤ 1000 ∧ QT (.va (.bool true)) [none, none]
def spIsT : Spc := fun ts QT _ => ∃ (wd : Int) (vs : List Int), ts = [.va (.int wd), .va (.tuple (iDs vs))] ∧ (∀ x ∈ vs, 1 ≤ x ∧ x ≤ wd) ∧ vs.length ≤ 300 ∧ QT (.va (.bool true)) [none, none]
theorem futs_sh {wd : Int} {ws : List Int} (V : Wd wd ws) (hl : ws.length + 2 ≤ 1000) {rs qs : List (Int × Int × Nat)} (ho : Rgs wd (opn wd ws) rs (wd + 1)) (hc : Rgs wd (cls wd ws) qs (wd + 1)) {xs : List FE} (h : ∀ x ∈ xs, x ∈ futsF wd ws rs qs) : SeqAt.shaped (.list (xs.map fun (x : FE) => PyData.tuple (iDs x.1))) = true := by
  have b : (1000000000 : Nat) < 2 ^ 200 := by decide
  have w1 := V.w1
  have w2 := V.w2
  refine shaped_sm ?_ ?_
  · simp only [smallD]
    refine smallA_map fun x hx => ?_
    simp only [smallD]
    refine iDs_small fun y hy => ?_
    have := ((futs_mem V hl ho hc (h x hx)).1.row w1).2 y hy
    omega
  · have : PyData.depthAll (xs.map fun (x : FE) => PyData.tuple (iDs x.1)) ≤ 1 := depthAll_map fun x _ => by simp only [PyData.depth, iDs_depth]; omega
    simp only [PyData.depth]; omega
def spTwoE (aB : Addr) : Spc := fun ts QT ET => ∃ (wd : Int) (ws : List Int) (d : D), ts = [.va (.int wd), .va (.tuple (iDs ws)), .va d] ∧ Wd wd ws ∧ ws.length + 2 ≤ 1000 ∧ ((∃ q : Nat, d = .int (q : Int) ∧ (1 ≤ q ∧ q ≤ ws.length) ∧ ∀ d, QT (.va d) [none, none, none]) ∨ (btw d 1 (ws.length : Int) = false ∧ ET ⟨aB, [("value", d)]⟩ [none, none, none]))
/-- a value that shows_open may get here -/
def Fut (wd : Int) (ws : List Int) (val : D) : Prop := isB val "tuple" = false ∨ (∃ x, val = .tuple [x]) ∨ ∃ v1 v2, val = .tuple [.tuple (iDs v1), .tuple (iDs v2)] ∧ Wd wd (ws ++ v1) ∧ Wd wd (ws ++ v2) ∧ v1.length ≤ 300 ∧ v2.length ≤ 300
def spShowsE (aB : Addr) : Spc := fun ts QT ET => ∃ (wd : Int) (ws : List Int) (d val : D), ts = [.va (.int wd), .va (.tuple (iDs ws)), .va d, .va val] ∧ ws.length ≤ 1000 ∧ Fut wd ws val ∧ ((∃ q : Nat, d = .int (q : Int) ∧ (1 ≤ q ∧ q ≤ ws.length) ∧ ∀ b, QT (.va (.bool b)) [none, none, none, none]) ∨ (btw d 1 (ws.length : Int) = false ∧ ET ⟨aB, [("value", d)]⟩ [none, none, none, none]))
section
variable {P : Program} {w : World} {K : PySem.W.Frag} {mg : Str → Option Value} {base : Heap} {Tq : List (Addr × Str)}
abbrev N_short_futures : List Str := ["width", "text", "table", "found", "low", "high", "start"]
theorem sc_short_futures : FnScope N_short_futures ["width", "text"] (defScope (topS 33)) := ⟨rfl, rfl, rfl, by decide +kernel, rfl, by decide +kernel, by decide +kernel⟩
theorem g_short_futures {f : Addr} {fd : FuncData} {k : Nat} {aTable : Addr} (Fn : Fun K "short_futures" "short_futures" (topS 33) f fd) (G_best_layout : Df P w K mg base Tq k "best_layout" ["width", "text"] spBest) (G_closing_starts : Df P w K mg base Tq k "closing_starts" ["width", "text"] (spRgs LM.cls)) (G_open_starts : Df P w K mg base Tq k "open_starts" ["width", "text"] (spRgs LM.opn)) (M_way : Mf P w K mg base Tq k aTable "way" ["self", "place"] (spWay aTable)) (C_Table : Ck P w K mg base Tq k "Table" aTable ["self", "width", "text"] (spInit aTable)) : FnG P w K mg base Tq (k + 2) f fd ["width", "text"] spShort := by
  have G_best_layout := G_best_layout.mono (Nat.le_succ k)
  have G_closing_starts := G_closing_starts.mono (Nat.le_succ k)
  have G_open_starts := G_open_starts.mono (Nat.le_succ k)
  have M_way := M_way.mono (Nat.le_succ k)
  refine fn_g Fn sc_short_futures (fun ts Q E h => ?_) fun cdv A outer s H E Z ts QT ET hr hgd hp tk h => ?_
  · obtain ⟨wd, ws, rfl, W, q⟩ := h; rfl
  · obtain ⟨wd, ws, rfl, W, q⟩ := h
    have hlen := W.len
    -- line 164
    refine wss_cons (ws_set 2 (w_make C_Table hr hgd ⟨rfl, (w_var 0 ⟨rfl, (w_var 1 fun pN1 => ⟨_, wd, ws, rfl, W, fun pc pb => ⟨rfl, rfl, ⟨Nat.lt_of_sub_eq_succ rfl, ?_⟩⟩⟩)⟩)⟩) sc_short_futures.nd)
    -- line 165
    refine wss_cons (ws_set 3 (w_lst ⟨rfl, (w_tup ⟨rfl, (w_tup ⟨(by first | decide | (simp only [List.length_append, List.length_map, List.length_cons, List.length_nil, List.length_singleton, List.length_replicate, List.length_range, List.length_take, List.length_drop, List.length_dropLast, List.length_reverse, Bool.false_eq_true, eq_self, reduceIte, sizeLine_eq]; omega)), ⟨rfl, (w_fn G_best_layout hr hgd ⟨rfl, (w_var 0 ⟨rfl, (w_var 1 ⟨wd, ws, rfl, W, ⟨(by first | decide | (simp only [List.length_append, List.length_map, List.length_cons, List.length_nil, List.length_singleton, List.length_replicate, List.length_range, List.length_take, List.length_drop, List.length_dropLast, List.length_reverse, Bool.false_eq_true, eq_self, reduceIte, sizeLine_eq]; omega)), ⟨(by first | decide | (simp only [List.length_append, List.length_map, List.length_cons, List.length_nil, List.length_singleton, List.length_replicate, List.length_range, List.length_take, List.length_drop, List.length_dropLast, List.length_reverse, Bool.false_eq_true, eq_self, reduceIte, sizeLine_eq]; omega)), fun p1 => ⟨Nat.lt_of_sub_eq_succ rfl, ?_⟩⟩⟩⟩)⟩)⟩)⟩⟩)⟩)⟩) sc_short_futures.nd)
    -- line 166
    refine wss_cons (ws_expr (w_extend (w_var 3 ⟨_, _, _, _, rfl, rfl, (w_lc (own := [("low", 4), ("high", 5), ("start", 6)]) rfl sc_short_futures.nd (blkOk_by (N := N_short_futures) (sc := defScope (topS 33)) (by decide +kernel)) (fun _ _ _ _ _ => pg_tup (by rfl) (pgs_cons (pg_name (i := 4) sc_short_futures.nd rfl (by first | exact Or.inl rfl | exact Or.inr rfl)) (pgs_cons (pg_name (i := 5) sc_short_futures.nd rfl (by first | exact Or.inl rfl | exact Or.inr rfl)) (pgs_cons (pg_name (i := 6) sc_short_futures.nd rfl (by first | exact Or.inl rfl | exact Or.inr rfl)) (pgs_nil))))) (gok_tup (gsok_cons (gok_name 4) (gsok_cons (gok_name 5) (gsok_cons (gok_name 6) (gsok_nil))))) (by decide) (wi_tup (w_fn G_open_starts hr hgd ⟨rfl, (w_var 0 ⟨rfl, (w_var 1 ⟨wd, ws, rfl, W, fun rs hrs hrsl => (lc_map fm_tup3 (enR) (rs) (fun (r : Int × Int × Nat) => enF ([r.1], way wd ws r.2.2)) _ rfl (rfl) (by rw [sizeLine_eq]; omega) (fun k2 x hx => by have hs : x.2.2 ≤ ws.length := (by obtain ⟨a9, b9, c9, _, e9⟩ := hrs.each x (List.mem_of_getElem? hx); have h8 := e9 x.1 (Int.le_refl _) b9; have h7 := opn_le (wd := wd) (ws := ws) (u := x.1) (by omega); omega); exact ⟨rfl, ⟨Nat.lt_of_sub_eq_succ rfl, ⟨Nat.lt_of_sub_eq_succ rfl, ⟨Nat.lt_of_sub_eq_succ rfl, ⟨rfl, fun s2 H2 C2 cl2 fp2 => (w_tup ⟨rfl, (w_tup ⟨rfl, (w_var 4 ⟨(by first | decide | (simp only [List.length_append, List.length_map, List.length_cons, List.length_nil, List.length_singleton, List.length_replicate, List.length_range, List.length_take, List.length_drop, List.length_dropLast, List.length_reverse, Bool.false_eq_true, eq_self, reduceIte, sizeLine_eq]; omega)), ⟨rfl, (w_meth M_way hr hgd (w_var 2 ⟨⟨rfl, rfl, rfl⟩, ⟨rfl, (w_var 6 ⟨rfl, ⟨_, wd, ws, _, _, x.2.2, rfl, W, hs, ⟨rfl, rfl, ⟨(by first | decide | (simp only [List.length_append, List.length_map, List.length_cons, List.length_nil, List.length_singleton, List.length_replicate, List.length_range, List.length_take, List.length_drop, List.length_dropLast, List.length_reverse, Bool.false_eq_true, eq_self, reduceIte, sizeLine_eq]; omega)), ⟨rfl, rfl⟩⟩⟩⟩⟩)⟩⟩))⟩⟩)⟩)⟩)⟩⟩⟩⟩⟩) (fun p2 => ⟨rfl, _, _, rfl, rfl, (by simp only [List.length_append, List.length_map, List.length_cons, List.length_nil, List.length_singleton, List.length_replicate, List.length_range, List.length_take, List.length_drop, List.length_dropLast, List.length_reverse, Bool.false_eq_true, eq_self, reduceIte, sizeLine_eq]; omega), ?_⟩))⟩)⟩)⟩)))⟩)))
    -- line 167
    refine wss_cons (ws_expr (w_extend (w_var 3 ⟨_, _, _, _, rfl, rfl, (w_lc (own := [("low", 4), ("high", 5), ("start", 6)]) rfl sc_short_futures.nd (blkOk_by (N := N_short_futures) (sc := defScope (topS 33)) (by decide +kernel)) (fun _ _ _ _ _ => pg_tup (by rfl) (pgs_cons (pg_name (i := 4) sc_short_futures.nd rfl (by first | exact Or.inl rfl | exact Or.inr rfl)) (pgs_cons (pg_name (i := 5) sc_short_futures.nd rfl (by first | exact Or.inl rfl | exact Or.inr rfl)) (pgs_cons (pg_name (i := 6) sc_short_futures.nd rfl (by first | exact Or.inl rfl | exact Or.inr rfl)) (pgs_nil))))) (gok_tup (gsok_cons (gok_name 4) (gsok_cons (gok_name 5) (gsok_cons (gok_name 6) (gsok_nil))))) (by decide) (wi_tup (w_fn G_closing_starts hr hgd ⟨rfl, (w_var 0 ⟨rfl, (w_var 1 ⟨wd, ws, rfl, W, fun qs hqs hqsl => (lc_map fm_tup3 (enR) (qs) (fun (r : Int × Int × Nat) => enF ([r.1, wd], way wd ws r.2.2)) _ rfl (rfl) (by rw [sizeLine_eq]; omega) (fun k2 x hx => by have hs : x.2.2 ≤ ws.length := (by obtain ⟨a9, b9, c9, _, e9⟩ := hqs.each x (List.mem_of_getElem? hx); have h8 := e9 x.1 (Int.le_refl _) b9; have h7 := cls_le (wd := wd) (ws := ws) (u := x.1) (by omega); omega); exact ⟨rfl, ⟨Nat.lt_of_sub_eq_succ rfl, ⟨Nat.lt_of_sub_eq_succ rfl, ⟨Nat.lt_of_sub_eq_succ rfl, ⟨rfl, fun s2 H2 C2 cl2 fp2 => (w_tup ⟨rfl, (w_tup ⟨rfl, (w_var 4 ⟨rfl, (w_var 0 ⟨(by first | decide | (simp only [List.length_append, List.length_map, List.length_cons, List.length_nil, List.length_singleton, List.length_replicate, List.length_range, List.length_take, List.length_drop, List.length_dropLast, List.length_reverse, Bool.false_eq_true, eq_self, reduceIte, sizeLine_eq]; omega)), ⟨rfl, (w_meth M_way hr hgd (w_var 2 ⟨⟨rfl, rfl, rfl⟩, ⟨rfl, (w_var 6 ⟨rfl, ⟨_, wd, ws, _, _, x.2.2, rfl, W, hs, ⟨rfl, rfl, ⟨(by first | decide | (simp only [List.length_append, List.length_map, List.length_cons, List.length_nil, List.length_singleton, List.length_replicate, List.length_range, List.length_take, List.length_drop, List.length_dropLast, List.length_reverse, Bool.false_eq_true, eq_self, reduceIte, sizeLine_eq]; omega)), ⟨rfl, rfl⟩⟩⟩⟩⟩)⟩⟩))⟩⟩)⟩)⟩)⟩)⟩⟩⟩⟩⟩) (fun p3 => ⟨rfl, _, _, rfl, rfl, (by simp only [List.length_append, List.length_map, List.length_cons, List.length_nil, List.length_singleton, List.length_replicate, List.length_range, List.length_take, List.length_drop, List.length_dropLast, List.length_reverse, Bool.false_eq_true, eq_self, reduceIte, sizeLine_eq]; omega), ?_⟩))⟩)⟩)⟩)))⟩)))
    have eF : ([enF ([], bestLay wd ws)] ++ rs.map fun r => enF ([r.1], way wd ws r.2.2)) ++ (qs.map fun r => enF ([r.1, wd], way wd ws r.2.2)) = (futsF wd ws rs qs).map enF := by unfold futsF; rw [List.map_append, List.map_append, List.map_map, List.map_map]; rfl
    -- line 168
    refine wss_one (ws_ret (w_var 3 ⟨rfl, ?_⟩))
    show QT (.lst _ (([enF ([], bestLay wd ws)] ++ rs.map fun r => enF ([r.1], way wd ws r.2.2)) ++ (qs.map fun r => enF ([r.1, wd], way wd ws r.2.2)))) [none, none]
    rw [eF]; exact q rs qs _ hrs hrsl hqs hqsl
abbrev N_two_futures : List Str := ["width", "text", "place", "futures", "ending", "future", "ends", "other"]
theorem sc_two_futures : FnScope N_two_futures ["width", "text", "place"] (defScope (topS 34)) := ⟨rfl, rfl, rfl, by decide +kernel, rfl, by decide +kernel, by decide +kernel⟩
theorem g_two_futures {f : Addr} {fd : FuncData} {k : Nat} {aBadPlace : Addr} (Fn : Fun K "two_futures" "two_futures" (topS 34) f fd) (G_check_place : Df P w K mg base Tq k "check_place" ["text", "place"] (spCheckE aBadPlace)) (G_short_futures : Df P w K mg base Tq k "short_futures" ["width", "text"] spShort) : FnG P w K mg base Tq (k + 1) f fd ["width", "text", "place"] (spTwoE aBadPlace) := by
  refine fn_g Fn sc_two_futures (fun ts Q E h => ?_) fun cdv A outer s H E Z ts QT ET hr hgd hp tk h => ?_
  · obtain ⟨wd, ws, dv, rfl, W, hl, hq⟩ := h; rfl
  · obtain ⟨wd, ws, dv, rfl, W, hl, hq⟩ := h
    have hlen0 := W.len
    rcases hq with ⟨q0, rfl, ⟨h1, h2⟩, q⟩ | ⟨hv, qe⟩
    · have q1 : tells (cntE wd ws q0) (allE wd ws).length ≠ 1 → QT (.va .none) [none, none, none] := fun _ => q _
      have q2 : ∀ v1 v2, tells (cntE wd ws q0) (allE wd ws).length = 1 → TwoOk wd ws q0 true v1 → TwoOk wd ws q0 false v2 → QT (.va (.tuple [.tuple (iDs v1), .tuple (iDs v2)])) [none, none, none] := fun _ _ _ _ _ => q _
      have hlen := W.len
      -- line 170
      refine wss_cons (ws_expr (w_fnX G_check_place hr hgd tk  ⟨rfl, (w_var 1 ⟨rfl, (w_var 2 ⟨ws, _, rfl, hlen, .inl ⟨_, rfl, ⟨h1, h2⟩, ?_⟩⟩)⟩)⟩))
      -- line 171
      refine wss_cons (ws_set 3 (w_fn G_short_futures hr hgd ⟨rfl, (w_var 0 ⟨rfl, (w_var 1 ⟨wd, ws, rfl, W, fun rs qs pF hrs hrl hqs hql => ⟨Nat.lt_of_sub_eq_succ rfl, ?_⟩⟩)⟩)⟩) sc_two_futures.nd)
      obtain ⟨Fs, hFs⟩ : ∃ Fs, Fs = futsF wd ws rs qs := ⟨_, rfl⟩
      rw [← hFs]
      have hFl : Fs.length ≤ 2100 := by rw [hFs]; unfold futsF; simp only [List.length_append, List.length_map, List.length_singleton]; omega
      -- line 172
      refine wss_cons (ws_setLcIf 4 (own := [("future", 5), ("ends", 6)]) rfl sc_two_futures.nd (blkOk_by (N := N_two_futures) (sc := defScope (topS 34)) (by decide +kernel)) (fun _ _ _ _ _ => pg_tup (by rfl) (pgs_cons (pg_name (i := 5) sc_two_futures.nd rfl (by first | exact Or.inl rfl | exact Or.inr rfl)) (pgs_cons (pg_name (i := 6) sc_two_futures.nd rfl (by first | exact Or.inl rfl | exact Or.inr rfl)) (pgs_nil)))) (gok_tup (gsok_cons (gok_name 5) (gsok_cons (gok_name 6) (gsok_nil)))) (by decide) (wi_list (w_var 3 ⟨rfl, (lc_filt fm_tup2 (enF) (Fs) (fun x => decide (q0 ∈ x.2) == true) (fun (x : FE) => PyData.tuple (iDs x.1)) _ rfl (rfl) (by rw [sizeLine_eq]; omega) (fun k2 x hx => by skip; exact ⟨rfl, ⟨Nat.lt_of_sub_eq_succ rfl, ⟨Nat.lt_of_sub_eq_succ rfl, ⟨rfl, fun s2 H2 C2 cl2 fp2 => (wt_cmp dop_in (w_var 2 (w_var 6 ⟨rfl, rfl, _, (x.2.map fun (n : Nat) => (n : Int)), rfl, (.inr (by rw [List.map_map]; rfl)), _, rfl, ⟨(by rw [in_nats]; cases decide (q0 ∈ x.2) <;> rfl), fun ht s3 H3 C3 cl3 fp3 => (w_var 5 ⟨rfl, rfl⟩), fun ht => rfl⟩⟩)) (by with_unfolding_all rfl))⟩⟩⟩⟩) (fun p1 => ⟨Nat.lt_of_sub_eq_succ rfl, ?_⟩))⟩)))
      obtain ⟨EN, hEN⟩ : ∃ EN, EN = Fs.filter (fun x => decide (q0 ∈ x.2) == true) := ⟨_, rfl⟩
      have sEN : SeqAt.shaped (.list (EN.map fun (x : FE) => PyData.tuple (iDs x.1))) = true := futs_sh W hl hrs hqs fun x hx => by rw [hEN] at hx; rw [← hFs]; exact (List.mem_filter.mp hx).1
      rw [← hEN]
      -- line 173
      refine wss_cons (ws_setLcIf 7 (own := [("future", 5), ("ends", 6)]) rfl sc_two_futures.nd (blkOk_by (N := N_two_futures) (sc := defScope (topS 34)) (by decide +kernel)) (fun _ _ _ _ _ => pg_tup (by rfl) (pgs_cons (pg_name (i := 5) sc_two_futures.nd rfl (by first | exact Or.inl rfl | exact Or.inr rfl)) (pgs_cons (pg_name (i := 6) sc_two_futures.nd rfl (by first | exact Or.inl rfl | exact Or.inr rfl)) (pgs_nil)))) (gok_tup (gsok_cons (gok_name 5) (gsok_cons (gok_name 6) (gsok_nil)))) (by decide) (wi_list (w_var 3 (lc_filt fm_tup2 (enF) (Fs) (fun x => decide (q0 ∈ x.2) == false) (fun (x : FE) => PyData.tuple (iDs x.1)) _ rfl (rfl) (by rw [sizeLine_eq]; omega) (fun k2 x hx => by skip; exact ⟨rfl, ⟨Nat.lt_of_sub_eq_succ rfl, ⟨Nat.lt_of_sub_eq_succ rfl, ⟨rfl, fun s2 H2 C2 cl2 fp2 => (wt_cmp dop_notin (w_var 2 (w_var 6 ⟨rfl, rfl, _, (x.2.map fun (n : Nat) => (n : Int)), rfl, (.inr (by rw [List.map_map]; rfl)), _, rfl, ⟨(by rw [in_nats]; cases decide (q0 ∈ x.2) <;> rfl), fun ht s3 H3 C3 cl3 fp3 => (w_var 5 ⟨rfl, rfl⟩), fun ht => rfl⟩⟩)) (by with_unfolding_all rfl))⟩⟩⟩⟩) (fun p2 => ⟨Nat.lt_of_sub_eq_succ rfl, ?_⟩)))))
      obtain ⟨ON, hON⟩ : ∃ ON, ON = Fs.filter (fun x => decide (q0 ∈ x.2) == false) := ⟨_, rfl⟩
      have sON : SeqAt.shaped (.list (ON.map fun (x : FE) => PyData.tuple (iDs x.1))) = true := futs_sh W hl hrs hqs fun x hx => by rw [hON] at hx; rw [← hFs]; exact (List.mem_filter.mp hx).1
      rw [← hON]
      show WSs _ _ _ [some (.va (.int wd)), some (.va (.tuple (iDs ws))), some (.va (.int (q0 : Int))), some (.va (.list (Fs.map enF))), some (.lst p1 (EN.map fun (x : FE) => PyData.tuple (iDs x.1))), none, none, some (.lst p2 (ON.map fun (x : FE) => PyData.tuple (iDs x.1)))] _
      rw [hFs] at hEN hON
      have cEN : (!PyData.eqv (.list (EN.map fun (x : FE) => PyData.tuple (iDs x.1))) (.list [])) = true → ∃ x xs, EN = x :: xs := fun z => by
        cases EN with
        | nil => exact absurd (show (!true) = true from z) (by decide)
        | cons x xs => exact ⟨x, xs, rfl⟩
      have dEN : (!PyData.eqv (.list (EN.map fun (x : FE) => PyData.tuple (iDs x.1))) (.list [])) = false → EN = [] := fun z => by
        cases EN with
        | nil => rfl
        | cons x xs => exact absurd (show (!false) = false from z) (by decide)
      have aEN : (!PyData.eqv (.list (EN.map fun (x : FE) => PyData.tuple (iDs x.1))) (.list [])) = true → atI (EN.map fun (x : FE) => PyData.tuple (iDs x.1)) 0 = some (.tuple (iDs (EN.headD ([], [])).1)) := fun z => by
        obtain ⟨x, xs, e⟩ := cEN z
        rw [e]; exact atI_nat (j := 0) rfl
      have cON : (!PyData.eqv (.list (ON.map fun (x : FE) => PyData.tuple (iDs x.1))) (.list [])) = true → ∃ x xs, ON = x :: xs := fun z => by
        cases ON with
        | nil => exact absurd (show (!true) = true from z) (by decide)
        | cons x xs => exact ⟨x, xs, rfl⟩
      have dON : (!PyData.eqv (.list (ON.map fun (x : FE) => PyData.tuple (iDs x.1))) (.list [])) = false → ON = [] := fun z => by
        cases ON with
        | nil => rfl
        | cons x xs => exact absurd (show (!false) = false from z) (by decide)
      have aON : (!PyData.eqv (.list (ON.map fun (x : FE) => PyData.tuple (iDs x.1))) (.list [])) = true → atI (ON.map fun (x : FE) => PyData.tuple (iDs x.1)) 0 = some (.tuple (iDs (ON.headD ([], [])).1)) := fun z => by
        obtain ⟨x, xs, e⟩ := cON z
        rw [e]; exact atI_nat (j := 0) rfl
      have noE : EN = [] → tells (cntE wd ws q0) (allE wd ws).length ≠ 1 := fun z => by
        rw [futs_none W hl hrs hqs h2 true (hEN.symm.trans z)]; decide
      have noO : ON = [] → tells (cntE wd ws q0) (allE wd ws).length ≠ 1 := fun z => by
        rw [futs_none W hl hrs hqs h2 false (hON.symm.trans z)]; decide
      -- line 174
      refine wss_one (ws_ret (w_ifExp (WW.t (ww_and (wt_cmp (dop_ne (room64 hr)) (w_var 4 (w_lst ⟨(by first | decide | (simp only [List.length_append, List.length_map, List.length_cons, List.length_nil, List.length_singleton, List.length_replicate, List.length_range, List.length_take, List.length_drop, List.length_dropLast, List.length_reverse, Bool.false_eq_true, eq_self, reduceIte, sizeLine_eq]; omega)), fun p3 => ⟨rfl, rfl, sEN, rfl, _, rfl, ⟨fun h => (ww_and1 (wt_cmp (dop_ne (room64 hr)) (w_var 7 (w_lst ⟨(by first | decide | (simp only [List.length_append, List.length_map, List.length_cons, List.length_nil, List.length_singleton, List.length_replicate, List.length_range, List.length_take, List.length_drop, List.length_dropLast, List.length_reverse, Bool.false_eq_true, eq_self, reduceIte, sizeLine_eq]; omega)), fun p4 => ⟨rfl, rfl, sON, rfl, _, rfl, ⟨fun h => (w_tup ⟨rfl, (w_ix (w_var 4 (w_int ⟨rfl, rfl, _, (aEN (by assumption)), ⟨rfl, (w_ix (w_var 7 (w_int ⟨rfl, rfl, _, (aON (by assumption)), ⟨(by first | decide | (simp only [List.length_append, List.length_map, List.length_cons, List.length_nil, List.length_singleton, List.length_replicate, List.length_range, List.length_take, List.length_drop, List.length_dropLast, List.length_reverse, Bool.false_eq_true, eq_self, reduceIte, sizeLine_eq]; omega)), ?_⟩⟩)))⟩⟩)))⟩), fun h => (w_non ?_)⟩⟩⟩)))), fun h => ?n1⟩⟩⟩)))))))
      case n1 => exact ⟨(fun z => nomatch z), fun _ => w_non (q1 (noE (dEN h)))⟩
      · obtain ⟨x, xs, e1⟩ := cEN (by assumption)
        obtain ⟨y, ys, e2⟩ := cON (by assumption)
        show QT (.va (.tuple [.tuple (iDs (EN.headD ([], [])).1), .tuple (iDs (ON.headD ([], [])).1)])) [none, none, none]
        rw [e1, e2]
        exact q2 x.1 y.1 (futs_both W hl hrs hqs h2 (hEN.symm.trans e1) (hON.symm.trans e2)) (futs_first W hl hrs hqs h2 true (hEN.symm.trans e1)) (futs_first W hl hrs hqs h2 false (hON.symm.trans e2))
      · exact q1 (noO (dON h))
    · refine wss_cons (ws_expr (w_fnX G_check_place hr hgd tk ⟨rfl, w_var 1 ⟨rfl, w_var 2 ⟨ws, dv, rfl, hlen0, .inr ⟨hv, qe⟩⟩⟩⟩))
end
end K26

namespace K26
open PySem PySem.Spec PyProof.Rows L2 QL
open LM
section
variable {P : Program} {w : World} {K : PySem.W.Frag} {mg : Str → Option Value} {base : Heap} {Tq : List (Addr × Str)}
abbrev N_ends_line : List Str := ["width", "text", "place", "future"]
theorem sc_ends_line : FnScope N_ends_line ["width", "text", "place", "future"] (defScope (topS 35)) := ⟨rfl, rfl, rfl, by decide +kernel, rfl, by decide +kernel, by decide +kernel⟩
theorem g_ends_line {f : Addr} {fd : FuncData} {k : Nat} (Fn : Fun K "ends_line" "ends_line" (topS 35) f fd) (G_best_layout : Df P w K mg base Tq k "best_layout" ["width", "text"] spBest) : FnG P w K mg base Tq (k + 1) f fd ["width", "text", "place", "future"] spEndsLine := by
  refine fn_g Fn sc_ends_line (fun ts Q E h => ?_) fun cdv A outer s H E Z ts QT ET hr hgd hp tk h => ?_
  · obtain ⟨wd, ws, vs, q0, rfl, W, q⟩ := h; rfl
  · obtain ⟨wd, ws, vs, q0, rfl, W, q⟩ := h
    have hla : (ws ++ vs).length = ws.length + vs.length := List.length_append
    have hlen := W.len
    rw [← in_nats] at q
    -- line 176
    refine wss_one (ws_ret (w_cmp dop_in (w_var 2 (w_fn G_best_layout hr hgd ⟨rfl, (w_var 0 ⟨rfl, (w_bin dop_add (w_var 1 (w_var 3 ⟨rfl, rfl, (by simp only [List.length_append, List.length_map, List.length_cons, List.length_nil, List.length_singleton, List.length_replicate, List.length_range, List.length_take, List.length_drop, List.length_dropLast, List.length_reverse, Bool.false_eq_true, eq_self, reduceIte, sizeLine_eq]; omega), ⟨wd, ws ++ vs, (by simp), W, ⟨rfl, rfl, _, ((bestLay wd (ws ++ vs)).map fun (n : Nat) => (n : Int)), rfl, (.inr (by rw [List.map_map]; rfl)), ?_⟩⟩⟩)))⟩)⟩)) (by with_unfolding_all rfl)))
    exact q
abbrev N_is_between : List Str := ["value", "least", "most"]
theorem sc_is_between : FnScope N_is_between ["value", "least", "most"] (defScope (topS 10)) := ⟨rfl, rfl, rfl, by decide +kernel, rfl, by decide +kernel, by decide +kernel⟩
theorem g_is_between {f : Addr} {fd : FuncData} {k : Nat} (Fn : Fun K "is_between" "is_between" (topS 10) f fd) (G_is_integer : Df P w K mg base Tq k "is_integer" ["value"] spIsI) : FnG P w K mg base Tq (k + 1) f fd ["value", "least", "most"] spBtw := by
  refine fn_g Fn sc_is_between (fun ts Q E h => ?_) fun cdv A outer s H E Z ts QT ET hr hgd hp tk h => ?_
  · obtain ⟨dv, lo, hi, rfl, q⟩ := h; rfl
  · obtain ⟨dv, lo, hi, rfl, q⟩ := h
    cases hI : isI dv
    · rw [btw_no dv lo hi hI] at q
      refine wss_one (ws_ret (w_and (w_fn G_is_integer hr hgd ⟨rfl, (w_var 0 ⟨_, rfl, ⟨_, rfl, fun h => ?_, fun h => ?_⟩⟩)⟩)))
      · exact absurd (hI.symm.trans h) (by decide)
      · exact q
    · obtain ⟨i, rfl⟩ := isI_int dv hI
      refine wss_one (ws_ret (w_and (w_fn G_is_integer hr hgd ⟨rfl, (w_var 0 ⟨_, rfl, ⟨_, rfl, fun h => (w_one (w_chain dop_le dop_le (w_var 1 (w_var 0 ⟨rfl, rfl, _, rfl, fun h => (w_var 2 ⟨rfl, rfl, ?_⟩), fun h => ?_⟩)))), fun h => ?_⟩⟩)⟩)))
      · have e : btw (.int i) lo hi = decide (i ≤ hi) := by
          show (decide (lo ≤ i) && decide (i ≤ hi)) = _
          rw [show decide (lo ≤ i) = true from h, Bool.true_and]
        rw [e] at q; exact q
      · have e : btw (.int i) lo hi = false := by
          show (decide (lo ≤ i) && decide (i ≤ hi)) = _
          rw [show decide (lo ≤ i) = false from h, Bool.false_and]
        rw [e] at q; exact q
      · exact absurd h (by simp [isI])
abbrev N_are_words : List Str := ["width", "value", "word"]
theorem sc_are_words : FnScope N_are_words ["width", "value"] (defScope (topS 11)) := ⟨rfl, rfl, rfl, by decide +kernel, rfl, by decide +kernel, by decide +kernel⟩
theorem g_are_words {f : Addr} {fd : FuncData} {k : Nat} (Fn : Fun K "are_words" "are_words" (topS 11) f fd) (G_is_between : Df P w K mg base Tq k "is_between" ["value", "least", "most"] spBtw) (m_all : mg "all" = none) (m_isinstance : mg "isinstance" = none) (m_tuple : mg "tuple" = none) : FnG P w K mg base Tq (k + 1) f fd ["width", "value"] spAreW := by
  refine fn_g Fn sc_are_words (fun ts Q E h => ?_) fun cdv A outer s H E Z ts QT ET hr hgd hp tk h => ?_
  · obtain ⟨wd, vs, rfl, hv, hn, q⟩ := h; rfl
  · obtain ⟨wd, vs, rfl, hv, hn, q⟩ := h
    -- line 36
    refine wss_one (ws_ret (w_and (w_isi (w_var 1 ⟨rfl, ⟨_, rfl, fun h => (w_one (w_callB (dc_all rfl) m_all rfl ⟨rfl, (w_lc (own := [("word", 2)]) rfl sc_are_words.nd (blkOk_by (N := N_are_words) (sc := defScope (topS 11)) (by decide +kernel)) (fun _ _ _ _ _ => pg_name (i := 2) sc_are_words.nd rfl (by first | exact Or.inl rfl | exact Or.inr rfl)) (gok_name 2) (by decide) (wi_tup (w_var 1 (lc_map fm_name (PyData.int) (vs) (fun _ => PyData.bool true) _ rfl (rfl) (by rw [sizeLine_eq]; omega) (fun k2 x hx => by have hx9 := hv x (List.mem_of_getElem? hx); exact ⟨Nat.lt_of_sub_eq_succ rfl, fun s2 H2 C2 cl2 fp2 => (w_fn G_is_between hr hgd ⟨rfl, (w_var 2 ⟨rfl, (w_int ⟨rfl, (w_var 0 ⟨_, _, _, rfl, ⟨(congrArg (fun z => [PyData.bool z]) (show (decide (1 ≤ x) && decide (x ≤ wd)) = true by rw [decide_eq_true hx9.1, decide_eq_true hx9.2]; rfl)), rfl⟩⟩)⟩)⟩)⟩)⟩) (fun p1 => ⟨rfl, ⟨_, (show [PyData.list (vs.map fun _ => PyData.bool true)] = [PyData.list ((List.replicate vs.length true).map PyData.bool)] from by simp [List.map_const']), ?_⟩⟩)))))⟩)), fun h => ?s1⟩⟩) kit_tuple m_isinstance m_tuple rfl)))
    case s1 => exact absurd (show true = false from h) (by decide)
    show QT (.va (.bool ((List.replicate vs.length true).all id))) [none, none]
    rw [show (List.replicate vs.length true).all id = true by simp]; exact q
abbrev N_is_text : List Str := ["width", "value"]
theorem sc_is_text : FnScope N_is_text ["width", "value"] (defScope (topS 12)) := ⟨rfl, rfl, rfl, by decide +kernel, rfl, by decide +kernel, by decide +kernel⟩
theorem g_is_text {f : Addr} {fd : FuncData} {k : Nat} (Fn : Fun K "is_text" "is_text" (topS 12) f fd) (G_are_words : Df P w K mg base Tq k "are_words" ["width", "value"] spAreW) {tMOST_WORDS : Tok} (m_MOST_WORDS : mg "MOST_WORDS" = some (.int 300 tMOST_WORDS)) (m_len : mg "len" = none) : FnG P w K mg base Tq (k + 1) f fd ["width", "value"] spIsT := by
  refine fn_g Fn sc_is_text (fun ts Q E h => ?_) fun cdv A outer s H E Z ts QT ET hr hgd hp tk h => ?_
  · obtain ⟨wd, vs, rfl, hv, hn, q⟩ := h; rfl
  · obtain ⟨wd, vs, rfl, hv, hn, q⟩ := h
    have hnl : (iDs vs).length = vs.length := List.length_map _
    -- line 38
    refine wss_one (ws_ret (w_and (w_fn G_are_words hr hgd ⟨rfl, (w_var 0 ⟨rfl, (w_var 1 ⟨wd, vs, rfl, hv, (by omega), ⟨_, rfl, fun h => (w_one (w_cmp dop_le (w_callB dc_len m_len rfl ⟨rfl, (w_var 1 ⟨rfl, (w_glob (v := .int 300) (d := .int 300) m_MOST_WORDS ⟨_, rfl⟩ (fun _ => .int _) ⟨rfl, rfl, ?_⟩)⟩)⟩))), fun h => ?s1⟩⟩)⟩)⟩)))
    case s1 => exact absurd h (by decide)
    show QT (.va (.bool (decide (((iDs vs).length : Int) ≤ 300)))) [none, none]
    rw [decide_eq_true (by omega)]; exact q
abbrev N_shows_open : List Str := ["width", "text", "place", "value", "one"]
theorem sc_shows_open : FnScope N_shows_open ["width", "text", "place", "value"] (defScope (topS 36)) := ⟨rfl, rfl, rfl, by decide +kernel, rfl, by decide +kernel, by decide +kernel⟩
theorem g_shows_open {f : Addr} {fd : FuncData} {k : Nat} {aBadPlace : Addr} (Fn : Fun K "shows_open" "shows_open" (topS 36) f fd) (G_check_place : Df P w K mg base Tq k "check_place" ["text", "place"] (spCheckE aBadPlace)) (G_ends_line : Df P w K mg base Tq k "ends_line" ["width", "text", "place", "future"] spEndsLine) (G_is_text : Df P w K mg base Tq k "is_text" ["width", "value"] spIsT) {tPAIR : Tok} (m_PAIR : mg "PAIR" = some (.int 2 tPAIR)) (m_all : mg "all" = none) (m_isinstance : mg "isinstance" = none) (m_len : mg "len" = none) (m_tuple : mg "tuple" = none) : FnG P w K mg base Tq (k + 1) f fd ["width", "text", "place", "value"] (spShowsE aBadPlace) := by
  refine fn_g Fn sc_shows_open (fun ts Q E h => ?_) fun cdv A outer s H E Z ts QT ET hr hgd hp tk h => ?_
  · obtain ⟨wd, ws, dv, val, rfl, hl, hv, hq⟩ := h; rfl
  · obtain ⟨wd, ws, dv, val, rfl, hl, hv, hq⟩ := h
    rcases hq with ⟨q0, rfl, ⟨h1, h2⟩, q⟩ | ⟨hb, qe⟩
    · skip
      -- line 178
      refine wss_cons (ws_expr (w_fnX G_check_place hr hgd tk  ⟨rfl, (w_var 1 ⟨rfl, (w_var 2 ⟨ws, _, rfl, hl, .inl ⟨_, rfl, ⟨h1, h2⟩, ?_⟩⟩)⟩)⟩))
      rcases hv with hA | ⟨x1, rfl⟩ | ⟨v1, v2, rfl, W1, W2, n1, n2⟩
      · skip
        refine wss_cons (ws_if (WW.t (ww_or (wt_not (wt_val (w_isi (w_var 3 ⟨rfl, ⟨_, rfl, ⟨fun h => ?n1, fun h => ?n2⟩⟩⟩) kit_tuple m_isinstance m_tuple rfl))))))
        case n1 => exact absurd h (by rw [hA]; decide)
        case n2 =>
          refine ⟨fun _ => ?_, fun z => nomatch z⟩
          -- line 180
          refine wss_one (ws_ret (w_bl ?_))
          exact q _
      · skip
        refine wss_cons (ws_if (WW.t (ww_or (wt_not (wt_val (w_isi (w_var 3 ⟨rfl, ⟨_, rfl, ⟨fun h => (ww_or (wt_cmp (dop_ne (room64 hr)) (w_callB dc_len m_len rfl ⟨rfl, (w_var 3 ⟨rfl, (w_glob (v := .int 2) (d := .int 2) m_PAIR ⟨_, rfl⟩ (fun _ => .int _) ⟨rfl, rfl, _, rfl, ⟨fun h => ?n3, fun h => ?n4⟩⟩)⟩)⟩))), fun h => ?n5⟩⟩⟩) kit_tuple m_isinstance m_tuple rfl))))))
        case n3 => exact absurd (show (!decide ((1 : Int) = 2)) = false from h) (by decide)
        case n5 => exact absurd (show (!true) = true from h) (by decide)
        case n4 =>
          refine ⟨fun _ => ?_, fun z => nomatch z⟩
          -- line 180
          refine wss_one (ws_ret (w_bl ?_))
          exact q _
      · skip
        have hv9 : ∀ v ∈ [v1, v2], (∀ x ∈ v, 1 ≤ x ∧ x ≤ wd) ∧ v.length ≤ 300 := fun v hv => by
          rcases List.mem_cons.mp hv with z | z
          · rw [z]; exact ⟨fun x hx => W1.wrd x (List.mem_append_right _ hx), n1⟩
          · rw [List.mem_singleton.mp z]; exact ⟨fun x hx => W2.wrd x (List.mem_append_right _ hx), n2⟩
        -- line 179
        refine wss_cons (ws_if (WW.t (ww_or (wt_not (wt_val (w_isi (w_var 3 ⟨rfl, ⟨_, rfl, ⟨fun h => (ww_or (wt_cmp (dop_ne (room64 hr)) (w_callB dc_len m_len rfl ⟨rfl, (w_var 3 ⟨rfl, (w_glob (v := .int 2) (d := .int 2) m_PAIR ⟨_, rfl⟩ (fun _ => .int _) ⟨rfl, rfl, _, rfl, ⟨fun h => (ww_or1 (wt_not (wt_val (w_callB (dc_all rfl) m_all rfl ⟨rfl, (w_lc (own := [("one", 4)]) rfl sc_shows_open.nd (blkOk_by (N := N_shows_open) (sc := defScope (topS 36)) (by decide +kernel)) (fun _ _ _ _ _ => pg_name (i := 4) sc_shows_open.nd rfl (by first | exact Or.inl rfl | exact Or.inr rfl)) (gok_name 4) (by decide) (wi_tup (w_var 3 (lc_map fm_name (fun (v : List Int) => PyData.tuple (iDs v)) ([v1, v2]) (fun _ => PyData.bool true) _ rfl (rfl) (by rw [sizeLine_eq]; show 2 < 16777216; decide) (fun k2 x hx => by have hx9 := hv9 x (List.mem_of_getElem? hx); exact ⟨Nat.lt_of_sub_eq_succ rfl, fun s2 H2 C2 cl2 fp2 => (w_fn G_is_text hr hgd ⟨rfl, (w_var 0 ⟨rfl, (w_var 4 ⟨wd, x, rfl, hx9.1, hx9.2, ⟨rfl, rfl⟩⟩)⟩)⟩)⟩) (fun p1 => ⟨rfl, ⟨_, (show [PyData.list ([v1, v2].map fun _ => PyData.bool true)] = [PyData.list ([true, true].map PyData.bool)] from rfl), ⟨_, rfl, ⟨fun h => ?_, fun h => ?_⟩⟩⟩⟩)))))⟩)))), fun h => ?s1⟩⟩)⟩)⟩))), fun h => ?s2⟩⟩⟩) kit_tuple m_isinstance m_tuple rfl))))))
        case s2 => exact absurd (show (!true) = true from h) (by decide)
        case s1 => exact absurd (show (!decide ((2 : Int) = 2)) = true from h) (by decide)
        · exact absurd (show (!true) = true from h) (by decide)
        refine wss_nil ?_
        -- line 181
        refine wss_one (ws_ret (w_and (w_fn G_ends_line hr hgd ⟨rfl, (w_var 0 ⟨rfl, (w_var 1 ⟨rfl, (w_var 2 ⟨rfl, (w_ix (w_var 3 (w_int ⟨rfl, rfl, _, rfl, ⟨wd, ws, v1, q0, rfl, W1, ⟨_, rfl, fun h => (w_one (w_not (w_fn G_ends_line hr hgd ⟨rfl, (w_var 0 ⟨rfl, (w_var 1 ⟨rfl, (w_var 2 ⟨rfl, (w_ix (w_var 3 (w_int ⟨rfl, rfl, _, rfl, ⟨wd, ws, v2, q0, rfl, W2, ⟨_, rfl, ?_⟩⟩⟩)))⟩)⟩)⟩)⟩))), fun h => ?s3⟩⟩⟩)))⟩)⟩)⟩)⟩)))
        case s3 => exact q _
        exact q _
    · refine wss_cons (ws_expr (w_fnX G_check_place hr hgd tk ⟨rfl, w_var 1 ⟨rfl, w_var 2 ⟨ws, dv, rfl, hl, .inr ⟨hb, qe⟩⟩⟩⟩))
end
end K26

/-! QLg: a def with one default argument, called by names. -/
namespace QL
open PySem PySem.Spec PyProof.Rows L2
end QL

/-! QV: repr and str of data with dicts: only a dict's own address must be other than that of the modules' table. -/
namespace QL
open PySem PySem.Spec PyProof.Rows L2
/-- a value as it is read, and how it is shown -/
def ShK (P : Program) (w : World) (h : Heap) (u : Value) (d : D) : Prop := ∃ as bs, Reads h u d as ∧ ReadAtMost h d.depth bs ∧ ReprK P w bs h d.depth u d.shown
def ShA (P : Program) (w : World) (h : Heap) (us : List Value) (ds : List D) : Prop := ∃ as bs, ReadsAll h us ds as ∧ ReadAtMost h (PyData.depthAll ds) bs ∧ ReprAllK P w bs h (PyData.depthAll ds) us (PyData.shownAll ds)
theorem ShA.nil {P : Program} {w : World} {h : Heap} : ShA P w h [] [] := ⟨[], [], .nil, fun _ z => (nomatch z), by simp only [PyData.shownAll]; exact .nil⟩
theorem ShA.cons {P : Program} {w : World} {h : Heap} {u : Value} {us : List Value} {d : D} {ds : List D} (a : ShK P w h u d) (b : ShA P w h us ds) : ShA P w h (u :: us) (d :: ds) := by
  obtain ⟨as1, bs1, r1, m1, k1⟩ := a
  obtain ⟨as2, bs2, r2, m2, k2⟩ := b
  have e : PyData.depthAll (d :: ds) = max d.depth (PyData.depthAll ds) := by simp only [PyData.depthAll]
  refine ⟨as1 ++ as2, bs1 ++ bs2, .cons r1 r2, ?_, ?_⟩
  · rw [e]
    exact (m1.mono (Nat.le_max_left _ _)).append (m2.mono (Nat.le_max_right _ _))
  · rw [e]
    simp only [PyData.shownAll]
    exact .cons ((k1.more fun b hb => List.mem_append_left bs2 hb).level_le (Nat.le_max_left _ _)) (k2.more_le (fun b hb => List.mem_append_right bs1 hb) (Nat.le_max_right _ _))
/-- the texts of the parts are not longer than the whole -/
def fitsA (ds : List D) : Prop := ∀ t ∈ PyData.shownAll ds, t.length ≤ sizeLine
theorem fitsA.head {d : D} {ds : List D} (h : fitsA (d :: ds)) : d.shown.length ≤ sizeLine := h _ (by simp only [PyData.shownAll]; exact List.mem_cons_self)
theorem fitsA.tail {d : D} {ds : List D} (h : fitsA (d :: ds)) : fitsA ds := fun t ht => h t (by simp only [PyData.shownAll]; exact List.mem_cons_of_mem _ ht)
theorem fits_list {xs : List D} (h : (PyData.shown (.list xs)).length ≤ sizeLine) : fitsA xs := fun t ht => Nat.le_trans (listText_mem_le ht) (by simpa only [PyData.shown] using h)
theorem fits_tuple {xs : List D} (h : (PyData.shown (.tuple xs)).length ≤ sizeLine) : fitsA xs := fun t ht => Nat.le_trans (tupleText_mem_le ht) (by simpa only [PyData.shown] using h)
theorem fits_keys {kvs : List (D × D)} (h : (PyData.shown (.dict kvs)).length ≤ sizeLine) : fitsA (kvs.map (·.1)) := fun t ht => by
  obtain ⟨p, hp, hl⟩ := PyData.shownKv_key_le kvs t ht
  exact Nat.le_trans hl (Nat.le_trans (dictText_mem_le hp) (by simpa only [PyData.shown] using h))
theorem fits_vals {kvs : List (D × D)} (h : (PyData.shown (.dict kvs)).length ≤ sizeLine) : fitsA (kvs.map (·.2)) := fun t ht => by
  obtain ⟨p, hp, hl⟩ := PyData.shownKv_val_le kvs t ht
  exact Nat.le_trans hl (Nat.le_trans (dictText_mem_le hp) (by simpa only [PyData.shown] using h))
theorem keys_sh {P : Program} {w : World} {h : Heap} {Q : Program} : ∀ {es : List DictEntry} {vs : List (Key × Value)} {kvs : List (Key × V)} {ds : List (D × D)} {F : Hp}, PySem.Pairs (mixKind Q w) es vs → KV kvs vs → RpK F kvs ds →
    PyData.showableAll (ds.map (·.1)) = true → fitsA (ds.map (·.1)) → ShA P w h (es.map (·.key)) (ds.map (·.1))
  | _, _, _, _, _, .nil, r, q, _, _ => by cases r; cases q; exact ShA.nil
  | _, _, _, _, _, .cons hk hv t, r, q, hs, hf => by
    cases r with
    | cons r1 r2 =>
      cases q with
      | cons q1 q2 =>
        have hs' := hs
        simp only [List.map_cons, PyData.showableAll, Bool.and_eq_true] at hs'
        have ih := keys_sh (P := P) (h := h) t r2 q2 hs'.2 (fitsA.tail hf)
        obtain ⟨r1a, r1b⟩ := r1
        simp only at r1a
        subst r1a
        rcases keyIs_shape hk with ⟨i, t', e1, e2⟩ | ⟨x, t', e1, e2⟩
        · simp only [List.map_cons]
          rw [e1, e2]
          rw [e1] at hs'
          refine ShA.cons ⟨[], [], .int i t', fun _ z => (nomatch z), ?_⟩ ih
          exact .of_is (ReprIs.int t' (by simpa [kD, PyData.showable] using hs'.1)) _ _ _
        · simp only [List.map_cons]
          rw [e1, e2]
          have hf1 := fitsA.head hf
          rw [e1] at hf1
          exact ShA.cons ⟨[], [], .str x t', fun _ z => (nomatch z), .of_is (ReprIs.str x t' (by simpa only [kD, PyData.shown] using hf1)) _ _ _⟩ ih
section
variable {X : Cx} {pins : List (Addr × Obj)} {σ : L2.St} {H : Hp} {s : Shared}
mutual
theorem Rp.sh (I : Inv X pins σ H s) : ∀ {v : V} {d : D} {u : Value}, Rp H v d → L2.RelV v u → d.showable = true → d.shown.length ≤ sizeLine → ShK X.prog X.w s.heap u d
  | _, _, _, .non, r, _, _ => by cases r; exact ⟨[], [], .none, fun _ z => (nomatch z), .of_is ReprIs.none _ _ _⟩
  | _, _, _, .bl b, r, _, _ => by cases r; exact ⟨[], [], .bool b, fun _ z => (nomatch z), .of_is (ReprIs.bool b) _ _ _⟩
  | _, _, _, .int i, r, hs, _ => by
    obtain ⟨t, rfl⟩ := r
    exact ⟨[], [], .int i t, fun _ z => (nomatch z), .of_is (ReprIs.int t (by simpa [PyData.showable] using hs)) _ _ _⟩
  | _, _, _, .str x, r, _, hz => by
    obtain ⟨t, rfl⟩ := r
    exact ⟨[], [], .str x t, fun _ z => (nomatch z), .of_is (ReprIs.str x t (by simpa only [PyData.shown] using hz)) _ _ _⟩
  | _, _, _, .lst (ds := ds) h q, r, hs, hz => by
    cases r
    obtain ⟨its, rv, ⟨o, n, ho, hc, _, hd⟩, _⟩ := I.list (SqL.of h)
    obtain ⟨as, bs, r1, m1, k1⟩ := RpA.sh I q rv (by simpa [PyData.showable] using hs) (fits_list hz)
    have rd : Reads s.heap (.ref _) (.list ds) _ := .list ho hc hd r1
    have dp : PyData.depthAll ds < (PyData.list ds).depth := by simp only [PyData.depth]; omega
    refine ⟨_, _ :: bs, rd, ReadAtMost.cons rd (Nat.le_of_lt dp) m1, ?_⟩
    simp only [PyData.depth, PyData.shown]
    cases its with
    | nil =>
      cases r1
      simp only [PyData.shownAll, listText_nil]
      exact ReprK.listEmpty ho hc hd
    | cons x l => exact ReprK.list ho hc hd (not_mem_of_deeper rd dp m1) (by simpa using k1.length_eq) (fun i y e => k1.item i y (by simpa using e))
  | _, _, _, .tup (ds := ds) h q, r, hs, hz => by
    cases r
    obtain ⟨its, rv, ⟨o, ho, hc, n, hd⟩, _⟩ := I.tuple (.inl h)
    obtain ⟨as, bs, r1, m1, k1⟩ := RpA.sh I q rv (by simpa [PyData.showable] using hs) (fits_tuple hz)
    have rd : Reads s.heap (.ref _) (.tuple ds) _ := .tuple ho hc hd r1
    have dp : PyData.depthAll ds < (PyData.tuple ds).depth := by simp only [PyData.depth]; omega
    refine ⟨_, _ :: bs, rd, ReadAtMost.cons rd (Nat.le_of_lt dp) m1, ?_⟩
    simp only [PyData.depth, PyData.shown]
    exact ReprK.tuple ho hc hd (not_mem_of_deeper rd dp m1) k1
  | _, _, _, .dic (ds := ds) h q, r, hs, hz => by
    cases r
    obtain ⟨_, hsys, vs, rel, o, es, ep, ho, hx, hdat, _, hp, _⟩ := dk_rd I.hok h
    obtain ⟨hs1, hs2⟩ := PyData.showableKv_split ds (by simpa [PyData.showable] using hs)
    obtain ⟨as1, bs1, r1, m1, k1⟩ := keys_sh (P := X.prog) (h := s.heap) hp rel q hs1 (fits_keys hz)
    obtain ⟨as2, bs2, r2, m2, k2⟩ := RpK.sh I q rel hp hs2 (fits_vals hz)
    have rd : Reads s.heap (.ref _) (.dict ds) _ := .dict ho hx.1 hdat r1 r2
    have mm : ReadAtMost s.heap (PyData.depthKv ds) (bs1 ++ bs2) := (m1.mono (PyData.depthAll_keys_le ds)).append (m2.mono (PyData.depthAll_vals_le ds))
    have dp : PyData.depthKv ds < (PyData.dict ds).depth := by simp only [PyData.depth]; omega
    refine ⟨_, _ :: (bs1 ++ bs2), rd, ReadAtMost.cons rd (Nat.le_of_lt dp) mm, ?_⟩
    simp only [PyData.depth, PyData.shown, PyData.shownKv_eq]
    exact ReprK.dict ho hx.1 hdat hsys (not_mem_of_deeper rd dp mm) (ReprEntriesK.of_two es.toList _ _ (k1.more_le (fun b hb => List.mem_append_left bs2 hb) (PyData.depthAll_keys_le ds)) (k2.more_le (fun b hb => List.mem_append_right bs1 hb) (PyData.depthAll_vals_le ds)))
theorem RpA.sh (I : Inv X pins σ H s) : ∀ {vs : List V} {ds : List D} {us : List Value}, RpA H vs ds → Vals vs us → PyData.showableAll ds = true → fitsA ds → ShA X.prog X.w s.heap us ds
  | _, _, _, .nil, r, _, _ => by cases r; exact ShA.nil
  | _, _, _, .cons h q, r, hs, hz => by
    cases r with
    | cons r1 r2 =>
      simp only [PyData.showableAll, Bool.and_eq_true] at hs
      exact ShA.cons (Rp.sh I h r1 hs.1 (fitsA.head hz)) (RpA.sh I q r2 hs.2 (fitsA.tail hz))
theorem RpK.sh (I : Inv X pins σ H s) : ∀ {kvs : List (Key × V)} {ds : List (D × D)} {vs : List (Key × Value)} {es : List DictEntry}, RpK H kvs ds → KV kvs vs → PySem.Pairs (mixKind X.prog X.w) es vs → PyData.showableAll (ds.map (·.2)) = true → fitsA (ds.map (·.2)) →
    ShA X.prog X.w s.heap (es.map (·.val)) (ds.map (·.2))
  | _, _, _, _, .nil, r, p, _, _ => by cases r; cases p; exact ShA.nil
  | _, _, _, _, .cons h q, r, p, hs, hz => by
    cases r with
    | cons r1 r2 =>
      cases p with
      | cons p1 p2 p3 =>
        simp only [List.map_cons, PyData.showableAll, Bool.and_eq_true] at hs
        have a := Rp.sh I h r1.2 hs.1 (fitsA.head hz)
        have b := RpK.sh I q r2 p3 hs.2 (fitsA.tail hz)
        simp only [List.map_cons]
        rw [p2]
        exact ShA.cons a b
end
/-- repr(x), whatever plain data x is -/
def reprGD (ds : List D) (k : T → Prop) : Prop := ∃ d, ds = [d] ∧ showOk d ∧ k (.va (.str d.shown))
theorem dc_reprD (hg : X.A.guards = some []) (hu : X.A.units + 110 < cLine) : DCall X (.builtin "repr") reprGD := fun pins s σ H F vs us ds k I sF ws rv ⟨d, e, ⟨hs, hd, hz⟩, h⟩ => by
  subst e
  obtain ⟨v, rfl, w⟩ := ws.one
  obtain ⟨u, rfl, ru⟩ := rv.one
  have rp := w.rp sF
  have fin : ∀ {h' : Heap} {t tk : Nat}, Inv X pins σ H { s with heap := h', toks := tk } → EP X pins σ (NewV F H k) (.str d.shown t) { s with heap := h', toks := tk } := fun {h' t tk} I' => ⟨.str d.shown, H, I', ⟨t, rfl⟩, NewV.val sF (.str _) h⟩
  have slot : ∀ {a : Addr} {T idr : String}, s.TypeIs (.ref a) T → SlotG T "__repr__" idr →
      (∀ Q : Value → Shared → Prop, (∀ h' t tk, (∀ b o, s.heap.get? b = some o → h'.get? b = some o) → Q (.str d.shown t) { s with heap := h', toks := tk }) → wpAny (model X.prog X.w) X.A.in1 (call (.builtin idr) [.ref a]) Q X.xe s) →
      wpAny (model X.prog X.w) X.A (call (.builtin "repr") [.ref a]) (EP X pins σ (NewV F H k)) X.xe s := fun {a T idr} ty sl c =>
    call_repr_slot (by omega) ty sl (c _ fun h' t tk hk => ⟨_, _, rfl, fin (I.kept hk)⟩)
  have hg1 : X.A.in1.guards = some [] := hg
  have hu1 : ∀ n, n ≤ 100 → X.A.in1.units + n < cLine := fun n hn => by show X.A.units + 1 + n < cLine; omega
  cases rp with
  | non => cases ru; exact P.repr_of_none (fin (I.tok _))
  | bl b => cases ru; exact P.repr_of_bool (fin (I.tok _))
  | int i =>
    obtain ⟨t, rfl⟩ := ru
    exact P.repr_of_int (by simpa [PyData.showable] using hs) (fin (I.tok _))
  | str x =>
    obtain ⟨t, rfl⟩ := ru
    exact P.repr_of_str (fin (I.tok _)) hz
  | @lst a xs ds hl q =>
    cases ru
    obtain ⟨its, rv, ⟨o, n, ho, hc, _, hdat⟩, _⟩ := I.list (SqL.of hl)
    obtain ⟨as, bs, r1, m1, k1⟩ := RpA.sh I q rv (by simpa [PyData.showable] using hs) (fits_list hz)
    have rd : Reads s.heap (.ref a) (.list ds) _ := .list ho hc hdat r1
    have dp : PyData.depthAll ds < (PyData.list ds).depth := by simp only [PyData.depth]; omega
    refine slot ⟨o, ho, hc⟩ _root_.PySem.F.slot_list_repr.toG fun Q hQ => ?_
    have hd1 := hu1 _ hd
    simp only [PyData.depth] at hd1
    simp only [PyData.shown] at hQ hz
    cases its with
    | nil =>
      cases r1
      simp only [PyData.shownAll, listText_nil] at hQ
      exact call_list_repr_empty ⟨o, ho, hc⟩ ho hdat (hQ s.heap _ _ fun _ _ e => e)
    | cons x l => exact call_list_reprK ho hc hdat (not_mem_of_deeper rd dp m1) (by simpa using k1.length_eq) (fun i y e => k1.item i y (by simpa using e)) hg1 (fun b _ => Clear.nil b) hd1 (fun _ _ e => e) hQ hz
  | @tup a xs ds hl q =>
    cases ru
    obtain ⟨its, rv, ⟨o, ho, hc, n, hdat⟩, _⟩ := I.tuple (.inl hl)
    obtain ⟨as, bs, r1, m1, k1⟩ := RpA.sh I q rv (by simpa [PyData.showable] using hs) (fits_tuple hz)
    have rd : Reads s.heap (.ref a) (.tuple ds) _ := .tuple ho hc hdat r1
    have dp : PyData.depthAll ds < (PyData.tuple ds).depth := by simp only [PyData.depth]; omega
    refine slot ⟨o, ho, hc⟩ _root_.PySem.F.slot_tuple_repr fun Q hQ => ?_
    have hd1 := hu1 _ hd
    simp only [PyData.depth] at hd1
    simp only [PyData.shown] at hQ hz
    exact call_tuple_reprK ho hc hdat (not_mem_of_deeper rd dp m1) k1 hg1 (fun b _ => Clear.nil b) hd1 (fun _ _ e => e) hQ hz
  | @dic a kvs ds hl q =>
    cases ru
    obtain ⟨_, hsys, vs, rel, o, es, ep, ho, hx, hdat, _, hp, _⟩ := dk_rd I.hok hl
    obtain ⟨hs1, hs2⟩ := PyData.showableKv_split ds (by simpa [PyData.showable] using hs)
    obtain ⟨as1, bs1, r1, m1, k1⟩ := keys_sh (P := X.prog) (h := s.heap) hp rel q hs1 (fits_keys hz)
    obtain ⟨as2, bs2, r2, m2, k2⟩ := RpK.sh I q rel hp hs2 (fits_vals hz)
    have rd : Reads s.heap (.ref a) (.dict ds) _ := .dict ho hx.1 hdat r1 r2
    have mm : ReadAtMost s.heap (PyData.depthKv ds) (bs1 ++ bs2) := (m1.mono (PyData.depthAll_keys_le ds)).append (m2.mono (PyData.depthAll_vals_le ds))
    have dp : PyData.depthKv ds < (PyData.dict ds).depth := by simp only [PyData.depth]; omega
    refine slot ⟨o, ho, hx.1⟩ _root_.PySem.F.slot_dict_repr fun Q hQ => ?_
    have hd1 := hu1 _ hd
    simp only [PyData.depth] at hd1
    simp only [PyData.shown, PyData.shownKv_eq] at hQ hz
    exact call_dict_reprK ho hx.1 hdat hsys (not_mem_of_deeper rd dp mm) (ReprEntriesK.of_two es.toList _ _ (k1.more_le (fun b hb => List.mem_append_left bs2 hb) (PyData.depthAll_keys_le ds)) (k2.more_le (fun b hb => List.mem_append_right bs1 hb) (PyData.depthAll_vals_le ds))) hg1 (fun b _ => Clear.nil b) hd1 (fun _ _ e => e) hQ hz
end
end QL

/-! QU: data of any kind whose text is short. -/
namespace QL
open PySem PySem.Spec PyProof.Rows L2
mutual
def okD : D → Bool
  | .none => true
  | .bool _ => true
  | .int i => decide (i.natAbs < 2 ^ 200)
  | .str x => x.cps.toList.all fun c => decide (c < 16 ^ 8)
  | .list xs => okA xs
  | .tuple xs => okA xs
  | .dict kvs => okK kvs
def okA : List D → Bool
  | [] => true
  | x :: xs => okD x && okA xs
def okK : List (D × D) → Bool
  | [] => true
  | (a, b) :: r => okD a && okD b && okK r
end
mutual
theorem ok_sh : ∀ d : D, okD d = true → d.leavesShort 256 = true ∧ d.showable = true
  | .none, _ => ⟨rfl, rfl⟩
  | .bool _, _ => ⟨rfl, rfl⟩
  | .int i, h => by
    obtain ⟨h1, h2, h3⟩ := small_int (of_decide_eq_true (by simpa only [okD] using h))
    exact ⟨by simp only [PyData.leavesShort, decide_eq_true_eq]; exact h1, by simp only [PyData.showable, decide_eq_true_eq]; exact h3⟩
  | .str x, h => ⟨by simp only [PyData.leavesShort]; simpa only [okD] using h, rfl⟩
  | .list xs, h => by
    obtain ⟨h1, h2⟩ := ok_shA xs (by simpa only [okD] using h)
    exact ⟨by simpa only [PyData.leavesShort] using h1, by simpa only [PyData.showable] using h2⟩
  | .tuple xs, h => by
    obtain ⟨h1, h2⟩ := ok_shA xs (by simpa only [okD] using h)
    exact ⟨by simpa only [PyData.leavesShort] using h1, by simpa only [PyData.showable] using h2⟩
  | .dict kvs, h => by
    obtain ⟨h1, h2⟩ := ok_shK kvs (by simpa only [okD] using h)
    exact ⟨by simpa only [PyData.leavesShort] using h1, by simpa only [PyData.showable] using h2⟩
theorem ok_shA : ∀ ds : List D, okA ds = true → PyData.leavesShortAll 256 ds = true ∧ PyData.showableAll ds = true
  | [], _ => ⟨rfl, rfl⟩
  | d :: ds, h => by
    simp only [okA, Bool.and_eq_true] at h
    obtain ⟨h1, h2⟩ := ok_sh d h.1
    obtain ⟨g1, g2⟩ := ok_shA ds h.2
    exact ⟨by simp only [PyData.leavesShortAll, h1, g1, Bool.and_self], by simp only [PyData.showableAll, h2, g2, Bool.and_self]⟩
theorem ok_shK : ∀ ds : List (D × D), okK ds = true → PyData.leavesShortKv 256 ds = true ∧ PyData.showableKv ds = true
  | [], _ => ⟨rfl, rfl⟩
  | (a, b) :: ds, h => by
    simp only [okK, Bool.and_eq_true] at h
    obtain ⟨h1, h2⟩ := ok_sh a h.1.1
    obtain ⟨k1, k2⟩ := ok_sh b h.1.2
    obtain ⟨g1, g2⟩ := ok_shK ds h.2
    exact ⟨by simp only [PyData.leavesShortKv, h1, k1, g1, Bool.and_self], by simp only [PyData.showableKv, h2, k2, g2, Bool.and_self]⟩
end
/-- short data: depth, weight -/
structure Short (n w : Nat) (d : D) : Prop where
  ok : okD d = true
  dp : d.depth ≤ n
  wt : d.weight ≤ w
theorem Short.show_ {n w : Nat} {d : D} (h : Short n w d) (hn : n ≤ 100) (hw : w ≤ 60000) : showOk d := by
  obtain ⟨h1, h2⟩ := ok_sh d h.ok
  have := PyData.shown_le 256 (by decide) d h1
  refine ⟨h2, Nat.le_trans h.dp hn, ?_⟩
  show d.shown.length ≤ 16777216
  have := h.wt
  omega
theorem Short.le {n w n' w' : Nat} {d : D} (h : Short n w d) (hn : n ≤ n') (hw : w ≤ w') : Short n' w' d := ⟨h.ok, Nat.le_trans h.dp hn, Nat.le_trans h.wt hw⟩
end QL

namespace K26
open PySem PySem.Spec PyProof.Rows L2 QL
open LM
def spOfD : Spc := fun ts QT _ => ∃ (p : Addr) (n a b c : Int) (xs : List D) (t2 : T) (r2 : Option T), ts = [.lst p (potD a b c), t2] ∧ ((t2 = .va (.list xs) ∧ r2 = none) ∨ ∃ q, t2 = .lst q xs ∧ r2 = some (.lst q xs)) ∧ PotOk n a b c ∧ n ≤ 900000 ∧ (0 < xs.length ∧ xs.length ≤ 100000) ∧
  ∀ a' b' c' d, PotOk (n + 1) a' b' c' → d ∈ xs → QT (.va d) [some (.lst p (potD a' b' c')), r2]
theorem at_posD {xs : List D} {d : Int} (h0 : 0 ≤ d) (h1 : d < xs.length) : ∃ y, atI xs d = some y ∧ y ∈ xs := by
  have hl : d.toNat < xs.length := by omega
  have ed : d = ((d.toNat : Nat) : Int) := by omega
  exact ⟨xs[d.toNat], (congrArg (atI xs) ed).trans (atI_nat (List.getElem?_eq_getElem hl)), List.getElem_mem hl⟩
theorem okA_of {ds : List D} (h : ∀ d ∈ ds, okD d = true) : okA ds = true := by
  induction ds with
  | nil => rfl
  | cons d ds ih => simp only [okA, h d List.mem_cons_self, ih fun x hx => h x (List.mem_cons_of_mem _ hx), Bool.and_self]
theorem depthA_of {n : Nat} {ds : List D} (h : ∀ d ∈ ds, d.depth ≤ n) : PyData.depthAll ds ≤ n := by
  induction ds with
  | nil => exact Nat.zero_le _
  | cons d ds ih =>
    have h1 := h d List.mem_cons_self
    have h2 := ih fun x hx => h x (List.mem_cons_of_mem _ hx)
    simp only [PyData.depthAll]
    omega
theorem weightA_of {w : Nat} {ds : List D} (h : ∀ d ∈ ds, d.weight ≤ w) : PyData.weightAll ds ≤ (w + 1) * ds.length := by
  induction ds with
  | nil => exact Nat.zero_le _
  | cons d ds ih =>
    have h1 := h d List.mem_cons_self
    have h2 := ih fun x hx => h x (List.mem_cons_of_mem _ hx)
    simp only [PyData.weightAll, List.length_cons, Nat.mul_add, Nat.mul_one]
    omega
theorem short_lst {n w : Nat} {ds : List D} (h : ∀ d ∈ ds, Short n w d) : Short (n + 1) ((w + 1) * ds.length) (.list ds) := by
  have h1 := depthA_of fun d hd => (h d hd).dp
  exact ⟨by simp only [okD]; exact okA_of fun d hd => (h d hd).ok, by simp only [PyData.depth]; omega, by simp only [PyData.weight]; exact weightA_of fun d hd => (h d hd).wt⟩
theorem short_int {i : Int} (h : i.natAbs ≤ 2000000000) : Short 0 31 (.int i) := by
  have b : (2000000000 : Nat) < 2 ^ 200 := by decide
  refine ⟨by simp only [okD, decide_eq_true_eq]; omega, Nat.le_refl _, ?_⟩
  show (if i == 0 then 0 else i.natAbs.log2 + 1) ≤ 31
  split
  · exact Nat.zero_le _
  · have : i.natAbs.log2 < 31 := by
      by_cases z : i.natAbs = 0
      · rw [z]; decide
      · exact (Nat.log2_lt z).mpr (Nat.lt_of_le_of_lt h (by decide))
    omega
def oddB (d : D) : Bool := okD d && decide (d.depth ≤ 2) && decide (d.weight ≤ 100)
theorem odd_of {d : D} (h : oddB d = true) : Short 2 100 d := by
  unfold oddB at h
  simp only [Bool.and_eq_true, decide_eq_true_eq] at h
  exact ⟨h.1.1, h.1.2, h.2⟩
def tgMet (aB : Addr) : Tg := fun L QT => ∀ (Q : T → QL.Env → Prop) (E : Ex → QL.Env → Prop), (∀ d e, (∀ p, QT (.lst p []) e) → Q (.va d) e) → (∀ ex e, (∃ d : D, ex = ⟨aB, [("value", d)]⟩ ∧ ∀ p, QT (.lst p [d]) e) → E ex e) → L Q E
def spIsP : Spc := fun ts QT _ => ∃ (d : D) (ws : List Int), ts = [.va d, .va (.tuple (iDs ws))] ∧ ws.length ≤ 1000 ∧ QT (.va (.bool (btw d 1 (ws.length : Int)))) [none, none]
section
variable {P : Program} {w : World} {K : PySem.W.Frag} {mg : Str → Option Value} {base : Heap} {Tq : List (Addr × Str)}
abbrev N__law_met : List Str := ["_law_ask", "_law_caught", "error"]
theorem sc__law_met : FnScope N__law_met ["_law_ask"] (defScope (topS 42)) := ⟨rfl, rfl, rfl, by decide +kernel, rfl, by decide +kernel, by decide +kernel⟩
theorem g__law_met {f : Addr} {fd : FuncData} {k : Nat} {aBadPlace : Addr} {aBadText : Addr} {aBadWidth : Addr} {aBadWord : Addr} {aLineError : Addr} {aTooLong : Addr} (Fn : Fun K "_law_met" "_law_met" (topS 42) f fd) (mm : mg "_law_met" = some (.ref f)) (kp : PySem.W.keepIn K (.ref f) = true) (bb : L2.Binds K fd ["_law_ask"] []) (c_LineError : mg "LineError" = some (.ref aLineError)) (c_BadPlace : mg "BadPlace" = some (.ref aBadPlace)) (c_BadText : mg "BadText" = some (.ref aBadText)) (c_BadWidth : mg "BadWidth" = some (.ref aBadWidth)) (c_BadWord : mg "BadWord" = some (.ref aBadWord)) (c_TooLong : mg "TooLong" = some (.ref aTooLong)) (m_isinstance : mg "isinstance" = none) (m_ValueError : mg "ValueError" = none) (x_BadPlace : erB K aBadPlace = true) (n_BadPlace : PySem.W.findIn K (.ref aBadPlace) "value" = some none) (e_BadPlace : PySem.W.exmOne K (.ref aBadPlace) (.ref aLineError) = some true) (k_BadPlace_BadPlace : PySem.W.kitOne K (.ref aBadPlace) (.ref aBadPlace) = some true) (k_BadPlace_VE : PySem.W.kitOne K (.ref aBadPlace) (.type "ValueError") = some true) (t_BadPlace_BadText_BadWidth_BadWord_TooLong : PySem.W.kitAny K (.ref aBadPlace) [.ref aBadText, .ref aBadWidth, .ref aBadWord, .ref aTooLong] = some false) : GvL P w K mg base Tq k "_law_met" "_law_ask" (tgMet aBadPlace) := by
  refine ⟨N__law_met, topS 42, f, fd, Fn, mm, kp, bb, sc__law_met, rfl, by first | exact Or.inl rfl | exact Or.inr (Or.inl rfl) | exact Or.inr (Or.inr rfl), fun cdg A outer s H Z lam LB e0 QT hr hgd hp act h => ?_⟩
  have hu := room110 hr
  obtain ⟨xC_BadPlace, xF_BadPlace⟩ := erB_ok x_BadPlace
  -- line 208
  refine wss_cons (ws_set 1 (w_non ⟨Nat.lt_of_sub_eq_succ rfl, ?_⟩) sc__law_met.nd)
  refine wss_cons (ws_try_err 2 1 rfl rfl rfl sc__law_met.nd ⟨rfl, by decide, .inl c_LineError⟩ (fun Z2 pn2 xe2 tm tk2 => ?_))
  refine wss_one (ws_expr (act Z2 pn2 xe2 _ _ _ e0 _ _ tm tk2 rfl (h _ _ (fun dv e q => ?told) (fun ex e ⟨dv, e1, q⟩ => ⟨by rw [e1]; exact e_BadPlace, Nat.lt_of_sub_eq_succ rfl, Nat.lt_of_sub_eq_succ rfl, fun a => ?caught⟩))))
  case told =>
    -- line 213
    refine wss_cons (ws_if (wt_cmp dop_isN (w_var 1 (w_non ⟨rfl, rfl, _, rfl, ⟨fun h => ?_, fun h => ?_⟩⟩))))
    · skip
      -- line 214
      refine wss_one (ws_ret (w_lst ⟨(by first | decide | (simp only [List.length_append, List.length_map, List.length_cons, List.length_nil, List.length_singleton, List.length_replicate, List.length_range, List.length_take, List.length_drop, List.length_dropLast, List.length_reverse, Bool.false_eq_true, eq_self, reduceIte, sizeLine_eq]; omega)), fun p1 => ?_⟩))
      exact ⟨e, rfl, q _⟩
    exact absurd h (by decide)
  case caught =>
    subst e1
    -- line 213
    refine wss_cons (ws_if (wt_excIsN (ex := ⟨aBadPlace, [("value", dv)]⟩) 1 rfl ⟨fun h => ?_, fun h => ?_⟩))
    · exact absurd h (by decide)
    refine wss_nil ?_
    -- line 215
    refine wss_cons (ws_if (WW.t (ww_or (wt_not (wt_val (w_isE (ex := ⟨aBadPlace, [("value", dv)]⟩) 1 xC_BadPlace rfl k_BadPlace_BadPlace ⟨_, rfl, ⟨fun h => (ww_or1 (wt_val (w_isET (ex := ⟨aBadPlace, [("value", dv)]⟩) (Ds := [aBadText, aBadWidth, aBadWord, aTooLong]) 1 xC_BadPlace rfl (pa_cons (pe_glob (v := .ref aBadText) (by rfl) c_BadText (by rfl)) (pa_cons (pe_glob (v := .ref aBadWidth) (by rfl) c_BadWidth (by rfl)) (pa_cons (pe_glob (v := .ref aBadWord) (by rfl) c_BadWord (by rfl)) (pa_cons (pe_glob (v := .ref aTooLong) (by rfl) c_TooLong (by rfl)) (pa_nil))))) (by first | decide | (simp only [List.length_append, List.length_map, List.length_cons, List.length_nil, List.length_singleton, List.length_replicate, List.length_range, List.length_take, List.length_drop, List.length_dropLast, List.length_reverse, Bool.false_eq_true, eq_self, reduceIte, sizeLine_eq]; omega)) t_BadPlace_BadText_BadWidth_BadWord_TooLong ⟨_, rfl, ⟨fun h => ?_, fun h => ?_⟩⟩ m_isinstance))), fun h => (absurd h (by decide))⟩⟩ m_isinstance c_BadPlace))))))
    · exact absurd h (by decide)
    refine wss_nil ?_
    -- line 217
    refine wss_one (ws_ret (w_ifExp (wt_val (w_isEB (ex := ⟨aBadPlace, [("value", dv)]⟩) 1 xC_BadPlace rfl k_BadPlace_VE ⟨_, rfl, ⟨fun h => (w_lst ⟨rfl, (w_excF (ex := ⟨aBadPlace, [("value", dv)]⟩) 1 xF_BadPlace n_BadPlace rfl rfl ⟨(by first | decide | (simp only [List.length_append, List.length_map, List.length_cons, List.length_nil, List.length_singleton, List.length_replicate, List.length_range, List.length_take, List.length_drop, List.length_dropLast, List.length_reverse, Bool.false_eq_true, eq_self, reduceIte, sizeLine_eq]; omega)), fun p2 => ?_⟩)⟩), fun h => (absurd h (by decide))⟩⟩ m_isinstance m_ValueError rfl))))
    exact ⟨e, rfl, q _⟩
abbrev N__law_is_place : List Str := ["_law_thing", "_law_row"]
theorem sc__law_is_place : FnScope N__law_is_place ["_law_thing", "_law_row"] (defScope (topS 43)) := ⟨rfl, rfl, rfl, by decide +kernel, rfl, by decide +kernel, by decide +kernel⟩
theorem g__law_is_place {f : Addr} {fd : FuncData} {k : Nat} (Fn : Fun K "_law_is_place" "_law_is_place" (topS 43) f fd) (m_bool : mg "bool" = none) (m_int : mg "int" = none) (m_isinstance : mg "isinstance" = none) (m_len : mg "len" = none) : FnG P w K mg base Tq (k + 1) f fd ["_law_thing", "_law_row"] spIsP := by
  refine fn_g Fn sc__law_is_place (fun ts Q E h => ?_) fun cdv A outer s H E Z ts QT ET hr hgd hp tk h => ?_
  · obtain ⟨dv, ws, rfl, hl, q⟩ := h; rfl
  · obtain ⟨dv, ws, rfl, hl, q⟩ := h
    have hnl : (iDs ws).length = ws.length := List.length_map _
    refine wss_one (ws_ret (WE.to (r0 := .t (.va (.bool (btw dv 1 (ws.length : Int))))) (e1 := [some (.va dv), some (.va (.tuple (iDs ws)))]) ?ev q))
    cases hI : isI dv
    · exact w_and (w_isi (w_var 0 ⟨rfl, ⟨_, rfl, fun h => w_and (w_not (w_isi (w_var 0 ⟨rfl, ⟨_, rfl, ⟨_, rfl, fun h2 => absurd (h2.symm.trans ((isB_int dv h).trans hI)) (by decide), fun h2 => ⟨by rw [btw_no dv _ _ hI], rfl⟩⟩⟩⟩) kit_bool m_isinstance m_bool rfl)), fun h => ⟨by rw [btw_no dv _ _ hI], rfl⟩⟩⟩) kit_int m_isinstance m_int rfl)
    · obtain ⟨i9, rfl⟩ := isI_int dv hI
      have e9 : btw (.int i9) 1 (ws.length : Int) = (decide (1 ≤ i9) && decide (i9 ≤ (ws.length : Int))) := rfl
      exact w_and (w_isi (w_var 0 ⟨rfl, ⟨_, rfl, fun h => w_and (w_not (w_isi (w_var 0 ⟨rfl, ⟨_, rfl, ⟨_, rfl, fun h2 => w_one (w_chain dop_le dop_le (w_int (w_var 0 ⟨rfl, rfl, _, rfl, fun hc => (w_callB dc_len m_len rfl ⟨rfl, w_var 1 ⟨rfl, rfl, rfl, ⟨by rw [hnl, e9, show decide (1 ≤ i9) = true from hc, Bool.true_and], rfl⟩⟩⟩), fun hc => ⟨by rw [e9, show decide (1 ≤ i9) = false from hc, Bool.false_and], rfl⟩⟩))), fun h2 => absurd h2 (by simp [isB, tyD])⟩⟩⟩) kit_bool m_isinstance m_bool rfl)), fun h => absurd h (by simp [isB, tyD])⟩⟩) kit_int m_isinstance m_int rfl)
abbrev N__law_ofD : List Str := ["_law_pot_here", "_law_some"]
theorem sc__law_ofD : FnScope N__law_ofD ["_law_pot_here", "_law_some"] (defScope (topS 40)) := ⟨rfl, rfl, rfl, by decide +kernel, rfl, by decide +kernel, by decide +kernel⟩
theorem g__law_ofD {f : Addr} {fd : FuncData} {k : Nat} (Fn : Fun K "_law_of" "_law_of" (topS 40) f fd) (G__law_take : Df P w K mg base Tq k "_law_take" ["_law_pot_here", "_law_many"] spTake) (m_len : mg "len" = none) : FnG P w K mg base Tq (k + 1) f fd ["_law_pot_here", "_law_some"] spOfD := by
  refine fn_g Fn sc__law_ofD (fun ts Q E h => ?_) fun cdv A outer s H E Z ts QT ET hr hgd hp tk h => ?_
  · obtain ⟨p, n, a, b, c, xs, t2, r2, rfl, h2, hpot, hn, ⟨hl0, hl⟩, q⟩ := h; rfl
  · obtain ⟨p, n, a, b, c, xs, t2, r2, rfl, h2, hpot, hn, ⟨hl0, hl⟩, q⟩ := h
    rcases h2 with ⟨rfl, rfl⟩ | ⟨z, rfl, rfl⟩
    · skip
      -- line 199
      refine wss_one (ws_ret (w_ix (w_var 1 (w_fn G__law_take hr hgd ⟨rfl, (w_var 0 ⟨rfl, (w_callB dc_len m_len rfl ⟨rfl, (w_var 1 ⟨rfl, ⟨rfl, ⟨_, _, _, _, _, _, rfl, (by assumption), (by omega), ⟨by omega, by omega⟩, fun a' b' c' d hp2 h0 h1 => ?c0⟩⟩⟩)⟩)⟩)⟩))))
      case c0 =>
        obtain ⟨y, hy, hmy⟩ := at_posD h0 h1
        exact ⟨rfl, rfl, rfl, rfl, y, hy, rfl, q _ _ _ _ hp2 hmy⟩
    · skip
      -- line 199
      refine wss_one (ws_ret (w_ix (w_var 1 (w_fn G__law_take hr hgd ⟨rfl, (w_var 0 ⟨rfl, (w_callB dc_len m_len rfl ⟨rfl, (w_var 1 ⟨rfl, ⟨rfl, ⟨_, _, _, _, _, _, rfl, (by assumption), (by omega), ⟨by omega, by omega⟩, fun a' b' c' d hp2 h0 h1 => ?c1⟩⟩⟩)⟩)⟩)⟩))))
      case c1 =>
        obtain ⟨y, hy, hmy⟩ := at_posD h0 h1
        exact ⟨rfl, rfl, rfl, rfl, y, hy, rfl, rfl, q _ _ _ _ hp2 hmy⟩
end
end K26

/-! GRa: a yield that is flagged as a generator stands behind it (yield from): the scheduler steps it as any other. -/
namespace GR
open PySem
/-- what a frame hands on that delegates to a generator -/
def okYield (s : Shared) (t : Thread) : Prop :=
  ∃ v l k a o n rest kw fs b rs, t.cur = .yield v true l k ∧ t.code = .builtin "proto.yield_from" ⟨.ref a :: rest, kw⟩ ∧ s.heap.get? a = some o ∧ o.genNumber? = some n ∧ splitAtGen t.stack = some (fs, b, rs) ∧ fs.any Frame.guarded = false
end GR

/-! GRb: runs in which such yields occur: steps, codes, trees. -/
namespace GR
open PySem
section
variable (M : Model)
inductive Go2 : Shared → Thread → Shared → Thread → Prop
  | step {s t s' t'} : M.step s t = .go s' t' → Go2 s t s' t'
  | yield {s t s' t'} : okYield s t → stepK M.den M.prog M.w s t = .go s' t' → Go2 s t s' t'
inductive Ss : Shared → Thread → Shared → Thread → Prop
  | refl {s t} : Ss s t s t
  | cons {s t s1 t1 s2 t2} : Go2 M s t s1 t1 → Ss s1 t1 s2 t2 → Ss s t s2 t2
end
variable {M : Model}
theorem Ss.trans {s t s1 t1 s2 t2} (a : Ss M s t s1 t1) (b : Ss M s1 t1 s2 t2) : Ss M s t s2 t2 := by
  induction a with
  | refl => exact b
  | cons g _ ih => exact .cons g (ih b)
theorem Ss.go {s t s1 t1 s2 t2} (h : M.step s t = .go s1 t1) (b : Ss M s1 t1 s2 t2) : Ss M s t s2 t2 := .cons (.step h) b
theorem Ss.one {s t s1 t1} (h : M.step s t = .go s1 t1) : Ss M s t s1 t1 := .cons (.step h) .refl
theorem reach_ss {base : List Frame} {s t c p pre s' e} (h : Reach M base s t c p pre s' e) : ∃ t' c' p' pre', Exits e t' c' p' pre' ∧ Ss M s ⟨t, c, p, pre ++ base⟩ s' ⟨t', c', p', pre' ++ base⟩ := by
  induction h with
  | exit hx => exact ⟨_, _, _, _, hx, .refl⟩
  | step hs _ ih =>
    obtain ⟨t', c', p', pre', hx, h⟩ := ih
    exact ⟨t', c', p', pre', hx, .go hs h⟩
/-! ### codes, generators -/
def Ret2 (M : Model) (Γ : Ctx) (p : Pos) (s : Shared) (r : Result) (s' : Shared) : Prop :=
  ∀ base, Γ.Fits base → ∃ c' p', Ss M s ⟨M.den Γ.code, Γ.code, p, base⟩ s' ⟨leafOf r, c', p', base⟩
def Wak2 (M : Model) (Γ : Ctx) (p : Pos) (g : Nat) (r : Resume) (s : Shared) (res : GenResult) (s' : Shared) : Prop :=
  ∀ (base : List Frame) (l : List Value) (k : GenResult → Sem PySem.Fin), Γ.Fits base → Ss M s ⟨.resume g r l k, Γ.code, p, base⟩ s' ⟨k res, Γ.code, p, base⟩
theorem ret2_of {Γ : Ctx} {p s r s'} (h : Returns M Γ p s r s') : Ret2 M Γ p s r s' := fun base hf => by
  obtain ⟨t', c', p', pre', hx, hs⟩ := reach_ss (runs_reach h base hf)
  obtain ⟨rfl, rfl⟩ := hx
  exact ⟨c', p', hs⟩
theorem wak2_of {Γ : Ctx} {p g r s res s'} (h : Wakes M Γ p g r s res s') : Wak2 M Γ p g r s res s' := fun base l k hf => by
  unfold Wakes at h
  split at h
  · exact h.elim
  · rename_i c hg
    split at h
    · obtain ⟨e₁, s₁, hr, hq, rfl, rfl⟩ := h
      obtain ⟨t', c', p', pre', hx, hs⟩ := reach_ss (runs_reach hr _ (hf.wake c g k l p))
      exact .go (step_resume_fresh M s Γ.code p base l k hg) (hs.trans (.one (step_exit_gen s₁ g k l Γ.code p base hx hq)))
    · rename_i v hv
      obtain ⟨rfl, rfl⟩ := h
      exact .one (step_resume_justStarted M _ Γ.code p base l k hg hv)
    · obtain ⟨rfl, rfl⟩ := h
      exact .one (step_resume_throwFresh M _ Γ.code p base _ l k hg)
  · rename_i k₀ l₀ c₀ p₀ fs cl hg
    obtain ⟨e₁, s₁, hr, hq, rfl, rfl⟩ := h
    obtain ⟨t', c', p', pre', hx, hs⟩ := reach_ss (runs_reach hr _ (hf.wake c₀ g k l p))
    exact .go (step_resume_suspended M s Γ.code p base r l k hg) (hs.trans (.one (step_exit_gen s₁ g k l Γ.code p base hx hq)))
  · rename_i hg
    obtain ⟨rfl, rfl⟩ := h
    exact .one (step_resume_running M _ Γ.code p base r l k hg)
  · rename_i hg
    obtain ⟨rfl, rfl⟩ := h
    exact .one (step_resume_finished M _ Γ.code p base r l k hg)
def wpCode2 (M : Model) (Γ : Ctx) (R : Result → Shared → Prop) (p : Pos) (s : Shared) : Prop := ∃ r s', Ret2 M Γ p s r s' ∧ R r s'
section
variable {α β : Type}
/-- a tree may run, and comes to an end -/
def wp2 (M : Model) (Γ : Ctx) : Sem α → (α → Pos → Shared → Prop) → (Value → Pos → Shared → Prop) → Pos → Shared → Prop
  | .pure a, Q, _, p, s => Q a p s
  | .raise e, _, E, p, s => E e p s
  | .rule _ k, Q, E, p, s => wp2 M Γ (k ()) Q E p s
  | .at p' k, Q, E, _, s => wp2 M Γ (k ()) Q E p' s
  | .load a _ k, Q, E, p, s => ∃ o, s.heap.get? a = some o ∧ wp2 M Γ (k o) Q E p s
  | .update a _ f k, Q, E, p, s => (s.heap.get? a).isSome ∧ wp2 M Γ (k ()) Q E p { s with heap := s.heap.update a f }
  | .loadIfAlive a k, Q, E, p, s => wp2 M Γ (k (s.heap.get? a)) Q E p s
  | .point _ k, Q, E, p, s => wp2 M Γ (k ()) Q E p s
  | .alloc o k, Q, E, p, s => wp2 M Γ (k s.heap.objs.size) Q E p { s with heap := s.heap.push o }
  | .fresh k, Q, E, p, s => wp2 M Γ (k s.toks) Q E p { s with toks := s.toks + 1 }
  | .ask k, Q, E, p, s => wp2 M Γ (k ⟨M.prog, M.w.params⟩) Q E p s
  | .choose src n k, Q, E, p, s => n ≠ 0 ∧ wp2 M Γ (k (M.w.draws src (s.drawn.get src) % n)) Q E p { s with drawn := s.drawn.bump src }
  | .os q _ k, Q, E, p, s => wp2 M Γ (k (Os.step s.os q).2) Q E p { s with os := (Os.step s.os q).1 }
  | .call c h _ _ k, Q, E, p, s => wpCode2 M (Γ.enter c h p) (fun r s' => wp2 M Γ (k r) Q E p s') p s
  | .handled own k, Q, E, p, s => wp2 M Γ (k (if own then Γ.own else Γ.handled)) Q E p s
  | .genState g k, Q, E, p, s => ∃ st, s.gens[g]? = some st ∧ wp2 M Γ (k st.seen) Q E p s
  | .newGen c k, Q, E, p, s => wp2 M Γ (k s.gens.size) Q E p { s with gens := s.gens.push (.fresh c) }
  | .resume g r _ k, Q, E, p, s => ∃ res s', Wak2 M Γ p g r s res s' ∧ wp2 M Γ (k res) Q E p s'
  | .stack k, Q, E, p, s => wp2 M Γ (k ((Γ.code, p) :: Γ.below)) Q E p s
  | .thread k, Q, E, p, s => wp2 M Γ (k 0) Q E p s
  | _, _, _, _, _ => False
theorem wp2_mono {Γ : Ctx} (t : Sem α) {Q Q' : α → Pos → Shared → Prop} {E E' : Value → Pos → Shared → Prop} (hQ : ∀ a p s, Q a p s → Q' a p s) (hE : ∀ e p s, E e p s → E' e p s) : ∀ p s, wp2 M Γ t Q E p s → wp2 M Γ t Q' E' p s := by
  induction t with
  | pure a => exact fun p s h => hQ _ _ _ h
  | raise e => exact fun p s h => hE _ _ _ h
  | rule _ k ih => exact fun p s h => ih () p s h
  | «at» p' k ih => exact fun p s h => ih () p' s h
  | load a _ k ih => exact fun p s ⟨o, h1, h⟩ => ⟨o, h1, ih o p s h⟩
  | update a _ f k ih => exact fun p s h => ⟨h.1, ih () p _ h.2⟩
  | loadIfAlive a k ih => exact fun p s h => ih _ p s h
  | point _ k ih => exact fun p s h => ih () p s h
  | alloc o k ih => exact fun p s h => ih _ p _ h
  | fresh k ih => exact fun p s h => ih _ p _ h
  | ask k ih => exact fun p s h => ih _ p s h
  | choose src n k ih => exact fun p s h => ⟨h.1, ih _ p _ h.2⟩
  | os q _ k ih => exact fun p s h => ih _ p _ h
  | call c hd _ _ k ih => exact fun p s ⟨r, s', h1, h⟩ => ⟨r, s', h1, ih r p s' h⟩
  | handled own k ih => exact fun p s h => ih _ p s h
  | genState g k ih => exact fun p s ⟨st, h1, h⟩ => ⟨st, h1, ih _ p s h⟩
  | newGen c k ih => exact fun p s h => ih _ p _ h
  | resume g r _ k ih => exact fun p s ⟨res, s', h1, h⟩ => ⟨res, s', h1, ih res p s' h⟩
  | stack k ih => exact fun p s h => ih _ p s h
  | thread k ih => exact fun p s h => ih _ p s h
  | _ => exact fun p s h => h
theorem wp2_of {Γ : Ctx} (t : Sem α) {Q : α → Pos → Shared → Prop} {E : Value → Pos → Shared → Prop} : ∀ p s, Sem.wp M Γ t Q E p s → wp2 M Γ t Q E p s := by
  induction t with
  | pure a => exact fun p s h => h
  | raise e => exact fun p s h => h
  | rule _ k ih => exact fun p s h => ih () p s h
  | «at» p' k ih => exact fun p s h => ih () p' s h
  | load a _ k ih => exact fun p s ⟨o, h1, h⟩ => ⟨o, h1, ih o p s h⟩
  | update a _ f k ih => exact fun p s h => ⟨h.1, ih () p _ h.2⟩
  | loadIfAlive a k ih => exact fun p s h => ih _ p s h
  | point _ k ih => exact fun p s h => ih () p s h
  | alloc o k ih => exact fun p s h => ih _ p _ h
  | fresh k ih => exact fun p s h => ih _ p _ h
  | ask k ih => exact fun p s h => ih _ p s h
  | choose src n k ih => exact fun p s h => ⟨h.1, ih _ p _ h.2⟩
  | os q _ k ih => exact fun p s h => ih _ p _ h
  | call c hd _ _ k ih => exact fun p s ⟨r, s', h1, h⟩ => ⟨r, s', ret2_of h1, ih r p s' h⟩
  | handled own k ih => exact fun p s h => ih _ p s h
  | genState g k ih => exact fun p s ⟨st, h1, h⟩ => ⟨st, h1, ih _ p s h⟩
  | newGen c k ih => exact fun p s h => ih _ p _ h
  | resume g r _ k ih => exact fun p s ⟨res, s', h1, h⟩ => ⟨res, s', wak2_of h1, ih res p s' h⟩
  | stack k ih => exact fun p s h => ih _ p s h
  | thread k ih => exact fun p s h => ih _ p s h
  | _ => exact fun p s h => h.elim
end
end GR

/-! GRc: such runs, wherever they stand: the rules of trees and codes. -/
namespace GR
open PySem
section
variable {α β : Type} {M : Model} {A : Around} {E : Value → Shared → Prop} {s : Shared}
def wpAny2 (M : Model) (A : Around) (t : Sem α) (Q : α → Shared → Prop) (E : Value → Shared → Prop) (s : Shared) : Prop := ∀ Γ p, Γ.In A → wp2 M Γ t (fun a _ s' => Q a s') (fun e _ s' => E e s') p s
def codeAny2 (M : Model) (A : Around) (c : Code) (R : Result → Shared → Prop) (s : Shared) : Prop := ∀ Γ p, Γ.code = c → Γ.Below A → wpCode2 M Γ R p s
theorem any_of {t : Sem α} {Q : α → Shared → Prop} (h : wpAny M A t Q E s) : wpAny2 M A t Q E s := fun Γ p hΓ => wp2_of t p s (h Γ p hΓ)
theorem any_mono {t : Sem α} {Q Q' : α → Shared → Prop} {E' : Value → Shared → Prop} (h : wpAny2 M A t Q E s) (hQ : ∀ a s, Q a s → Q' a s) (hE : ∀ e s, E e s → E' e s) : wpAny2 M A t Q' E' s :=
  fun Γ p hΓ => wp2_mono t (fun a _ s => hQ a s) (fun e _ s => hE e s) p s (h Γ p hΓ)
end
/-! ### the whole run -/
end GR

/-! GRd: from such a run to the law's row. -/
noncomputable section
namespace GR
open PySem PySem.W PySem.Calls PyProof.Rows
end GR

/-! GRq: statements, calls and defs in runs of the second kind. -/
namespace QL
open PySem PySem.Spec PyProof.Rows L2 GR
/-! ### judgements -/
section
variable {Tq : List (Addr × Str)}
def WE2 (Z : Zb Tq) (X : Cx) (e : Expr) (env : Env) (P : R → Env → Prop) : Prop :=
  ∀ (pins : List (Addr × Obj)) (s : Shared) (σ : L2.St) (H F : Hp) (O : List Addr), Inv X pins σ H s → Bas Z F H O → OwE F H O σ env → wpAny2 (model X.prog X.w) X.A (eval e X.env) (EP X pins σ (Post Z σ H F O P)) X.xe s
def WT2 (Z : Zb Tq) (X : Cx) (e : Expr) (env : Env) (P : Bool → Env → Prop) : Prop :=
  ∀ (pins : List (Addr × Obj)) (s : Shared) (σ : L2.St) (H F : Hp) (O : List Addr), Inv X pins σ H s → Bas Z F H O → OwE F H O σ env → wpAny2 (model X.prog X.w) X.A (isTrue e X.env (eval e X.env)) (TP X pins σ (PostT Z σ H F O P)) X.xe s
def WS2 (Z : Zb Tq) (X : Cx) (st : Stmt) (env : Env) (P : Out → Prop) : Prop :=
  ∀ (pins : List (Addr × Obj)) (s : Shared) (σ : L2.St) (H F : Hp) (O : List Addr), Inv X pins σ H s → Bas Z F H O → OwE F H O σ env → wpAny2 (model X.prog X.w) X.A (exec st X.env) (SP X pins (endsOf Z H F O P)) X.xe s
def WSs2 (Z : Zb Tq) (X : Cx) (st : List Stmt) (env : Env) (P : Out → Prop) : Prop :=
  ∀ (pins : List (Addr × Obj)) (s : Shared) (σ : L2.St) (H F : Hp) (O : List Addr), Inv X pins σ H s → Bas Z F H O → OwE F H O σ env → wpAny2 (model X.prog X.w) X.A (execs st X.env) (SP X pins (endsOf Z H F O P)) X.xe s
variable {Z : Zb Tq} {X : Cx} {e c : Expr} {env : Env} {st : Stmt} {rest body els : List Stmt} {pos : Pos} {P : Out → Prop}
theorem WE.two {PR : R → Env → Prop} (h : WE Z X e env PR) : WE2 Z X e env PR := fun pins s σ H F O I b o => any_of (h pins s σ H F O I b o)
theorem WT.two {PT : Bool → Env → Prop} (h : WT Z X e env PT) : WT2 Z X e env PT := fun pins s σ H F O I b o => any_of (h pins s σ H F O I b o)
theorem WS.two (h : WS Z X st env P) : WS2 Z X st env P := fun pins s σ H F O I b o => any_of (h pins s σ H F O I b o)
theorem WSs.two (h : WSs Z X rest env P) : WSs2 Z X rest env P := fun pins s σ H F O I b o => any_of (h pins s σ H F O I b o)
theorem WE2.imp {P1 P2 : R → Env → Prop} (h : WE2 Z X e env P1) (hp : ∀ r e, P1 r e → P2 r e) : WE2 Z X e env P2 := fun pins s σ H F O I b o =>
  any_mono (h pins s σ H F O I b o) (EP.imp fun v H1 ⟨F1, O1, r, e1, b1, st, fr, p⟩ => ⟨F1, O1, r, e1, b1, st, fr, hp _ _ p⟩) fun _ _ x => x
end
/-! ### defs -/
structure FnG2 (P : Program) (w : World) (K : PySem.W.Frag) (mg : Str → Option Value) (base : Heap) (Tq : List (Addr × Str)) (k : Nat) (f : Addr) (fd : FuncData) (ps : List Str) (sp : Spc) : Prop where
  len : ∀ ts Q E, sp ts Q E → ts.length = ps.length
  run : ∀ (A : Around) (outer : List PySem.Env) (s : Shared) (H : Hp) (args : Args) (us : List Value) (vs : List V) (F : Hp) (O : List Addr) (ts : List T) (QT : T → List (Option T) → Prop) (ET : Ex → List (Option T) → Prop) (E : XK) (tbs : TabZ Tq H F O),
    Room k A → A.guards = some [] → Env0 P w K mg base A outer s H → BindsTo s fd args (ps.zip us) → Vals vs us → Bas ⟨H, F, O, tbs⟩ F H O → StV F H O vs ts → sp ts QT ET →
    (∀ ex ts' cls d H' F' O', Bas ⟨H, F, O, tbs⟩ F' H' O' → StVO F' H' O' vs ts' → ExAt F' ex cls d → ET ex ts' → E cls d H') →
    codeAny2 (model P w) A (.call (.ref f) args) (CR (L2.CX P w) outer P w H s (fun v H' => ∃ F' O1 O2 t ts', Bas ⟨H, F, O, tbs⟩ F' H' (O1 ++ O2) ∧ StVO F' H' O1 vs ts' ∧ Ow F' H' O2 v t ∧ QT t ts') E) s
theorem FnG2.mono {P : Program} {w : World} {K : PySem.W.Frag} {mg : Str → Option Value} {base : Heap} {Tq : List (Addr × Str)} {j k : Nat} {f : Addr} {fd : FuncData} {ps : List Str} {sp : Spc} (G : FnG2 P w K mg base Tq j f fd ps sp) (h : j ≤ k) : FnG2 P w K mg base Tq k f fd ps sp :=
  ⟨G.len, fun A outer s H args us vs F O ts QT ET E tbs hr => G.run A outer s H args us vs F O ts QT ET E tbs (hr.mono h)⟩


section
variable {Tq : List (Addr × Str)} {Z : Zb Tq} {X : Cx} {env : Env} {P : R → Env → Prop} {ET : Ex → Env → Prop}
/-! ### f(a, ..), f(a, .., k = b, ..) -/
end
structure Df2 (P : Program) (w : World) (K : PySem.W.Frag) (mg : Str → Option Value) (base : Heap) (Tq : List (Addr × Str)) (k : Nat) (x : Str) (ps : List Str) (sp : Spc) : Prop where
  ex : ∃ (f : Addr) (fd : FuncData), FnG2 P w K mg base Tq k f fd ps sp ∧ mg x = some (.ref f) ∧ PySem.W.keepIn K (.ref f) = true ∧ Binds K fd ps []
theorem Df2.mono {P : Program} {w : World} {K : PySem.W.Frag} {mg : Str → Option Value} {base : Heap} {Tq : List (Addr × Str)} {j k : Nat} {x : Str} {ps : List Str} {sp : Spc} (G : Df2 P w K mg base Tq j x ps sp) (h : j ≤ k) : Df2 P w K mg base Tq k x ps sp :=
  let ⟨f, fd, g, r⟩ := G.ex; ⟨f, fd, g.mono h, r⟩
end QL

/-! GRr: expressions, for, list comprehensions of the second kind. -/
namespace QL
open PySem PySem.Spec PyProof.Rows L2 GR
/-! ### judgements of the hand layer, second kind -/
section
variable {X : Cx} {e a b elt tg iter : Expr} {es : List Expr} {te ta tb : TE} {t : TA} {pos : Pos} {st : Stmt} {sts : List Stmt}
structure PE2 (X : Cx) (e : Expr) (t : TE) : Prop where
  run : ∀ (pins : List (Addr × Obj)) (s : Shared) (σ : L2.St) (H : Hp) (Q : VK), Inv X pins σ H s → t σ H Q → wpAny2 (model X.prog X.w) X.A (eval e X.env) (EP X pins σ Q) X.xe s
structure PA2 (X : Cx) (es : List Expr) (t : TA) : Prop where
  run : ∀ (pos : Pos) (pins : List (Addr × Obj)) (s : Shared) (σ : L2.St) (H : Hp) (Q : List V → Hp → Prop), Inv X pins σ H s → t σ H Q → wpAny2 (model X.prog X.w) X.A (spliced (backTo pos (starEach es X.env))) (AP X pins σ Q) X.xe s
structure PT2 (X : Cx) (e : Expr) (t : TT) : Prop where
  run : ∀ (pins : List (Addr × Obj)) (s : Shared) (σ : L2.St) (H : Hp) (Q : Bool → Hp → Prop), Inv X pins σ H s → t σ H Q → wpAny2 (model X.prog X.w) X.A (isTrue e X.env (eval e X.env)) (TP X pins σ Q) X.xe s
structure PSs2 (X : Cx) (st : List Stmt) (t : TS) : Prop where
  run : ∀ (pins : List (Addr × Obj)) (s : Shared) (σ : L2.St) (H : Hp) (D : Ends), Inv X pins σ H s → t D σ H → wpAny2 (model X.prog X.w) X.A (execs st X.env) (SP X pins D) X.xe s
structure PS2 (X : Cx) (st : Stmt) (t : TS) : Prop where
  run : ∀ (pins : List (Addr × Obj)) (s : Shared) (σ : L2.St) (H : Hp) (D : Ends), Inv X pins σ H s → t D σ H → wpAny2 (model X.prog X.w) X.A (exec st X.env) (SP X pins D) X.xe s
end

end QL

/-! GRs: list comprehensions of the second kind; calls, displays, tests. -/
namespace QL
open PySem PySem.Spec PyProof.Rows L2 GR
section
variable {Tq : List (Addr × Str)} {Z : Zb Tq} {X : Cx} {e a b c elt tg iter : Expr} {es : List Expr} {env : Env} {pos p : Pos} {P PR : R → Env → Prop} {st : Stmt} {rest body els : List Stmt}
def WA2 (Z : Zb Tq) (X : Cx) (e : Expr) (env : Env) (P : A → Env → Prop) : Prop := WE2 Z X e env fun r env' => toA r fun a => P a env'
theorem WA2.run {P : A → Env → Prop} {pins : List (Addr × Obj)} {σ : L2.St} {H F : Hp} {O : List Addr} {s : Shared} (h : WA2 Z X e env P) (I : Inv X pins σ H s) (b : Bas Z F H O) (o : OwE F H O σ env) :
    wpAny2 (model X.prog X.w) X.A (eval e X.env) (EP X pins σ (PostA Z σ H F O P)) X.xe s := any_mono (h pins s σ H F O I b o) (EP.imp fun _ _ => Post.toA) fun _ _ x => x
theorem WA.two {P : A → Env → Prop} (h : WA Z X e env P) : WA2 Z X e env P := WE.two h
/-- one turn's element -/
def ElI2 {Tq : List (Addr × Str)} (Z : Zb Tq) (X : Cx) (scope : Scope) (elt : Expr) (vs : List Nat) (I : List D → Env → Prop) (acc : List D) (e2 : Env) : Prop :=
  Blk X scope fun X' => WA2 Z X' elt e2 fun a e3 => absorb [a] e3 fun ds e4 => match ds with
    | [y] => acc.length < sizeLine ∧ I (acc ++ [y]) (wipeE e4 vs)
    | _ => False
structure LcI2 {Tq : List (Addr × Str)} (Z : Zb Tq) (X : Cx) (scope : Scope) (f : TF) (elt : Expr) (vs : List Nat) (T : Env → (Bool → Env → Prop) → Prop) (P : R → Env → Prop) (ds : List D) (e1 : Env) : Prop where
  ex : ∃ I : Nat → List D → Env → Prop, I 0 [] (wipeE e1 vs) ∧ (∀ k d acc e, ds[k]? = some d → I k acc e → f d e fun e' => T e' fun bb e2 => (bb = true → ElI2 Z X scope elt vs (I (k + 1)) acc e2) ∧ (bb = false → I (k + 1) acc (wipeE e2 vs))) ∧
    ∀ acc e, I ds.length acc e → ∀ p, P (.t (.lst p acc)) e
end
end QL

/-! GRg: the body of a generator def whose generator another delegates to: while it sleeps its own object is marked, its consumer's list grows. -/
namespace QL
open PySem PySem.Spec PyProof.Rows L2 GenW
/-- a generator's object, nobody asleep over it -/
def GenO (g : Nat) (o : Obj) : Prop := o.cls = .type "generator" ∧ (∃ nm qn, o.data = .fields #[.int g 0, nm, qn]) ∧ (o.slots = #[] ∨ o.slots = #[some (rawInt 0)])
structure Slp (S : Addr) (Ls : List Addr) (a : Addr) (g : Nat) (v : Value) (s s' : Shared) : Prop where
  os : s'.os = s.os
  bare : AllBare s'.gens
  keep : ∀ b o, b ≠ S → b ≠ a → b ∉ Ls → s.heap.get? b = some o → s'.heap.get? b = some o
  gen : ∃ go, s'.heap.get? a = some go ∧ GenO g go
  own : ∀ acc c, s.heap.get? S = some (L2.lstObj acc c) → ∃ c', s'.heap.get? S = some (L2.lstObj (acc.push v) c')
  oth : ∀ L ∈ Ls, ∃ o, s'.heap.get? L = some o ∧ ∀ v, o.data ≠ .cell v
/-- Ls: what else its consumer changes; as the stretch found it -/
def GI2 (X : Cx) (S : Addr) (Ls : List Addr) (a : Addr) (g : Nat) (s₀ : Shared) (ys : List V) (σ : L2.St) (H : Hp) (s : Shared) : Prop := ∃ go los, GenO g go ∧ (los.map (·.1) = Ls ∧ ∀ p ∈ los, s₀.heap.get? p.1 = some p.2) ∧ GI X S ((a, go) :: los) ys σ H s
def Apart2 (X : Cx) (S : Addr) (Ls : List Addr) (a : Addr) : Prop := X.pn = [] ∧ a ≠ S ∧ Apart X S ∧ Apart X a ∧ ∀ L ∈ Ls, L ≠ S ∧ L ≠ a ∧ Apart X L
theorem GI2.at {X : Cx} {S : Addr} {Ls : List Addr} {a : Addr} {g : Nat} {s₀ : Shared} {ys : List V} {σ : L2.St} {H : Hp} {s : Shared} (h : GI2 X S Ls a g s₀ ys σ H s) :
    H S = none ∧ H a = none ∧ (∃ (acc : Array Value) (c : Nat), Vals ys acc.toList ∧ s.heap.get? S = some (L2.lstObj acc c)) ∧ ∃ go, s.heap.get? a = some go ∧ GenO g go := by
  obtain ⟨go, los, ok, _, acc, c, r, I⟩ := h
  obtain ⟨h1, h2, _⟩ := I.pin (S, L2.lstObj acc c) (List.mem_append_right _ List.mem_cons_self)
  obtain ⟨h3, h4, _⟩ := I.pin (a, go) (List.mem_append_right _ (List.mem_cons_of_mem _ List.mem_cons_self))
  exact ⟨h2, h4, ⟨acc, c, r, h1⟩, go, h3, ok⟩
theorem GI2.oth {X : Cx} {S : Addr} {Ls : List Addr} {a : Addr} {g : Nat} {s₀ : Shared} {ys : List V} {σ : L2.St} {H : Hp} {s : Shared} (h : GI2 X S Ls a g s₀ ys σ H s) : ∀ L ∈ Ls, ∃ o, s₀.heap.get? L = some o ∧ s.heap.get? L = some o ∧ (∀ v, o.data ≠ .cell v) ∧ H L = none ∧ L ≠ X.env.locals := fun L hL => by
  obtain ⟨go, los, ok, ⟨e, h0⟩, acc, c, r, I⟩ := h
  rw [← e] at hL
  obtain ⟨p, hp, rfl⟩ := List.mem_map.mp hL
  obtain ⟨h1, h2, h3, h4, h5⟩ := I.pin p (List.mem_append_right _ (List.mem_cons_of_mem _ (List.mem_cons_of_mem _ hp)))
  exact ⟨p.2, h0 p hp, h1, h5, h2, h3⟩
/-! ### the protocol -/
def GY2 (X : Cx) (S : Addr) (Ls : List Addr) (a : Addr) (g : Nat) : Protocol := fun n s₀ v s kap => ∃ ys x σ H, n + 1 + ys.length = sizeLine ∧ RelV x v ∧ GI2 X S Ls a g s₀ ys σ H s ∧ ∀ s', Slp S Ls a g v s s' → kap (.send .none) s'
def GR2 (X : Cx) (S : Addr) (Ls : List Addr) (a : Addr) (g : Nat) (Q : List V → VK) : GenEnd := fun n s₀ r s => match r with
  | .ok (.ret u) => ∃ ys v σ H, n + ys.length = sizeLine ∧ GI2 X S Ls a g s₀ ys σ H s ∧ RelV v u ∧ Q ys v H
  | _ => False
def GSP2 (X : Cx) (S : Addr) (Ls : List Addr) (a : Addr) (g : Nat) (s₀ : Shared) (D : GEnds) (ys : List V) (f : Flow) (s : Shared) : Prop :=
  match f with
  | .next => ∃ σ H, GI2 X S Ls a g s₀ ys σ H s ∧ D.nx ys σ H
  | .brk => ∃ σ H, GI2 X S Ls a g s₀ ys σ H s ∧ D.bk ys σ H
  | .cont => ∃ σ H, GI2 X S Ls a g s₀ ys σ H s ∧ D.ct ys σ H
  | .ret u => ∃ v σ H, GI2 X S Ls a g s₀ ys σ H s ∧ RelV v u ∧ D.rt ys v H
structure GC2 (X : Cx) (S : Addr) (Ls : List Addr) (a : Addr) (A : Around) (c : Code) (fs : List Frame) (gd : Bool → Bool) : Prop where
  apart : Apart2 X S Ls a
  over : A.over c fs = X.A
  split : splitAtGen fs = none
  guard : fs.any Frame.guarded = false
  gd : gd false = false
  xe : ∀ e s, X.xe e s → False
def GK2 (X : Cx) (S : Addr) (Ls : List Addr) (a : Addr) (g : Nat) (A : Around) (R : GenEnd) (c : Code) (fs : List Frame) (K : Flow → Sem PySem.Fin) (D : GEnds) : Prop :=
  ∀ (n : Nat) (ys : List V) (s₀ s : Shared) (f : Flow), n + ys.length = sizeLine → GSP2 X S Ls a g s₀ D ys f s → Seg (model X.prog X.w) A R (GY2 X S Ls a g) n s₀ c (K f) fs s
structure GS2 (X : Cx) (st : Stmt) (t : TGn) : Prop where
  run : ∀ (A : Around) (S : Addr) (Ls : List Addr) (a : Addr) (g : Nat) (R : GenEnd) (n : Nat) (ys : List V) (s₀ : Shared) (c : Code) (fs : List Frame) (K : Flow → Sem PySem.Fin) (J : Value → Sem PySem.Fin) (gd : Bool → Bool) (lv : List Value → List Value) (s : Shared) (σ : L2.St) (H : Hp) (D : GEnds),
    GC2 X S Ls a A c fs gd → n + ys.length = sizeLine → GK2 X S Ls a g A R c fs K D → GI2 X S Ls a g s₀ ys σ H s → t D ys σ H → Seg (model X.prog X.w) A R (GY2 X S Ls a g) n s₀ c ((exec st X.env).wrap K J gd lv) fs s
structure GSs2 (X : Cx) (st : List Stmt) (t : TGn) : Prop where
  run : ∀ (A : Around) (S : Addr) (Ls : List Addr) (a : Addr) (g : Nat) (R : GenEnd) (n : Nat) (ys : List V) (s₀ : Shared) (c : Code) (fs : List Frame) (K : Flow → Sem PySem.Fin) (J : Value → Sem PySem.Fin) (gd : Bool → Bool) (lv : List Value → List Value) (s : Shared) (σ : L2.St) (H : Hp) (D : GEnds),
    GC2 X S Ls a A c fs gd → n + ys.length = sizeLine → GK2 X S Ls a g A R c fs K D → GI2 X S Ls a g s₀ ys σ H s → t D ys σ H → Seg (model X.prog X.w) A R (GY2 X S Ls a g) n s₀ c ((execs st X.env).wrap K J gd lv) fs s
end QL

/-! GRh: the stretches of a generator that delegates to another: yield from. -/
namespace GR
open PySem
open Sem (wp)
def YfOk (s' : Shared) (g : Bool) (c : Code) (fs : List Frame) : Prop := g = true ∧ fs.any Frame.guarded = false ∧ ∃ d rest kw o m, c = .builtin "proto.yield_from" ⟨.ref d :: rest, kw⟩ ∧ s'.heap.get? d = some o ∧ o.genNumber? = some m
def Sg1End (R : GenEnd) (Y : Protocol) (n : Nat) (go : Code → Sem PySem.Fin → List Frame → Shared → Prop) (s₀ : Shared) (e : End) (s' : Shared) : Prop :=
  match e with
  | .ret r => R n s₀ r s'
  | .susp v g l k c p fs => YfOk s' g c fs ∧ Y (n - 1) s₀ v s' fun r s'' => go c (k r) fs s''
def Sg1 (M : Model) (A : Around) (R : GenEnd) (Y : Protocol) : Nat → Shared → Code → Sem PySem.Fin → List Frame → Shared → Prop
  | 0 => fun s₀ c t fs s => ∀ Γ p, Γ.code = c → Γ.Woken A → ∃ e s', Runs M Γ p t fs s e s' ∧ Sg1End R Y 0 (fun _ _ _ _ => False) s₀ e s'
  | n + 1 => fun s₀ c t fs s => ∀ Γ p, Γ.code = c → Γ.Woken A → ∃ e s', Runs M Γ p t fs s e s' ∧ Sg1End R Y (n + 1) (fun c' t' fs' s'' => Sg1 M A R Y n s'' c' t' fs' s'') s₀ e s'
def Sg1.next (M : Model) (A : Around) (R : GenEnd) (Y : Protocol) : Nat → Code → Sem PySem.Fin → List Frame → Shared → Prop
  | 0 => fun _ _ _ _ => False
  | n + 1 => fun c t fs s'' => Sg1 M A R Y n s'' c t fs s''
end GR
namespace QL
open PySem PySem.Spec PyProof.Rows L2 GenW GR
end QL

/-! GRi: yield from over a generator, turn by turn. -/
namespace QL
open PySem PySem.Spec PyProof.Rows L2 GenW GR
/-- while the delegating generator sleeps -/
structure Slept1 (S : Addr) (Ls : List Addr) (g1 : Nat) (v : Value) (s s' : Shared) : Prop where
  os : s'.os = s.os
  bare : AllBare s'.gens
  keep : ∀ b o, b ≠ S → b ∉ Ls → s.heap.get? b = some o → s'.heap.get? b = some o
  own : ∀ acc c, s.heap.get? S = some (L2.lstObj acc c) → ∃ c', s'.heap.get? S = some (L2.lstObj (acc.push v) c')
  oth : ∀ L ∈ Ls, ∃ o, s'.heap.get? L = some o ∧ ∀ v, o.data ≠ .cell v
  lim : s'.heap.NoLimit
  gens : ∀ j, j ≠ g1 → s'.gens[j]? = s.gens[j]?
theorem Slept1.of {S : Addr} {g1 : Nat} {v : Value} {s s' : Shared} (h : Slept S v s s') (l : s'.heap.NoLimit) (g : ∀ j, j ≠ g1 → s'.gens[j]? = s.gens[j]?) : Slept1 S [] g1 v s s' := ⟨h.os, h.bare, fun b o hb _ => h.keep b o hb, h.own, (fun _ z => nomatch z), l, g⟩
def YItem1 (sc : Shared) (S : Addr) (Ls : List Addr) (a : Addr) (g : Nat) : Protocol := fun n s₀ v s1 kap =>
  s1.os = sc.os ∧ AllBare s1.gens ∧ s1.heap.NoLimit ∧ s1.heap.IsGen a g ∧ (∃ (acc : Array Value) (c : Nat), s1.heap.get? S = some (L2.lstObj acc c) ∧ n + 1 + acc.size = sizeLine) ∧ (∀ L ∈ Ls, ∀ o, s₀.heap.get? L = some o → s1.heap.get? L = some o) ∧ ∀ s', Slept1 S Ls g v s1 s' → kap (.send .none) s'
theorem Slp.push {S a : Addr} {Ls : List Addr} {g : Nat} {v : Value} {s : Shared} {acc : Array Value} {c : Nat} {G : Array GenState} {go : Obj} (hS : s.heap.get? S = some (L2.lstObj acc c)) (hG : AllBare G) (ha : s.heap.get? a = some go) (ok : GenO g go) (hne : a ≠ S) (hL : ∀ L ∈ Ls, L ≠ S ∧ ∃ o, s.heap.get? L = some o ∧ ∀ v, o.data ≠ .cell v) :
    Slp S Ls a g v s { s with gens := G, heap := s.heap.update S (Obj.mapSeq (·.push v)) } where
  os := rfl
  bare := hG
  keep := fun b o hb _ _ e => (Heap.get?_update_other _ _ (Ne.symm hb)).trans e
  gen := ⟨go, (Heap.get?_update_other _ _ (Ne.symm hne)).trans ha, ok⟩
  own := fun acc' c' e => by
    rw [hS] at e
    cases e
    exact ⟨_, Heap.get?_update_self _ hS rfl⟩
  oth := fun L h => by
    obtain ⟨h1, o, h2, h3⟩ := hL L h
    exact ⟨o, (Heap.get?_update_other _ _ (Ne.symm h1)).trans h2, h3⟩
end QL

/-! GRj: next of a delegating generator; a list filled from it. -/
namespace QL
open PySem PySem.Spec PyProof.Rows L2 GenW GR
/-- the end of a delegating generator's run -/
def REnd1 (P : Program) (w : World) (outer : List PySem.Env) (H : Hp) (sc : Shared) (S : Addr) (Ls : List Addr) (Q : List V → Hp → Prop) : GenEnd := fun n s₀ r s1 =>
  r = .ok (.ret .none) ∧ (∀ L ∈ Ls, ∀ o, s₀.heap.get? L = some o → s1.heap.get? L = some o) ∧ ∃ H' ys acc c, s1.os = sc.os ∧ AllBare s1.gens ∧ Un (frs outer) [] H H' sc.heap s1.heap ∧ HOk P w H' s1.heap ∧ (H' S = none ∧ ∀ L ∈ Ls, H' L = none) ∧ s1.heap.get? S = some (L2.lstObj acc c) ∧ Vals ys acc.toList ∧ ys.length ≤ sizeLine ∧ Q ys H'
end QL

/-! GRk: statements of a generator def, told as data. -/
namespace QL
open PySem PySem.Spec PyProof.Rows L2 GenW GR
section
variable {Tq : List (Addr × Str)} {Z : Zb Tq} {X : Cx} {e c : Expr} {env : Env} {st : Stmt} {rest body els : List Stmt} {pos yp : Pos} {ds : List D} {P : List D → Out → Prop}
/-- what is wanted behind a statement of a generator: what is out so far, the names -/
def gEnds (Z : Zb Tq) (H0 F0 : Hp) (O0 : List Addr) (P : List D → Out → Prop) : GEnds where
  nx := fun ys σ H => ∃ F O env ds, Bas Z F H O ∧ OwE F H O σ env ∧ Frm Tq H0 F0 O0 H F O ∧ RpA F ys ds ∧ P ds (.nx env)
  rt := fun ys v H => ∃ F O1 O2 σ t env ds, Bas Z F H (O1 ++ O2) ∧ OwE F H O1 σ env ∧ Ow F H O2 v t ∧ Frm Tq H0 F0 O0 H F (O1 ++ O2) ∧ RpA F ys ds ∧ P ds (.ret t env)
  bk := fun ys σ H => ∃ F O env ds, Bas Z F H O ∧ OwE F H O σ env ∧ Frm Tq H0 F0 O0 H F O ∧ RpA F ys ds ∧ P ds (.bk env)
  ct := fun ys σ H => ∃ F O env ds, Bas Z F H O ∧ OwE F H O σ env ∧ Frm Tq H0 F0 O0 H F O ∧ RpA F ys ds ∧ P ds (.ct env)
structure GLe (D D' : GEnds) : Prop where
  nx : ∀ ys σ H, D.nx ys σ H → D'.nx ys σ H
  rt : ∀ ys v H, D.rt ys v H → D'.rt ys v H
  bk : ∀ ys σ H, D.bk ys σ H → D'.bk ys σ H
  ct : ∀ ys σ H, D.ct ys σ H → D'.ct ys σ H
theorem GSP2.le {X : Cx} {S : Addr} {Ls : List Addr} {a : Addr} {g : Nat} {D D' : GEnds} (l : GLe D D') {ys : List V} : ∀ f s', GSP2 X S Ls a g s₀ D ys f s' → GSP2 X S Ls a g s₀ D' ys f s'
  | .next, _, ⟨σ, H, I, q⟩ => ⟨σ, H, I, l.nx _ _ _ q⟩
  | .brk, _, ⟨σ, H, I, q⟩ => ⟨σ, H, I, l.bk _ _ _ q⟩
  | .cont, _, ⟨σ, H, I, q⟩ => ⟨σ, H, I, l.ct _ _ _ q⟩
  | .ret _, _, ⟨v, σ, H, I, r, q⟩ => ⟨v, σ, H, I, r, l.rt _ _ _ q⟩
theorem GK2.le {S : Addr} {Ls : List Addr} {a : Addr} {g : Nat} {A : Around} {R : GenEnd} {c : Code} {fs : List Frame} {K : Flow → Sem PySem.Fin} {D D' : GEnds} (l : GLe D D') (k : GK2 X S Ls a g A R c fs K D') : GK2 X S Ls a g A R c fs K D := fun n ys s₀ s f hn h => k n ys s₀ s f hn (GSP2.le l f s h)
theorem gEnds.from {H0 F0 H1 F1 : Hp} {O0 O1 : List Addr} {P P' : List D → Out → Prop} (fr : Frm Tq H0 F0 O0 H1 F1 O1) (hp : ∀ ds o, P ds o → P' ds o) : GLe (gEnds Z H1 F1 O1 P) (gEnds Z H0 F0 O0 P') :=
  ⟨fun _ _ _ ⟨F, O, env, ds, b, o, f, r, p⟩ => ⟨F, O, env, ds, b, o, fr.trans f, r, hp _ _ p⟩, fun _ _ _ ⟨F, O, O2, σ, t, env, ds, b, o, w, f, r, p⟩ => ⟨F, O, O2, σ, t, env, ds, b, o, w, fr.trans f, r, hp _ _ p⟩,
    fun _ _ _ ⟨F, O, env, ds, b, o, f, r, p⟩ => ⟨F, O, env, ds, b, o, fr.trans f, r, hp _ _ p⟩, fun _ _ _ ⟨F, O, env, ds, b, o, f, r, p⟩ => ⟨F, O, env, ds, b, o, fr.trans f, r, hp _ _ p⟩⟩
end
end QL

/-! GRl: the delegate's context; a generator that has not begun. -/
namespace QL
open PySem PySem.Spec PyProof.Rows L2 GenW GR
/-- the state, of its heap only what is older than S -/
def truncS (s : Shared) (S : Nat) : Shared := { s with heap := { s.heap with objs := s.heap.objs.extract 0 S } }
end QL

/-! GRm: a generator that is delegated to, by its body. -/
namespace QL
open PySem PySem.Spec PyProof.Rows L2 GenW GR
/-- the list that it is to fill, made before it -/
structure FillL (base : Heap) (outer : List PySem.Env) (H : Hp) (s : Shared) (S : Addr) (Ls : List Addr) : Prop where
  at' : ∃ c, s.heap.get? S = some (L2.lstObj #[] c)
  no : H S = none
  nf : S ∉ frs outer
  old : ∀ b ∈ frs outer, b < S
  bs : base.objs.size ≤ S
  oth : ∀ L ∈ Ls, S < L ∧ H L = none ∧ L ∉ frs outer ∧ ∃ o, s.heap.get? L = some o ∧ ∀ v, o.data ≠ .cell v
/-- what a call of it gives: a generator that has not begun -/
def GMade2 (P : Program) (w : World) (k : Nat) (outer : List PySem.Env) (H : Hp) (s : Shared) (S : Addr) (Ls : List Addr) (Q : List V → Hp → Prop) (u : Value) (s' : Shared) : Prop :=
  ∃ (a g : Nat) (c : Code), u = .ref a ∧ s.heap.objs.size ≤ a ∧ a < s'.heap.objs.size ∧ s'.heap.IsGen a g ∧ g = s.gens.size ∧ s'.gens = s.gens.push (.fresh c) ∧ s'.os = s.os ∧ AllBare s'.gens ∧ s'.heap.NoLimit ∧ (∀ b o, s.heap.get? b = some o → s'.heap.get? b = some o) ∧
    ∀ (A : Around) (s2 : Shared), Room k A → A.frames = some outer → A.guards = some [] → (∀ b o, s'.heap.get? b = some o → s2.heap.get? b = some o) → s2.os = s.os → AllBare s2.gens →
      ∃ X : Cx, X.prog = P ∧ X.w = w ∧ Apart2 X S Ls a ∧ (∀ ys σ H' s₀ s3, GI2 X S Ls a g s₀ ys σ H' s3 → s3.os = s.os ∧ AllBare s3.gens ∧ Un (frs outer) [] H H' (truncS s S).heap s3.heap ∧ HOk P w H' s3.heap) ∧
        Seg (model P w) A (GR2 X S Ls a g fun ys v H' => v = .non ∧ Q ys H') (GY2 X S Ls a g) sizeLine s2 c ((model P w).den c) [] s2
structure Gn2 (P : Program) (w : World) (K : PySem.W.Frag) (mg : Str → Option Value) (base : Heap) (Tq : List (Addr × Str)) (k : Nat) (f : Addr) (fd : FuncData) (ps : List Str) (sp : List T → (List D → Prop) → Prop) : Prop where
  len : ∀ ts Q, sp ts Q → ts.length = ps.length
  run : ∀ (A : Around) (outer : List PySem.Env) (s : Shared) (H : Hp) (args : Args) (us : List Value) (vs : List V) (F : Hp) (O : List Addr) (ts : List T) (Q : List D → Prop) (tbs : TabZ Tq H F O) (S : Addr) (Ls : List Addr),
    Room k A → Env0 P w K mg base A outer s H → BindsTo s fd args (ps.zip us) → Vals vs us → Bas ⟨H, F, O, tbs⟩ F H O → StV F H O vs ts → sp ts Q → FillL base outer H s S Ls →
    codeAny (model P w) A (.call (.ref f) args) (fun r s' => match r with | .ok (.ret u) => GMade2 P w k outer H s S Ls (fun ys H' => ∃ F' O' ds, Bas ⟨H, F, O, tbs⟩ F' H' O' ∧ RpA F' ys ds ∧ Q ds) u s' | _ => False) s
end QL

/-! GRn: a method that gives a generator, called at a temporary. -/
namespace QL
open PySem PySem.Spec PyProof.Rows L2 GenW GR
structure Mf2 (P : Program) (w : World) (K : PySem.W.Frag) (mg : Str → Option Value) (base : Heap) (Tq : List (Addr × Str)) (k : Nat) (C : Addr) (m : Str) (ps : List Str) (sp : List T → (List D → Prop) → Prop) : Prop where
  ex : ∃ f fd, Gn2 P w K mg base Tq k f fd ps sp ∧ Cls K C ∧ Meth K C m f ∧ Binds K fd ps []
end QL

/-! GRo: a generator def that delegates to another. -/
namespace GR
open PySem
open Sem (wp)
end GR
namespace QL
open PySem PySem.Spec PyProof.Rows L2 GenW GR
/-- what a call gives: a generator that has not begun -/
def GMade1 (P : Program) (w : World) (k : Nat) (outer : List PySem.Env) (H : Hp) (s : Shared) (Q : List V → Hp → Prop) (u : Value) (s' : Shared) : Prop :=
  ∃ (a g : Nat) (c : Code), u = .ref a ∧ s.heap.objs.size ≤ a ∧ a < s'.heap.objs.size ∧ s'.heap.IsGen a g ∧ s'.gens[g]? = some (.fresh c) ∧ s'.os = s.os ∧ AllBare s'.gens ∧ s'.heap.NoLimit ∧ (∀ b o, s.heap.get? b = some o → s'.heap.get? b = some o) ∧
    ∀ (A : Around) (S : Addr) (Ls : List Addr) (s2 : Shared), Room k A → A.frames = some outer → A.guards = some [] → s'.heap.objs.size ≤ S → (∀ b o, s'.heap.get? b = some o → s2.heap.get? b = some o) → (∃ c, s2.heap.get? S = some (L2.lstObj #[] c)) → (∀ L ∈ Ls, S < L ∧ ∃ o, s2.heap.get? L = some o ∧ ∀ v, o.data ≠ .cell v) → s2.os = s.os → AllBare s2.gens → g < s2.gens.size →
      Sg1 (model P w) A (REnd1 P w outer H s S Ls Q) (YItem1 s S Ls a g) sizeLine s2 c ((model P w).den c) [] s2
structure Gn1 (P : Program) (w : World) (K : PySem.W.Frag) (mg : Str → Option Value) (base : Heap) (Tq : List (Addr × Str)) (k : Nat) (f : Addr) (fd : FuncData) (ps : List Str) (sp : List T → (List D → List (Option T) → Prop) → Prop) : Prop where
  len : ∀ ts Q, sp ts Q → ts.length = ps.length
  run : ∀ (A : Around) (outer : List PySem.Env) (s : Shared) (H : Hp) (args : Args) (us : List Value) (vs : List V) (F : Hp) (O : List Addr) (ts : List T) (Q : List D → List (Option T) → Prop) (tbs : TabZ Tq H F O),
    Room k A → Env0 P w K mg base A outer s H → BindsTo s fd args (ps.zip us) → Vals vs us → Bas ⟨H, F, O, tbs⟩ F H O → StV F H O vs ts → sp ts Q →
    codeAny (model P w) A (.call (.ref f) args) (fun r s' => match r with | .ok (.ret u) => GMade1 P w k outer H s (fun ys H' => ∃ F' O' ts' ds, Bas ⟨H, F, O, tbs⟩ F' H' O' ∧ StVO F' H' O' vs ts' ∧ RpA F' ys ds ∧ Q ds ts') u s' | _ => False) s
end QL

/-! GRt: list(g), g a generator that delegates. -/
namespace QL
open PySem PySem.Spec PyProof.Rows L2 GenW GR
end QL

/-! GRu: list(f(a, ..)), f a generator def that delegates. -/
namespace QL
open PySem PySem.Spec PyProof.Rows L2 GenW GR
abbrev SpN := List T → (List D → List (Option T) → Prop) → Prop
structure Dg1 (P : Program) (w : World) (K : PySem.W.Frag) (mg : Str → Option Value) (base : Heap) (Tq : List (Addr × Str)) (k : Nat) (x : Str) (ps : List Str) (sp : SpN) : Prop where
  ex : ∃ (f : Addr) (fd : FuncData), Gn1 P w K mg base Tq k f fd ps sp ∧ mg x = some (.ref f) ∧ PySem.W.keepIn K (.ref f) = true ∧ Binds K fd ps []
end QL

/-! GRv: levels of generator promises; generators called by names; more rules of the second kind. -/
namespace QL
open PySem PySem.Spec PyProof.Rows L2 GenW GR
theorem GMade1.mono {P : Program} {w : World} {j k : Nat} {outer : List PySem.Env} {H : Hp} {s : Shared} {Q : List V → Hp → Prop} {u : Value} {s' : Shared} (g : GMade1 P w j outer H s Q u s') (h : j ≤ k) : GMade1 P w k outer H s Q u s' := by
  obtain ⟨a, g0, c, e1, e2, e3, e4, e5, e6, e7, e8, e9, r⟩ := g
  exact ⟨a, g0, c, e1, e2, e3, e4, e5, e6, e7, e8, e9, fun A S Ls s2 hr => r A S Ls s2 (hr.mono h)⟩
theorem GMade2.mono {P : Program} {w : World} {j k : Nat} {outer : List PySem.Env} {H : Hp} {s : Shared} {S : Addr} {Ls : List Addr} {Q : List V → Hp → Prop} {u : Value} {s' : Shared} (g : GMade2 P w j outer H s S Ls Q u s') (h : j ≤ k) : GMade2 P w k outer H s S Ls Q u s' := by
  obtain ⟨a, g0, c, e1, e2, e3, e4, e5, e6, e7, e8, e9, e10, r⟩ := g
  exact ⟨a, g0, c, e1, e2, e3, e4, e5, e6, e7, e8, e9, e10, fun A s2 hr => r A s2 (hr.mono h)⟩
theorem Gn1.mono {P : Program} {w : World} {K : PySem.W.Frag} {mg : Str → Option Value} {base : Heap} {Tq : List (Addr × Str)} {j k : Nat} {f : Addr} {fd : FuncData} {ps : List Str} {sp : SpN} (G : Gn1 P w K mg base Tq j f fd ps sp) (h : j ≤ k) : Gn1 P w K mg base Tq k f fd ps sp where
  len := G.len
  run := fun A outer s H args us vs F O ts Q tbs hr e b v bb st sp => codeAny_mono (G.run A outer s H args us vs F O ts Q tbs (hr.mono h) e b v bb st sp) fun r s' q => by
    cases r with
    | error e => exact q
    | ok f => cases f with
      | ret u => exact GMade1.mono q h
      | _ => exact q
theorem Gn2.mono {P : Program} {w : World} {K : PySem.W.Frag} {mg : Str → Option Value} {base : Heap} {Tq : List (Addr × Str)} {j k : Nat} {f : Addr} {fd : FuncData} {ps : List Str} {sp : List T → (List D → Prop) → Prop} (G : Gn2 P w K mg base Tq j f fd ps sp) (h : j ≤ k) : Gn2 P w K mg base Tq k f fd ps sp where
  len := G.len
  run := fun A outer s H args us vs F O ts Q tbs S Ls hr e b v bb st sp fl => codeAny_mono (G.run A outer s H args us vs F O ts Q tbs S Ls (hr.mono h) e b v bb st sp fl) fun r s' q => by
    cases r with
    | error e => exact q
    | ok f => cases f with
      | ret u => exact GMade2.mono q h
      | _ => exact q
theorem Dg1.mono {P : Program} {w : World} {K : PySem.W.Frag} {mg : Str → Option Value} {base : Heap} {Tq : List (Addr × Str)} {j k : Nat} {x : Str} {ps : List Str} {sp : SpN} (G : Dg1 P w K mg base Tq j x ps sp) (h : j ≤ k) : Dg1 P w K mg base Tq k x ps sp :=
  let ⟨f, fd, g, r⟩ := G.ex; ⟨f, fd, g.mono h, r⟩
theorem Mf2.mono {P : Program} {w : World} {K : PySem.W.Frag} {mg : Str → Option Value} {base : Heap} {Tq : List (Addr × Str)} {j k : Nat} {C : Addr} {m : Str} {ps : List Str} {sp : List T → (List D → Prop) → Prop} (G : Mf2 P w K mg base Tq j C m ps sp) (h : j ≤ k) : Mf2 P w K mg base Tq k C m ps sp :=
  let ⟨f, fd, g, r⟩ := G.ex; ⟨f, fd, g.mono h, r⟩
structure Dg1K (P : Program) (w : World) (K : PySem.W.Frag) (mg : Str → Option Value) (base : Heap) (Tq : List (Addr × Str)) (k : Nat) (x : Str) (ps ks : List Str) (ns : List Nat) (sp : SpN) : Prop where
  ex : ∃ (f : Addr) (fd : FuncData), Gn1 P w K mg base Tq k f fd ps sp ∧ mg x = some (.ref f) ∧ PySem.W.keepIn K (.ref f) = true ∧ KwOk K fd ps ks ns
theorem Dg1K.mono {P : Program} {w : World} {K : PySem.W.Frag} {mg : Str → Option Value} {base : Heap} {Tq : List (Addr × Str)} {j k : Nat} {x : Str} {ps ks : List Str} {ns : List Nat} {sp : SpN} (G : Dg1K P w K mg base Tq j x ps ks ns sp) (h : j ≤ k) : Dg1K P w K mg base Tq k x ps ks ns sp :=
  let ⟨f, fd, g, r⟩ := G.ex; ⟨f, fd, g.mono h, r⟩

/-! ### xs.append(e), e of the second kind -/
end QL

/-! QXA: an error of one's own, made with arguments by name. -/
namespace QL
open PySem PySem.Spec PySem.HandSPX PySem.Builtin PySem.Builtin.ObjectAttr
end QL

/-! QXB: an error of one's own as a value: C(v), C(), C(f=v). -/
namespace QL
open PySem PySem.Spec PyProof.Rows L2
end QL

/-! QXC: C(f=v). -/
namespace QL
open PySem PySem.Spec PyProof.Rows L2
end QL

/-! QXD: frozen things: errors, lists and tuples of such, data. -/
namespace QL
open PySem PySem.Spec PyProof.Rows L2
inductive Fz
  | ex (ex : Ex)
  | ls (fs : List Fz)
  | tp (fs : List Fz)
  | dat (d : D)
mutual
inductive FV (F : Hp) : V → Fz → Prop
  | ex {a : Addr} {d : Option Addr} {ex : Ex} : F a = some (ExK (.ref ex.C) d a) → ExAt F ex (.ref ex.C) d → FV F (.ref a) (.ex ex)
  | ls {a : Addr} {xs : List V} {fs : List Fz} : F a = some (.lst xs) → FVs F xs fs → FV F (.ref a) (.ls fs)
  | tp {a : Addr} {xs : List V} {fs : List Fz} : F a = some (.tup xs) → FVs F xs fs → FV F (.ref a) (.tp fs)
  | dat {v : V} {d : D} : Rp F v d → FV F v (.dat d)
inductive FVs (F : Hp) : List V → List Fz → Prop
  | nil : FVs F [] []
  | cons {v : V} {f : Fz} {vs : List V} {fs : List Fz} : FV F v f → FVs F vs fs → FVs F (v :: vs) (f :: fs)
end
mutual
theorem FV.mono {F F' : Hp} (s : Same F F') : ∀ {v : V} {f : Fz}, FV F v f → FV F' v f
  | _, _, .ex h x => .ex (s _ _ h) (x.mono s)
  | _, _, .ls h r => .ls (s _ _ h) (FVs.mono s r)
  | _, _, .tp h r => .tp (s _ _ h) (FVs.mono s r)
  | _, _, .dat r => .dat (r.mono s)
theorem FVs.mono {F F' : Hp} (s : Same F F') : ∀ {v : List V} {f : List Fz}, FVs F v f → FVs F' v f
  | _, _, .nil => .nil
  | _, _, .cons h r => .cons (FV.mono s h) (FVs.mono s r)
end
theorem FVs.len {F : Hp} : ∀ {vs : List V} {fs : List Fz}, FVs F vs fs → vs.length = fs.length
  | _, _, .nil => rfl
  | _, _, .cons _ r => congrArg (· + 1) r.len
theorem FVs.app {F : Hp} : ∀ {vs : List V} {fs : List Fz} {ws : List V} {gs : List Fz}, FVs F vs fs → FVs F ws gs → FVs F (vs ++ ws) (fs ++ gs)
  | _, _, _, _, .nil, r => r
  | _, _, _, _, .cons h t, r => .cons h (t.app r)
theorem FVs.at {F : Hp} : ∀ {vs : List V} {fs : List Fz}, FVs F vs fs → ∀ {i : Nat} {f : Fz}, fs[i]? = some f → ∃ v, vs[i]? = some v ∧ FV F v f
  | _, _, .nil, i, f, e => by simp at e
  | _, _, .cons h t, 0, f, e => by cases e; exact ⟨_, rfl, h⟩
  | _, _, .cons h t, i + 1, f, e => t.at (i := i) e
theorem FVs.drop {F : Hp} : ∀ {vs : List V} {fs : List Fz}, FVs F vs fs → ∀ n, FVs F (vs.drop n) (fs.drop n)
  | _, _, r, 0 => r
  | _, _, .nil, n + 1 => .nil
  | _, _, .cons h t, n + 1 => t.drop n
theorem FVs.take {F : Hp} : ∀ {vs : List V} {fs : List Fz}, FVs F vs fs → ∀ n, FVs F (vs.take n) (fs.take n)
  | _, _, r, 0 => .nil
  | _, _, .nil, n + 1 => .nil
  | _, _, .cons h t, n + 1 => .cons h (t.take n)
section
variable {Tq : List (Addr × Str)} {Z : Zb Tq} {X : Cx} {env : Env} {e a b : Expr} {es : List Expr} {pos p : Pos}
theorem grow_new {F H : Hp} {O : List Addr} {σ : L2.St} {p : Addr} {x : HO} (b : Bas Z F H O) (o : OwE F H O σ env) (hp : H p = none) :
    Bas Z (upd F p x) (upd H p x) O ∧ OwE (upd F p x) (upd H p x) O σ env ∧ Frm Tq H F O (upd H p x) (upd F p x) O := by
  have nf : F p = none := b.sub.free hp
  refine b.grow o (same_new nf) (same_new hp) (same_upd2 b.sub) fun a z => ?_
  by_cases e : a = p
  · subst e; exact .inr hp
  · rw [upd_ne e] at z; exact .inl z
end
end QL

/-! QXE: frozen things: list + list, an item, a slice, a field. -/
namespace QL
open PySem PySem.Spec PyProof.Rows L2
def cutF (xs : List Fz) (lo hi : Option Int) : List Fz := (xs.drop (HT.sIx xs.length 0 lo)).take (HT.sIx xs.length xs.length hi - HT.sIx xs.length 0 lo)
theorem FVs.cut {F : Hp} {vs : List V} {fs : List Fz} (r : FVs F vs fs) (lo hi : Option Int) : FVs F (cutV vs lo hi) (cutF fs lo hi) := by
  unfold cutV cutF
  rw [r.len]
  exact (r.drop _).take _
section
variable {Tq : List (Addr × Str)} {Z : Zb Tq} {X : Cx} {env : Env} {e a b : Expr} {es : List Expr} {pos p : Pos}
theorem FVs.atI {F : Hp} {xs : List V} {fs : List Fz} {i : Int} {f : Fz} (r : FVs F xs fs) (h : L2.atI fs i = some f) : ∃ v, L2.atI xs i = some v ∧ FV F v f := by
  unfold L2.atI at h ⊢
  rw [r.len]
  cases hn : ixN fs.length i with
  | none => rw [hn] at h; cases h
  | some j => rw [hn] at h; exact r.at h
end
end QL

/-! QXF: loops over frozen things. -/
namespace QL
open PySem PySem.Spec PyProof.Rows L2
/-- what enumerate gives -/
def enF (fs : List Fz) : List Fz := (List.range fs.length).zipWith (fun i f => .tp [.dat (.int (i : Nat)), f]) fs
abbrev TFz := Fz → Env → (Env → Prop) → Prop
end QL

/-! QXG: comprehensions over frozen things. -/
namespace QL
open PySem PySem.Spec PyProof.Rows L2
section
variable {Tq : List (Addr × Str)} {Z : Zb Tq} {X : Cx} {e a b c tg iter elt : Expr} {es : List Expr} {env : Env} {pos p : Pos} {P PR : R → Env → Prop}
structure LcIF {Tq : List (Addr × Str)} (Z : Zb Tq) (X : Cx) (scope : Scope) (f : TFz) (elt : Expr) (vs : List Nat) (T : Env → (Bool → Env → Prop) → Prop) (P : R → Env → Prop) (ds : List Fz) (e1 : Env) : Prop where
  ex : ∃ I : Nat → List D → Env → Prop, I 0 [] (wipeE e1 vs) ∧ (∀ k d acc e, ds[k]? = some d → I k acc e → f d e fun e' => T e' fun bb e2 => (bb = true → ElI Z X scope elt vs (I (k + 1)) acc e2) ∧ (bb = false → I (k + 1) acc (wipeE e2 vs))) ∧
    ∀ acc e, I ds.length acc e → ∀ p, P (.t (.lst p acc)) e
end
end QL

/-! QXH: C(v), C(), C(f=v) from what is told of an error class (Rz, Rz0, RzK). -/
namespace QL
open PySem PySem.Spec PyProof.Rows L2
/-- Rz, also called by its one name -/
structure RzK (P : Program) (w : World) (K : PySem.W.Frag) (mg : Str → Option Value) (base : Heap) (k : Nat) (x : Str) (C : Addr) (f y : Str) : Prop where
  ex : ∃ (fI : Addr) (fd : FuncData) (ps : List Str), OexC K C ∧ PySem.W.findIn K (.ref C) "__init__" = some (some (.ref fI)) ∧ PySem.W.typeIn K (.ref fI) = some (.type "function") ∧ FnOk P w K mg base (L2.CX P w) k fI fd ps (spX K C f) ∧ L2.Binds K fd ps [] ∧ mg x = some (.ref C) ∧ KwOkS K fd ps [y] [0]
theorem RzK.mono {P : Program} {w : World} {K : PySem.W.Frag} {mg : Str → Option Value} {base : Heap} {j k : Nat} {x : Str} {C : Addr} {f y : Str} (R : RzK P w K mg base j x C f y) (h : j ≤ k) : RzK P w K mg base k x C f y :=
  let ⟨fI, fd, ps, a, b, c, d, e⟩ := R.ex; ⟨fI, fd, ps, a, b, c, d.mono h, e⟩
theorem WAs.imp {Tq : List (Addr × Str)} {Z : Zb Tq} {X : Cx} : ∀ {es : List Expr} {env : Env} {P P' : List A → Env → Prop}, (∀ a e, P a e → P' a e) → WAs Z X es env P → WAs Z X es env P'
  | [], _, _, _, hp, h => hp _ _ h
  | _ :: _, _, _, _, hp, h => ⟨h.1, h.2.imp fun a e q => WAs.imp (fun as e2 => hp (a :: as) e2) q⟩
theorem WKs.imp {Tq : List (Addr × Str)} {Z : Zb Tq} {X : Cx} : ∀ {es : List Keyword} {env : Env} {P P' : List A → Env → Prop}, (∀ a e, P a e → P' a e) → WKs Z X es env P → WKs Z X es env P'
  | [], _, _, _, hp, h => hp _ _ h
  | _ :: _, _, _, _, hp, h => WA.imp h fun a e q => WKs.imp (fun as e2 => hp (a :: as) e2) q
end QL

/-! QYA: a list of lambdas: how it is made. -/
namespace QL
open PySem PySem.Spec PyProof.Rows L2
/-- at f stands the object o -/
def LamK (f : Addr) (o : Obj) : HO := .ext fun h => h.get? f = some o
theorem lamK_ok {P : Program} {w : World} {H : Hp} {h : Heap} {f : Addr} {o : Obj} (e : h.get? f = some o) : ObjOk P w H h f (LamK f o) := ⟨e, ⟨o, e⟩, fun _ _ q k => k o q⟩
abbrev lamO (q : Str) (params : Arguments) (body : Expr) (scope : Scope) (cells : List (Str × Addr)) (pm : Value) (c' : Addr) (ctv : Value) : Obj := PySem.W.kla_obj "<lambda>" q params body scope (cloFrom cells scope.names []) pm c' ctv
section
variable {X : Cx} {pins : List (Addr × Obj)} {σ : L2.St} {H : Hp} {s : Shared}
/-- a new object of ours is known from now on -/
theorem known {s0 : Shared} {σ0 : L2.St} {H0 : Hp} {f : Addr} {oe : Obj} {o : HO} (I0 : Inv X pins σ0 H0 s0) (I : Inv X pins σ H s) (hs : s0.heap.objs.size ≤ f) (hf : s.heap.get? f = some oe) (hn : H f = none) (hc : ∀ v, oe.data ≠ .cell v) (new : ObjOk X.prog X.w (upd H f o) s.heap f o) : Inv X pins σ (upd H f o) s := by
  obtain ⟨_, f1, f2, _, _, f5⟩ := I0.fpOk (H' := H) hs hn
  have J : Inv X ((f, oe) :: pins) σ H s := ⟨I.ok, I.os, I.bare, I.base, I.loc, I.cell, I.free, I.freeC, fun p hp => by
    rcases List.mem_append.mp hp with z | z
    · exact I.pin p (List.mem_append_left _ z)
    · rcases List.mem_cons.mp z with z | z
      · subst z; exact ⟨hf, hn, f1, f2, hc⟩
      · exact I.pin p (List.mem_append_right _ z), I.hok, I.len⟩
  refine track J ?_ f5 new
  cases q : X.s_0.heap.get? f with
  | none => rfl
  | some z => exact absurd (Nat.lt_of_lt_of_le (Heap.lt_size q) (Nat.le_trans I0.sz hs)) (Nat.lt_irrefl _)
/-- the lambda is made; its object is new -/
theorem lam_make4 {Tq : List (Addr × Str)} {c P : Addr} {params : Arguments} {body : Expr} {scope : Scope} {pos : Pos} {E : Value → Shared → Prop} {Q : Value → Shared → Prop} (I : Inv X pins σ H s) (TB : LamX.TabB X.base X.mg c P) (hcode : X.env.code = .ref c)
    (hT : LamX.TabS H P (X.env.qual ++ "<lambda>")) (hu : ∀ p ∈ Tq, p.1 = P → p.2 = X.env.qual ++ "<lambda>") (hdef : defaultsOf params X.env = ([], [])) (hfree : ∀ y ∈ scope.names, y.2 = .free → ∃ c, X.env.cells.lookup y.1 = some c)
    (h : ∀ (f c' : Addr) (pm ctv : Value) (H1 : Hp) (s' : Shared), Inv X pins σ H1 s' → (∀ b, b ≠ P → H b ≠ none → H1 b = H b) → (∀ b, H b ≠ none → H1 b ≠ none) → TabM Tq H H1 → Told H1 P c' →
      s'.heap.get? f = some (lamO (X.env.qual ++ "<lambda>") params body scope X.env.cells pm c' ctv) → H1 f = none → s.heap.objs.size ≤ f → Q (.ref f) s') :
    wpAny (model X.prog X.w) X.A (eval (.Lambda params body scope pos) X.env) Q E s := by
  obtain ⟨ps, hP, ht, ha⟩ := hT
  refine PySem.W.kla_eval hdef ?_
  have bP : s.heap.BuiltinsAt X.mg P := TB.bm.keeps I.bk
  have hP' : s.heap.get? P = some { cls := .none, data := .fields ps } := I.hok P _ hP
  cases hc : codeAmong pos ps.toList with
  | none =>
    refine PySem.W.kla_makeFunction (mg := X.mg) (c := c) (P := P) (ps := ps) (closure_ok hfree) I.ok.glob (I.mod.glob.keeps I.bk) hcode (TB.code.keeps I.bk) hP' ht hc TB.gP bP fun c' ctv h' tk hx hge hlt hrec htb => ?_
    obtain ⟨c2, oc, vs, t, e2, hoc, hd, hv⟩ := hrec
    cases e2
    have hsz : s.heap.objs.size ≤ h'.objs.size := Nat.le_trans hge (Nat.le_of_lt hlt)
    have nC : H c' = none := I.hok.fresh hge
    have I1 := LamX.inv_table (t' := tk) (more := #[rawInt pos.line, rawInt pos.col, .ref c']) (h' := h'.push (lamO (X.env.qual ++ "<lambda>") params body scope X.env.cells ((X.mg "__name__").getD .none) c' ctv)) I hP
      (fun b o hb e => Heap.get?_push_of_some _ (hx b o hb e)) (Heap.get?_push_of_some _ htb) hge ⟨oc, vs, t, Heap.get?_push_of_some _ hoc, hd, hv⟩
    have hE : LamX.ExtN H (upd (upd H P (.tbl (ps ++ #[rawInt pos.line, rawInt pos.col, .ref c']))) c' (LamX.CodeO c' (X.env.qual ++ "<lambda>"))) := fun b o e n => by
      rw [upd_ne (ne_of_none e nC), upd_ne (fun z => n ps (Option.some.inj (e.symm.trans (by rw [z]; exact hP))))]
      exact e
    have eL : (ps ++ #[rawInt pos.line, rawInt pos.col, .ref c']).toList = ps.toList ++ [rawInt pos.line, rawInt pos.col, .ref c'] := by simp
    have hN : upd (upd H P (.tbl (ps ++ #[rawInt pos.line, rawInt pos.col, .ref c']))) c' (LamX.CodeO c' (X.env.qual ++ "<lambda>")) P = some (.tbl (ps ++ #[rawInt pos.line, rawInt pos.col, .ref c'])) := by rw [upd_ne (ne_of_none hP nC), upd_same]
    refine h h'.objs.size c' ((X.mg "__name__").getD .none) ctv _ _ I1 (fun b n hb => by rw [upd_ne (fun z => hb (by rw [z]; exact nC)), upd_ne n]) (fun b hb => ?_) (fun p hp t => ?_) ⟨_, pos, hN, by rw [eL]; exact among_new _ ht hc⟩ (Heap.get?_push_size _ rfl) ?_ hsz
    · by_cases z : b = c'
      · subst z; rw [upd_same]; exact fun z => nomatch z
      · rw [upd_ne z]
        by_cases z2 : b = P
        · subst z2; rw [upd_same]; exact fun z => nomatch z
        · rw [upd_ne z2]; exact hb
    · by_cases hb : p.1 = P
      · rw [hu p hp hb, hb]
        refine ⟨⟨_, hN, by rw [eL]; exact PySem.TriplesOk_snoc _ _ _ _ ht, fun p' cv hcv => ?_⟩, fun c0 ⟨ps', pos', g1, g2⟩ => ?_⟩
        · rw [eL] at hcv
          rcases LamX.among_app _ ht hcv with z | z
          · obtain ⟨c0, e1, e2⟩ := ha p' cv z
            exact ⟨c0, e1, hE _ _ e2 LamX.codeO_ne⟩
          · exact ⟨c', z, upd_same⟩
        · rw [hP] at g1
          cases g1
          exact ⟨_, pos', hN, by rw [eL]; exact among_mono _ _ g2⟩
      · obtain ⟨ps', a1, a2, a3⟩ := t
        have k : upd (upd H P (.tbl (ps ++ #[rawInt pos.line, rawInt pos.col, .ref c']))) c' (LamX.CodeO c' (X.env.qual ++ "<lambda>")) p.1 = H p.1 := by rw [upd_ne (ne_of_none a1 nC), upd_ne hb]
        refine ⟨⟨ps', k.trans a1, a2, fun p' cv hcv => ?_⟩, fun c0 ⟨ps', pos', g1, g2⟩ => ⟨ps', pos', k.trans g1, g2⟩⟩
        obtain ⟨c0, e1, e2⟩ := a3 p' cv hcv
        exact ⟨c0, e1, hE _ _ e2 LamX.codeO_ne⟩
    · have n1 : h'.objs.size ≠ c' := Nat.ne_of_gt hlt
      have n2 : h'.objs.size ≠ P := Nat.ne_of_gt (Nat.lt_of_lt_of_le (Heap.lt_size hP') hsz)
      rw [upd_ne n1, upd_ne n2]
      exact I.hok.fresh hsz
  | some cv =>
    obtain ⟨c', e, hco⟩ := ha pos cv hc
    subst e
    refine PySem.W.kla_makeFunctionHit (mg := X.mg) (c := c) (P := P) (ps := ps) (closure_ok hfree) I.ok.glob (I.mod.glob.keeps I.bk) hcode (TB.code.keeps I.bk) hP' ht hc bP fun ctv h' tk hx hsz => ?_
    have I1 : Inv X pins σ H { s with heap := h'.push (lamO (X.env.qual ++ "<lambda>") params body scope X.env.cells ((X.mg "__name__").getD .none) c' ctv), toks := tk } := I.kept fun b o e => Heap.get?_push_of_some _ (hx b o e)
    exact h h'.objs.size c' ((X.mg "__name__").getD .none) ctv H _ I1 (fun _ _ _ => rfl) (fun _ z => z) (TabM.refl _) ⟨ps, pos, hP, hc⟩ (Heap.get?_push_size _ rfl) (I.hok.fresh hsz) hsz
/-- what the making of a lambda leaves -/
def tLam (X : Cx) (Tq : List (Addr × Str)) (P : Addr) (params : Arguments) (body : Expr) (scope : Scope) : TE := fun _ H Q => LamX.TabS H P (X.env.qual ++ "<lambda>") ∧
  ∀ (f c' : Addr) (pm ctv : Value) (H1 : Hp), (∀ b, b ≠ P → H b ≠ none → H1 b = H b) → (∀ b, H b ≠ none → H1 b ≠ none) → TabM Tq H H1 → Told H1 P c' → H1 f = none → Q (.ref f) (upd H1 f (LamK f (lamO (X.env.qual ++ "<lambda>") params body scope X.env.cells pm c' ctv)))
theorem pe_lamK {Tq : List (Addr × Str)} {c P : Addr} {params : Arguments} {body : Expr} {scope : Scope} {pos : Pos} (TB : LamX.TabB X.base X.mg c P) (hcode : X.env.code = .ref c) (hu : ∀ p ∈ Tq, p.1 = P → p.2 = X.env.qual ++ "<lambda>") (L : LamX.LamS X.env.scope scope)
    (hdef : defaultsOf params X.env = ([], []) := by rfl) : PE X (.Lambda params body scope pos) (tLam X Tq P params body scope) :=
  ⟨fun pins s σ H Q I ⟨hT, h⟩ => lam_make4 (Tq := Tq) I TB hcode hT hu hdef (L.has I.ok) fun f c' pm ctv H1 s' I1 eN al tm td hf hn hs =>
    ⟨.ref f, _, known I I1 hs hf hn (fun v z => nomatch z) (lamK_ok hf), rfl, h f c' pm ctv H1 eN al tm td hn⟩⟩
end
/-- a list of lambdas that a name holds -/
def lsL (a : Addr) (fs : List (Addr × Obj)) : T := .ob (some a) fun F H O v => O = [a] ∧ v = .ref a ∧ H a = some (.lst (fs.map fun p => V.ref p.1)) ∧ ∀ p ∈ fs, F p.1 = some (LamK p.1 p.2)
theorem lsL_ow {F H : Hp} {a : Addr} {fs : List (Addr × Obj)} (h : H a = some (.lst (fs.map fun p => V.ref p.1))) (hf : ∀ p ∈ fs, F p.1 = some (LamK p.1 p.2)) : Ow F H [a] (.ref a) (lsL a fs) :=
  .ob ⟨rfl, rfl, h, hf⟩ ⟨fun F H F' H' O v ⟨h1, h2, h3, h4⟩ s k => ⟨h1, h2, by rw [k a (by rw [h1]; exact List.mem_singleton.mpr rfl)]; exact h3, fun p hp => s _ _ (h4 p hp)⟩,
    fun F H O v ⟨h1, _, h3, _⟩ b hb => (by subst h1; rw [List.mem_singleton.mp hb]; exact ⟨_, h3, fun _ z => nomatch z⟩), fun F H O v b ⟨_, h2, _⟩ e => by cases e; exact h2⟩
section
variable {Tq : List (Addr × Str)} {Z : Zb Tq} {X : Cx} {env : Env} {P : Out → Prop} {rest : List Stmt} {params : Arguments} {body : Expr} {scope : Scope} {pos p1 p2 p3 p4 p5 lpos : Pos} {c Pt : Addr}
/-- the rest of a suite, from a later state on -/
theorem pss_later : PSs X rest (fun D σ H => ∃ Z' : Zb Tq, tSs Z' X rest D σ H) := ⟨fun pins s σ H D I ⟨Z', t⟩ => (pss_S (Z := Z')).run pins s σ H D I t⟩
theorem endsOf.later {F H F' H' : Hp} {O O' : List Addr} (b : Bas Z F H O) (b' : Bas Z F' H' O') (fr : Frm Tq H F O H' F' O') : EndsLe (endsOf ⟨H', F', O', b'.tabs⟩ H' F' O' P) (endsOf Z H F O P) :=
  have to : ∀ {F2 H2 : Hp} {O2 : List Addr}, Bas ⟨H', F', O', b'.tabs⟩ F2 H2 O2 → Bas Z F2 H2 O2 := fun b2 => ⟨b2.sub, b2.nd, b2.dis, b'.abs.trans b2.abs⟩
  ⟨fun σ H2 ⟨F2, O2, e, b2, o2, f2, q⟩ => ⟨F2, O2, e, to b2, o2, fr.trans f2, q⟩, fun v H2 ⟨F2, Oa, Ob, σ, t, e, b2, o2, w2, f2, q⟩ => ⟨F2, Oa, Ob, σ, t, e, to b2, o2, w2, fr.trans f2, q⟩,
    fun σ H2 ⟨F2, O2, e, b2, o2, f2, q⟩ => ⟨F2, O2, e, to b2, o2, fr.trans f2, q⟩, fun σ H2 ⟨F2, O2, e, b2, o2, f2, q⟩ => ⟨F2, O2, e, to b2, o2, fr.trans f2, q⟩⟩
/-- the frame behind the making of a lambda -/
theorem lam_grow {F H H1 : Hp} {O : List Addr} {σ : L2.St} {q : Str} {f : Addr} {x : HO} (b : Bas Z F H O) (o : OwE F H O σ env) (hmT : (Pt, q) ∈ Tq) (hq : q ≠ ("()" : Str)) (eN : ∀ b, b ≠ Pt → H b ≠ none → H1 b = H b) (al : ∀ b, H b ≠ none → H1 b ≠ none) (tm : TabM Tq H H1) (hn : H1 f = none) :
    Bas Z (upd F f x) (upd H1 f x) O ∧ OwE (upd F f x) (upd H1 f x) O σ env ∧ Frm Tq H F O (upd H1 f x) (upd F f x) O := by
  have tz := b.tabs
  have FP : F Pt = none := tz.tn _ hmT hq
  have OP : Pt ∉ O := tz.to _ hmT hq
  obtain ⟨ps0, hP0, _⟩ := tz.tabs _ hmT hq
  have keepO : ∀ c ∈ O, H1 c = H c := fun c hc => eN c (fun z => OP (z ▸ hc)) (o.held c hc).ne
  have sF : Same F H1 := fun c u e => by
    have hne : H c ≠ none := by rw [b.sub c u e]; exact fun z => nomatch z
    rw [eN c (fun z => by rw [z, FP] at e; cases e) hne]
    exact b.sub c u e
  have fr1 : Frm Tq H F O H1 F O := ⟨Same.refl _, fun c u e nt _ => by
    rw [eN c (fun z => by rw [z] at e; exact nt ps0 (Option.some.inj (e.symm.trans hP0))) (by rw [e]; exact fun z => nomatch z)]
    exact e, al, fun c e => .inl e, fun c hc => .inl hc, tm⟩
  have b1 : Bas Z F H1 O := ⟨sF, b.nd, b.dis, b.abs.trans fr1⟩
  have o1 : OwE F H1 O σ env := o.stay (Same.refl _) keepO
  obtain ⟨b2, o2, fr2⟩ := grow_new (x := x) b1 o1 hn
  exact ⟨b2, o2, fr1.trans fr2⟩
/-- x = [lambda: ..] -/
theorem wss_lam1 (i : Nat) {x : Str} (TB : LamX.TabB X.base X.mg c Pt) (hcode : X.env.code = .ref c) (hmT : (Pt, X.env.qual ++ "<lambda>") ∈ Tq) (hu : ∀ p ∈ Tq, p.1 = Pt → p.2 = X.env.qual ++ "<lambda>") (L : LamX.LamS X.env.scope scope) (hN : X.N.Nodup) (hlt : i < env.length)
    (h : ∀ (Z' : Zb Tq) (a f c' : Addr) (pm ctv : Value), TabM Tq Z.H Z'.H → Told Z'.H Pt c' → WSs Z' X rest (env.set i (some (lsL a [(f, lamO (X.env.qual ++ "<lambda>") params body scope X.env.cells pm c' ctv)]))) P)
    (hi : X.N[i]? = some x := by rfl) (hx : Loc X.env.scope x := by first | exact Or.inl rfl | exact Or.inr rfl) (hs : swapsWith (.List [.Lambda params body scope lpos] p2) (some (.Name x p1)) p3.line X.env = pure false := by rfl)
    (hf : X.fn x = true ∨ X.env.scope.names.lookup x = some .local := by first | exact .inl rfl | exact .inr rfl) (hdef : defaultsOf params X.env = ([], []) := by rfl)
    (hst : starEach [.Lambda params body scope lpos] X.env = (false, eval (.Lambda params body scope lpos) X.env) :: starEach [] X.env := by rfl) : WSs Z X (.Assign [.Name x p1] (.List [.Lambda params body scope lpos] p2) p3 :: rest) env P := fun pins s σ H F O I b o => by
  refine (pss_cons (ps_set hN hi hx (pe_lst (pa_cons (pe_lamK (Tq := Tq) TB hcode hu L hdef) pa_nil hst)) hs hf) (pss_later (Tq := Tq))).run pins s σ H (endsOf Z H F O P) I ?_
  refine ⟨b.tabs.tabs _ hmT (lam_ne _), fun f c' pm ctv H1 eN al tm td hn => ?_⟩
  obtain ⟨b2, o2, fr2⟩ := lam_grow (x := LamK f (lamO (X.env.qual ++ "<lambda>") params body scope X.env.cells pm c' ctv)) b o hmT (lam_ne _) eN al tm hn
  refine ⟨by simp [sizeLine_eq], fun a ha => ?_⟩
  have nv : NewV (upd F f (LamK f (lamO (X.env.qual ++ "<lambda>") params body scope X.env.cells pm c' ctv))) (upd H1 f (LamK f (lamO (X.env.qual ++ "<lambda>") params body scope X.env.cells pm c' ctv))) (fun t => t = lsL a [(f, lamO (X.env.qual ++ "<lambda>") params body scope X.env.cells pm c' ctv)]) (.ref a) (upd (upd H1 f (LamK f (lamO (X.env.qual ++ "<lambda>") params body scope X.env.cells pm c' ctv))) a (.lst [.ref f])) :=
    ⟨_, [a], _, Same.refl _, same_new ha, b2.sub.trans (same_new ha), fun _ z => .inl z, List.nodup_cons.mpr ⟨fun z => (nomatch z), List.nodup_nil⟩, fun c hc => by rw [List.mem_singleton.mp hc]; exact ⟨ha, b2.sub.free ha⟩, lsL_ow upd_same (fun p hp => by rw [List.mem_singleton.mp hp]; exact upd_same), rfl⟩
  obtain ⟨F3, O3, r, e3, b3, st3, fr3, rfl, rfl⟩ := nv.post (P := fun r e => r = .t (lsL a [(f, lamO (X.env.qual ++ "<lambda>") params body scope X.env.cells pm c' ctv)]) ∧ e = env) b2 o2 (fun t et => by subst et; exact ⟨rfl, rfl⟩)
  obtain ⟨F4, O4, e4, b4, o4, fr4, q⟩ := storeR_ok (i := i) (k := fun e2 => e2 = e3.set i (some (lsL a [(f, lamO (X.env.qual ++ "<lambda>") params body scope X.env.cells pm c' ctv)]))) b3 st3 ⟨hlt, rfl⟩
  subst q
  have tq : TabM Tq H1 (upd (upd H1 f (LamK f (lamO (X.env.qual ++ "<lambda>") params body scope X.env.cells pm c' ctv))) a (.lst [.ref f])) := (tab_new hn).trans (tab_new ha)
  have td3 := (tq _ hmT (tm _ hmT (b.tabs.tabs _ hmT (lam_ne _))).1).2 c' td
  exact ⟨⟨_, F4, O4, b4.tabs⟩, _, F4, O4, P, b4.entry, o4, h _ a f c' pm ctv b4.abs.tb td3, endsOf.later b b4 ((fr2.trans fr3).trans fr4)⟩
/-- x.append(lambda: ..) -/
theorem wss_lamA (i : Nat) {x : Str} {a : Addr} {fs : List (Addr × Obj)} (he : env[i]? = some (some (lsL a fs))) (hz : fs.length < 1000) (TB : LamX.TabB X.base X.mg c Pt) (hcode : X.env.code = .ref c) (hmT : (Pt, X.env.qual ++ "<lambda>") ∈ Tq) (hu : ∀ p ∈ Tq, p.1 = Pt → p.2 = X.env.qual ++ "<lambda>") (L : LamX.LamS X.env.scope scope)
    (h : ∀ (Z' : Zb Tq) (f c' : Addr) (pm ctv : Value), TabM Tq Z.H Z'.H → Told Z'.H Pt c' → WSs Z' X rest (env.set i (some (lsL a (fs ++ [(f, lamO (X.env.qual ++ "<lambda>") params body scope X.env.cells pm c' ctv)])))) P)
    (hi : X.N[i]? = some x := by rfl) (hv : Vis X.env.scope x := by first | exact Or.inl rfl | exact Or.inr (Or.inl rfl) | exact Or.inr (Or.inr rfl)) (hd : (x == ("__debug__" : Str)) = false := by decide) (hcd : (x == ("__classdict__" : Str)) = false := by decide)
    (hdef : defaultsOf params X.env = ([], []) := by rfl)
    (hbase : attributeBase (.Name x p1) "append" X.env (eval (.Name x p1) X.env) = eval (.Name x p1) X.env := by rfl)
    (hfew : ((backTo p4 (starEach [.Lambda params body scope lpos] X.env)).all (fun x => !x.1) && (backToKw p4 (keywordEach [] X.env)).all (fun x => x.1.isSome)
      && decide (([.Lambda params body scope lpos] : List Expr).length + ([] : List Keyword).length + (if ([] : List Keyword).isEmpty then 0 else 1) < 30)) = true := by rfl)
    (hline : (p3.endLine == p4.line) = true := by rfl) (hst : starEach [.Lambda params body scope lpos] X.env = (false, eval (.Lambda params body scope lpos) X.env) :: starEach [] X.env := by rfl) (hpl : (backTo p4 (starEach [] X.env)).any (·.1) = false := by rfl)
    (hsw : swapsWith (.Call (.Attribute (.Name x p1) "append" p3) [.Lambda params body scope lpos] [] p4) none p5.line X.env = pure false := by rfl) :
    WSs Z X (.Expr (.Call (.Attribute (.Name x p1) "append" p3) [.Lambda params body scope lpos] [] p4) p5 :: rest) env P := fun pins s σ H F O I b o => by
  refine (pss_cons (ps_expr (pe_bm PySem.F.plainAttrs_list PySem.F.slot_list_append PySem.F.type_list_append mt_append (pe_var (pos := p1) hi hv hd hcd) (pa_cons (pe_lamK (Tq := Tq) TB hcode hu L hdef) pa_nil hst) hbase hfew hline hst hpl) hsw) (pss_later (Tq := Tq))).run pins s σ H (endsOf Z H F O P) I ?_
  obtain ⟨w, hw, Oj, O', h1, h2, h3⟩ := o.focusI he
  cases h1 with
  | ob hφ _ =>
  obtain ⟨rfl, rfl, hL, hfs⟩ := hφ
  refine ⟨.ref a, hw, .inl ⟨rfl, _, SqL.of hL⟩, b.tabs.tabs _ hmT (lam_ne _), fun f c' pm ctv H1 eN al tm td hn => ?_⟩
  obtain ⟨b2, o2, fr2⟩ := lam_grow (x := LamK f (lamO (X.env.qual ++ "<lambda>") params body scope X.env.cells pm c' ctv)) b o hmT (lam_ne _) eN al tm hn
  obtain ⟨w2, hw2, Oj2, O2', g1, g2, g3⟩ := o2.focusI he
  cases g1 with
  | ob hφ2 _ =>
  obtain ⟨rfl, rfl, hL2, hfs2⟩ := hφ2
  have nd := g2.nodup b2.nd
  have ha : a ∈ O := g2.mem_iff.mpr (List.mem_append_left _ List.mem_cons_self)
  have hn2 : ∀ c ∈ O2', c ≠ a := fun c hc z => (List.nodup_append.mp nd).2.2 a List.mem_cons_self c hc z.symm
  have hfF : ∀ p ∈ fs ++ [(f, lamO (X.env.qual ++ "<lambda>") params body scope X.env.cells pm c' ctv)], upd F f (LamK f (lamO (X.env.qual ++ "<lambda>") params body scope X.env.cells pm c' ctv)) p.1 = some (LamK p.1 p.2) := fun p hp => by
    rcases List.mem_append.mp hp with z | z
    · exact hfs2 p z
    · rw [List.mem_singleton.mp z]; exact upd_same
  refine ⟨a, _, .ref f, rfl, rfl, hL2, by rw [List.length_map, sizeLine_eq]; omega, ?_⟩
  have eL : (fs.map fun p => V.ref p.1) ++ [V.ref f] = (fs ++ [(f, lamO (X.env.qual ++ "<lambda>") params body scope X.env.cells pm c' ctv)]).map fun p => V.ref p.1 := by rw [List.map_append]; rfl
  rw [eL]
  obtain ⟨O4, q1, q3⟩ := g3 _ _ [a] (lsL a (fs ++ [(f, lamO (X.env.qual ++ "<lambda>") params body scope X.env.cells pm c' ctv)])) (Same.refl _) (fun c hc => upd_ne (hn2 c hc)) (lsL_ow (F := upd F f (LamK f (lamO (X.env.qual ++ "<lambda>") params body scope X.env.cells pm c' ctv))) (H := upd (upd H1 f (LamK f (lamO (X.env.qual ++ "<lambda>") params body scope X.env.cells pm c' ctv))) a (.lst ((fs ++ [(f, lamO (X.env.qual ++ "<lambda>") params body scope X.env.cells pm c' ctv)]).map fun p => V.ref p.1))) upd_same hfF)
  have pm4 : O.Perm O4 := g2.trans q3.symm
  have fr4 : Frm Tq (upd H1 f (LamK f (lamO (X.env.qual ++ "<lambda>") params body scope X.env.cells pm c' ctv))) (upd F f (LamK f (lamO (X.env.qual ++ "<lambda>") params body scope X.env.cells pm c' ctv))) O (upd (upd H1 f (LamK f (lamO (X.env.qual ++ "<lambda>") params body scope X.env.cells pm c' ctv))) a (.lst ((fs ++ [(f, lamO (X.env.qual ++ "<lambda>") params body scope X.env.cells pm c' ctv)]).map fun p => V.ref p.1))) (upd F f (LamK f (lamO (X.env.qual ++ "<lambda>") params body scope X.env.cells pm c' ctv))) O4 :=
    ⟨Same.refl _, fun c x e _ n => by rw [upd_ne fun z => n (by rw [z]; exact ha)]; exact e, fun c e => by
      by_cases z : c = a
      · subst z; rw [upd_same]; exact fun z => nomatch z
      · rw [upd_ne z]; exact e, fun c e => .inl e, fun c hc => .inl (pm4.mem_iff.mpr hc), tab_own hL2⟩
  have da := b2.dis a ha
  have b4 : Bas Z (upd F f (LamK f (lamO (X.env.qual ++ "<lambda>") params body scope X.env.cells pm c' ctv))) (upd (upd H1 f (LamK f (lamO (X.env.qual ++ "<lambda>") params body scope X.env.cells pm c' ctv))) a (.lst ((fs ++ [(f, lamO (X.env.qual ++ "<lambda>") params body scope X.env.cells pm c' ctv)]).map fun p => V.ref p.1))) O4 := by
    refine ⟨fun c x e => ?_, pm4.nodup b2.nd, fun c hc => b2.dis c (pm4.mem_iff.mpr hc), b2.abs.trans fr4⟩
    rw [upd_ne fun z => by rw [z, da] at e; cases e]
    exact b2.sub c x e
  have tq : TabM Tq H1 (upd (upd H1 f (LamK f (lamO (X.env.qual ++ "<lambda>") params body scope X.env.cells pm c' ctv))) a (.lst ((fs ++ [(f, lamO (X.env.qual ++ "<lambda>") params body scope X.env.cells pm c' ctv)]).map fun p => V.ref p.1))) := (tab_new hn).trans (tab_own hL2)
  have td3 := (tq _ hmT (tm _ hmT (b.tabs.tabs _ hmT (lam_ne _))).1).2 c' td
  exact ⟨⟨_, _, O4, b4.tabs⟩, _, _, O4, P, b4.entry, q1, h _ f c' pm ctv b4.abs.tb td3, endsOf.later b b4 (fr2.trans fr4)⟩
end
end QL

/-! QYB: a list of lambdas walked by a comprehension: each is handed to a def that calls it. -/
namespace QL
open PySem PySem.Spec PyProof.Rows L2
/-- a lambda whose object is known: it holds all that its maker's names hold -/
def lamKT (σ : L2.St) (f : Addr) (ob : Obj) (e : Env) : T := .ob none fun F H O v => v = .ref f ∧ F f = some (LamK f ob) ∧ OwE F H O σ e
theorem lamKT_ow {F H : Hp} {O : List Addr} {σ : L2.St} {f : Addr} {ob : Obj} {e : Env} (hf : F f = some (LamK f ob)) (o : OwE F H O σ e) : Ow F H O (.ref f) (lamKT σ f ob e) :=
  .ob ⟨rfl, hf, o⟩ ⟨fun F H F' H' O v ⟨h1, h2, h3⟩ s k => ⟨h1, s _ _ h2, h3.stay s k⟩, fun F H O v ⟨_, _, h2⟩ b hb => h2.held b hb, fun F H O v b _ e => nomatch e⟩
section
variable {Tq : List (Addr × Str)} {Z : Zb Tq} {X : Cx} {pins : List (Addr × Obj)} {σ : L2.St} {H : Hp} {s : Shared}
/-- a() in the def that got the lambda, its object known -/
theorem w_actK {Ng : List Str} {qg : Str} {st : Stmt} {g f c' Pt : Addr} {cdg pm ctv : Value} {Eg : XK} {params : Arguments} {body : Expr} {scope : Scope} {k i : Nat} {a : Str} {LB : LamB}
    (I : Inv X pins σ H s) (L : LamX.LamS X.env.scope scope) (hm : (Pt, X.env.qual ++ "<lambda>") ∈ Tq) (td : Told Z.H Pt c')
    (hbind : bindArgs (PySem.W.kla_fn "<lambda>" (X.env.qual ++ "<lambda>") params body scope (cloFrom X.env.cells scope.names []) pm (.ref c') ctv) ⟨[], []⟩ = pure [])
    (hr : Room (k + 1) (BX X.prog X.w X.K X.mg X.base Ng qg st g cdg X.A X.stack s H Eg).A) (hgd : X.A.guards = some [])
    (hbody : ∀ (A : Around) (outer : List PySem.Env) (s : Shared) (H : Hp) (E : XK) (Zl : Zb Tq) (e : Env) (Pl : R → Env → Prop) (ET : Ex → Env → Prop), Room k (LamX.lamCx X A outer s H E scope f c').A → (LamX.lamCx X A outer s H E scope f c').A.guards = some [] →
      Takes (LamX.lamCx X A outer s H E scope f c') (wxOf Zl ET) → LB e (fun t e' => Pl (.t t) e') ET → WE Zl (LamX.lamCx X A outer s H E scope f c') body e Pl)
    (hD : ∀ e Q E, LB e Q E → LB e Q fun ex e' => Dom e e' ∧ E ex e') (hN : Ng[i]? = some a) (hv : Vis (defScope st) a) (hd : (a == ("__debug__" : Str)) = false := by decide) (hcd : (a == ("__classdict__" : Str)) = false := by decide) :
    Act Z (BX X.prog X.w X.K X.mg X.base Ng qg st g cdg X.A X.stack s H Eg) a i (lamKT σ f (lamO (X.env.qual ++ "<lambda>") params body scope X.env.cells pm c' ctv)) LB := by
  intro Z' pn xe p1 p2 env e P ET tm tk he hL pinsZ sZ σZ HZ F O IZ b o
  have hL := hD _ _ _ hL
  obtain ⟨w, hw, Oj, O', h1, h2, h3⟩ := o.focusI he
  cases h1 with
  | ob hφ hst =>
  obtain ⟨ew, hFf, oe⟩ := hφ
  subst ew
  have hc : HZ c' = some (LamX.CodeO c' (X.env.qual ++ "<lambda>")) := ((b.abs.tb _ hm (Z'.tb.tabs _ hm (lam_ne _))).2 c' ((tm _ hm (Z.tb.tabs _ hm (lam_ne _))).2 c' td)).code (b.tabs.tabs _ hm (lam_ne _))
  have bl := (b.perm h2).left.entry
  have ex : ∀ c ∈ O', Held HZ c := fun c hc => o.held c (h2.mem_iff.mpr (List.mem_append_right _ hc))
  refine wpAny_Call_Name_kw (thn ((pe_var (pos := p1) (i := i) hN hv hd hcd).run pinsZ sZ σZ HZ (fun v H1 => v = .ref f ∧ H1 = HZ) IZ ⟨.ref f, hw, rfl, rfl⟩) fun u s1 ⟨v, H1, I1, r1, q1⟩ => ?_)
  obtain ⟨ev, eH⟩ := q1
  subst ev
  rw [eH] at I1
  obtain rfl : u = Value.ref f := r1
  have of1 : s1.heap.get? f = some (PySem.W.kla_obj "<lambda>" (X.env.qual ++ "<lambda>") params body scope (cloFrom X.env.cells scope.names []) pm c' ctv) := (I1.hok f _ (b.sub _ _ hFf)).1
  refine PySem.W.callWith_F0 ⟨_, _, _, _, of1⟩ ?_
  have un : Un (frs X.stack) [] H HZ s.heap s1.heap := I1.base
  obtain ⟨⟨oc, vs, t, hoc, hdc, hvc⟩, _, _⟩ := I1.hok c' _ hc
  -- what the body leaves, put back into the slot
  have back : ∀ {F' H' : Hp} {O1 O2 : List Addr} {e' : Env}, Bas ⟨HZ, F, Oj, (b.perm h2).left.tabs⟩ F' H' (O1 ++ O2) → OwE F' H' O1 σ e' →
      ∃ O3, OwE F' H' O3 σZ (env.set i (some (lamKT σ f (lamO (X.env.qual ++ "<lambda>") params body scope X.env.cells pm c' ctv) e'))) ∧ Bas Z' F' H' (O3 ++ O2) ∧ Frm Tq HZ F O H' F' (O3 ++ O2) := fun {F' H' O1 O2 e'} b' o' => by
    have fr := b'.abs
    have b3 := Bas.frame fr (b.perm h2) b' ex
    have keep := fr.rest (R := O') (h2.nodup b.nd) ex
    obtain ⟨O3, q1, q2⟩ := h3 F' H' O1 _ fr.fz keep (lamKT_ow (fr.fz _ _ hFf) o')
    have p4 : ((O1 ++ O2) ++ O').Perm (O3 ++ O2) := by
      have e1 : ((O1 ++ O2) ++ O').Perm ((O1 ++ O') ++ O2) := by
        rw [List.append_assoc, List.append_assoc]
        exact List.perm_append_comm.append_left O1
      exact e1.trans (q2.symm.append_right O2)
    exact ⟨O3, q1, b3.perm p4, (fr.frame (R := O')).perm (fun c => h2.symm.mem_iff) (fun c hc => p4.mem_iff.mpr hc)⟩
  have rc : codeAny (model X.prog X.w) (X.A.deeper (envOfC qg (defScope st) s.heap.objs.size g cdg)) (.call (.ref f) ⟨[], []⟩) (CR (L2.CX X.prog X.w) (envOfC qg (defScope st) s.heap.objs.size g cdg :: X.stack) X.prog X.w HZ s1
      (Post ⟨HZ, F, Oj, (b.perm h2).left.tabs⟩ σ HZ F Oj fun r e' => match r with | .t t => P (.t t) (env.set i (some (lamKT σ f (lamO (X.env.qual ++ "<lambda>") params body scope X.env.cells pm c' ctv) e'))) | .bor _ _ _ => False)
      (fun cls d H' => ∃ F' O1 e' ex, Bas ⟨HZ, F, Oj, (b.perm h2).left.tabs⟩ F' H' O1 ∧ OwE F' H' O1 σ e' ∧ ExAt F' ex cls d ∧ ET ex (env.set i (some (lamKT σ f (lamO (X.env.qual ++ "<lambda>") params body scope X.env.cells pm c' ctv) e'))))) s1 := by
    refine PySem.W.kla_callFunE hr.depth of1 rfl L.co L.gen rfl ⟨c', oc, vs, t, rfl, hoc, hdc, hvc⟩ ?_
    rw [hbind]
    refine wpAny_pure (wpAny_newFunctionEnv (fun y hy => (L.own y hy).2) (fun y hy => absurd hy (by simp)) (fun h₁ hns hsb => ⟨I1.nolimit.fresh _ hsb, ?_⟩) L.kind)
    show codeAny _ _ (.expr body (LamX.lamEnv X scope s1.heap.objs.size f c')) _ _
    have kp : ∀ b o, s1.heap.get? b = some o → h₁.get? b = some o := fun b o e => hsb.extBut b o (Nat.ne_of_lt (Heap.lt_size e)) (Heap.get?_push_of_some _ e)
    generalize hE : (fun (cls : Value) (d : Option Addr) (H' : Hp) => ∃ F' O1 e' ex, Bas ⟨HZ, F, Oj, (b.perm h2).left.tabs⟩ F' H' O1 ∧ OwE F' H' O1 σ e' ∧ ExAt F' ex cls d ∧ ET ex (env.set i (some (lamKT σ f (lamO (X.env.qual ++ "<lambda>") params body scope X.env.cells pm c' ctv) e')))) = EE
    have J : Inv (LamX.lamCx X (X.A.deeper (envOfC qg (defScope st) s.heap.objs.size g cdg)) (envOfC qg (defScope st) s.heap.objs.size g cdg :: X.stack) s1 HZ EE scope f c') [] σ HZ { s1 with heap := h₁, toks := s1.toks + ([] : List (Str × Value)).length } :=
      LamX.lam_start2 I L I1.env0 hr.hd un hns kp
    have tkl : Takes (LamX.lamCx X (X.A.deeper (envOfC qg (defScope st) s.heap.objs.size g cdg)) (envOfC qg (defScope st) s.heap.objs.size g cdg :: X.stack) s1 HZ EE scope f c') (wxOf ⟨HZ, F, Oj, (b.perm h2).left.tabs⟩ fun ex e' => Dom e e' ∧ ET ex (env.set i (some (lamKT σ f (lamO (X.env.qual ++ "<lambda>") params body scope X.env.cells pm c' ctv) e')))) := by
      refine (takes_of (X := LamX.lamCx X (X.A.deeper (envOfC qg (defScope st) s.heap.objs.size g cdg)) (envOfC qg (defScope st) s.heap.objs.size g cdg :: X.stack) s1 HZ EE scope f c') (E := EE) rfl rfl rfl rfl).imp fun cls d σ' H' ⟨F', O1, e', exx, b', o', xa, dm, q⟩ => ?_
      subst hE
      exact ⟨F', O1, e', exx, b', OwE.dom b'.abs.fz oe o' dm, xa, q⟩
    refine PySem.W.kla_codeExpr (wpAny_mono (hbody _ _ s1 HZ EE ⟨HZ, F, Oj, (b.perm h2).left.tabs⟩ e (fun r e' => match r with | .t t => P (.t t) (env.set i (some (lamKT σ f (lamO (X.env.qual ++ "<lambda>") params body scope X.env.cells pm c' ctv) e'))) | .bor _ _ _ => False) _ (hr.deeper _) hgd tkl hL [] _ _ HZ F Oj J bl oe) (fun v s' hq => ?_) fun e s' hq => hq)
    obtain ⟨w', H', J', rv, q⟩ := hq
    exact ⟨w', H', J'.os, J'.bare, J'.base, J'.hok, rv, q⟩
  refine wpAny_call (codeAny_mono rc fun r s' hq => ?_)
  cases r with
  | error e =>
    refine tk e s' (XE.of_call I1 (fun cls d H' hE => ?_) hq)
    obtain ⟨F', O1, e', exx, b', o', xa, q⟩ := hE
    obtain ⟨O3, q1, q2, _⟩ := back (O2 := []) (by rw [List.append_nil]; exact b') o'
    rw [List.append_nil] at q2
    exact ⟨F', O3, _, exx, q2, q1, xa, q⟩
  | ok fl =>
    cases fl with
    | ret u =>
      obtain ⟨v, H', I3, rv, F', O1, r, e', b', st', fr', q⟩ := I1.after hq
      cases r with
      | bor _ _ _ => exact q.elim
      | t t =>
        obtain ⟨O2, O4, rfl, o', w'⟩ := st'
        obtain ⟨O3, q1, q2, q3⟩ := back b' o'
        exact ⟨v, H', I3, rv, F', O3 ++ O4, .t t, _, q2, ⟨O3, O4, rfl, q1, w'⟩, q3, q⟩
    | next => exact False.elim hq
    | brk => exact False.elim hq
    | cont => exact False.elim hq
end
section
variable {Tq : List (Addr × Str)} {Z : Zb Tq} {X : Cx} {env : Env} {P : R → Env → Prop} {pins : List (Addr × Obj)} {σ : L2.St} {H F : Hp} {O : List Addr} {s : Shared}
/-- the def called with a known lambda -/
theorem lam_run {k : Nat} {x a : Str} {f c' Pt : Addr} {pm ctv : Value} {tg : Tg} {LB : LamB} {params : Arguments} {body : Expr} {scope : Scope} (G : GvL X.prog X.w X.K X.mg X.base Tq (k + 1) x a tg)
    (I : Inv X pins σ H s) (b : Bas Z F H O) (o : OwE F H O σ env) (hF : F f = some (LamK f (lamO (X.env.qual ++ "<lambda>") params body scope X.env.cells pm c' ctv))) (td : Told H Pt c') (hmT : (Pt, X.env.qual ++ "<lambda>") ∈ Tq) (hr : Room (k + 2) X.A) (hgd : X.A.guards = some [])
    (L : LamX.LamS X.env.scope scope)
    (hbody : ∀ (A : Around) (outer : List PySem.Env) (s : Shared) (H : Hp) (E : XK) (f c' : Addr) (Zl : Zb Tq) (e : Env) (Pl : R → Env → Prop) (ET : Ex → Env → Prop), Room k (LamX.lamCx X A outer s H E scope f c').A → (LamX.lamCx X A outer s H E scope f c').A.guards = some [] →
      Takes (LamX.lamCx X A outer s H E scope f c') (wxOf Zl ET) → LB e (fun t e' => Pl (.t t) e') ET → WE Zl (LamX.lamCx X A outer s H E scope f c') body e Pl)
    (hD : ∀ e Q E, LB e Q E → LB e Q fun ex e' => Dom e e' ∧ E ex e') (h : tg (LB env) fun t e => P (.t t) e)
    (hbind : ∀ (q : Str) (cl : List (Str × Addr)) (pm cv ctv : Value), bindArgs (PySem.W.kla_fn "<lambda>" q params body scope cl pm cv ctv) ⟨[], []⟩ = pure [] := by intros; rfl)
    (hd : (a == ("__debug__" : Str)) = false := by decide) (hcd : (a == ("__classdict__" : Str)) = false := by decide) :
    ∃ g, X.mg x = some (.ref g) ∧ PySem.W.keepIn X.K (.ref g) = true ∧ codeAny (model X.prog X.w) X.A (.call (.ref g) ⟨[.ref f], []⟩) (CR (L2.CX X.prog X.w) X.stack X.prog X.w H s (Post Z σ H F O P) fun _ _ _ => False) s := by
  obtain ⟨Ng, st, g, fd, Fn, hm, hk, hb, Sg, hNg, hva, hG⟩ := G.ex
  obtain ⟨oc, od, kV, doc, pm', an, cdg, ct, osl, rfl, lk, hcg⟩ := Fn.ex
  refine ⟨g, hm, hk, ?_⟩
  have bc := b.entry
  refine LamX.run_ofS (N := Ng) (ps := [a]) (us := [.ref f]) (vs := [.ref f]) lk hcg Sg hr I.env0 (hb s [.ref f] I.kIn rfl) (.cons rfl .nil) rfl fun hr' => ?_
  have act := w_actK (Z := ⟨H, F, O, b.tabs⟩) (Ng := Ng) (qg := x) (st := st) (g := g) (cdg := cdg) (Eg := fun _ _ _ => False) (i := 0) (a := a) (LB := LB) (k := k) (f := f) (pm := pm) (ctv := ctv) I L hmT td (hbind _ _ _ _ _) hr' hgd
    (fun A outer s H E Zl e Pl ET => hbody A outer s H E f c' Zl e Pl ET) hD hNg hva hd hcd
  have bodyW := hG cdg X.A X.stack s H ⟨H, F, O, b.tabs⟩ (lamKT σ f (lamO (X.env.qual ++ "<lambda>") params body scope X.env.cells pm c' ctv)) LB env (fun t e => P (.t t) e) hr' hgd (passes_of (X := BX X.prog X.w X.K X.mg X.base Ng x st g cdg X.A X.stack s H fun _ _ _ => False) rfl) act h
  have sv : StV F H (O ++ []) [V.ref f] [lamKT σ f (lamO (X.env.qual ++ "<lambda>") params body scope X.env.cells pm c' ctv) env] := .cons (lamKT_ow hF o) .nil
  rw [List.append_nil] at sv
  have o0 : OwE F H O (L2.start Ng [V.ref f]) (startE Ng [lamKT σ f (lamO (X.env.qual ++ "<lambda>") params body scope X.env.cells pm c' ctv) env]) := by
    unfold L2.start startE
    exact sv.start (N := Ng) _
  refine ⟨tSs ⟨H, F, O, b.tabs⟩ (BX X.prog X.w X.K X.mg X.base Ng x st g cdg X.A X.stack s H fun _ _ _ => False) (defBody st), pss_S, startE Ng [lamKT σ f (lamO (X.env.qual ++ "<lambda>") params body scope X.env.cells pm c' ctv) env], F, O, _, bc, o0, bodyW, ?_⟩
  refine ⟨fun σ H' ⟨F', O', e, b', o', fr, q⟩ => q.elim, fun v H' ⟨F', Oa, Ob, σ', t, e, b', o', w', fr, q⟩ => ?_, fun σ H' ⟨F', O', e, b', o', fr, q⟩ => q.elim, fun σ H' ⟨F', O', e, b', o', fr, q⟩ => q.elim⟩
  obtain ⟨e', he, q⟩ := q
  obtain ⟨w, hw, Oj, Od, h1, h2, h3⟩ := o'.focusI he
  cases h1 with
  | ob hφ _ =>
  obtain ⟨_, _, oe⟩ := hφ
  have pmm : (Oa ++ Ob).Perm ((Oj ++ Ob) ++ Od) := (h2.append_right Ob).trans (by
    rw [List.append_assoc, List.append_assoc]
    exact List.perm_append_comm.append_left Oj)
  have bz : Bas Z F' H' (Oa ++ Ob) := ⟨b'.sub, b'.nd, b'.dis, b.abs.trans b'.abs⟩
  exact ⟨F', Oj ++ Ob, .t t, e', (bz.perm pmm).left, ⟨Oj, Ob, rfl, oe, w'⟩, b'.abs.perm (fun _ => Iff.rfl) fun c hc => pmm.mem_iff.mpr (List.mem_append_left _ hc), q⟩
/-- the def x called with the lambda at f: the data d comes, the maker's names stay as they are -/
structure CalL {Tq : List (Addr × Str)} (Z : Zb Tq) (X : Cx) (x : Str) (env : Env) (f : Addr) (ob : Obj) (d : D) : Prop where
  run : ∀ (pins : List (Addr × Obj)) (σ : L2.St) (H F : Hp) (O : List Addr) (s : Shared), Inv X pins σ H s → Bas Z F H O → OwE F H O σ env → F f = some (LamK f ob) →
    ∃ g, X.mg x = some (.ref g) ∧ PySem.W.keepIn X.K (.ref g) = true ∧ codeAny (model X.prog X.w) X.A (.call (.ref g) ⟨[.ref f], []⟩) (CR (L2.CX X.prog X.w) X.stack X.prog X.w H s (PostA Z σ H F O fun a e => a = .va d ∧ e = env) fun _ _ _ => False) s
theorem calL {k : Nat} {x a : Str} {f c' Pt : Addr} {pm ctv : Value} {tg : Tg} {LB : LamB} {params : Arguments} {body : Expr} {scope : Scope} {d : D} (G : GvL X.prog X.w X.K X.mg X.base Tq (k + 1) x a tg)
    (td : Told Z.H Pt c') (hmT : (Pt, X.env.qual ++ "<lambda>") ∈ Tq) (hr : Room (k + 2) X.A) (hgd : X.A.guards = some []) (L : LamX.LamS X.env.scope scope)
    (hbody : ∀ (A : Around) (outer : List PySem.Env) (s : Shared) (H : Hp) (E : XK) (f c' : Addr) (Zl : Zb Tq) (e : Env) (Pl : R → Env → Prop) (ET : Ex → Env → Prop), Room k (LamX.lamCx X A outer s H E scope f c').A → (LamX.lamCx X A outer s H E scope f c').A.guards = some [] →
      Takes (LamX.lamCx X A outer s H E scope f c') (wxOf Zl ET) → LB e (fun t e' => Pl (.t t) e') ET → WE Zl (LamX.lamCx X A outer s H E scope f c') body e Pl)
    (hD : ∀ e Q E, LB e Q E → LB e Q fun ex e' => Dom e e' ∧ E ex e') (h : tg (LB env) fun t e => toA (.t t) fun a => a = .va d ∧ e = env)
    (hbind : ∀ (q : Str) (cl : List (Str × Addr)) (pm cv ctv : Value), bindArgs (PySem.W.kla_fn "<lambda>" q params body scope cl pm cv ctv) ⟨[], []⟩ = pure [] := by intros; rfl)
    (hd : (a == ("__debug__" : Str)) = false := by decide) (hcd : (a == ("__classdict__" : Str)) = false := by decide) : CalL Z X x env f (lamO (X.env.qual ++ "<lambda>") params body scope X.env.cells pm c' ctv) d := ⟨fun pins σ H F O s I b o hF => by
  have td2 := (b.abs.tb _ hmT (Z.tb.tabs _ hmT (lam_ne _))).2 c' td
  obtain ⟨g, h1, h2, h3⟩ := lam_run (P := fun r e => toA r fun a => a = .va d ∧ e = env) G I b o hF td2 hmT hr hgd L hbody hD h hbind hd hcd
  refine ⟨g, h1, h2, codeAny_mono h3 fun r s2 hq => ?_⟩
  cases r with
  | error e => exact hq
  | ok fl =>
    cases fl with
    | ret u =>
      obtain ⟨v, H', q1, q2, q3, q4, q5, q6⟩ := hq
      exact ⟨v, H', q1, q2, q3, q4, q5, q6.toA⟩
    | next => exact hq
    | brk => exact hq
    | cont => exact hq⟩
end
end QL

/-! QYC: [g(f) for f in fs], fs a list of lambdas that the same def made: its own frame is known at each turn. -/
namespace QL
open PySem PySem.Spec PyProof.Rows L2
section
variable {Tq : List (Addr × Str)} {Z : Zb Tq} {X : Cx} {env : Env} {P : R → Env → Prop} {scope : Scope} {pos p1 p2 p3 p4 p5 : Pos}
theorem w_lcL (i j : Nat) {x y z : Str} {a : Addr} {fs : List (Addr × Obj)} {ds : List D} (he : env[i]? = some (some (lsL a fs))) (hlen : fs.length = ds.length) (hz : ds.length ≤ 1000)
    (hcal : ∀ (m : Nat) p d, fs[m]? = some p → ds[m]? = some d → CalL Z X x env p.1 p.2 d) (h : ∀ p, P (.t (.lst p ds)) env)
    (hc : X.calm = true) (hN : X.N.Nodup) (ok : BlkOk X.N X.env.scope scope [(y, j)]) (hg : Blk X scope fun X' => PG X' (.Name y p4) (gName j)) (hj : j < env.length) (hyN : X.N[j]? = some y) (hzN : X.N[i]? = some z) (hzv : Vis X.env.scope z)
    (hyv : Blk X scope fun X' => Vis X'.env.scope y) (hxg : Blk X scope fun X' => Gl X' x) (hst : Blk X scope fun X' => starEach [.Name y p2] X'.env = (false, eval (.Name y p2) X'.env) :: starEach [] X'.env) (hpl : Blk X scope fun X' => (backTo p3 (starEach [] X'.env)).any (·.1) = false)
    (hdx : (x == ("__debug__" : Str)) = false := by decide) (hdy : (y == ("__debug__" : Str)) = false := by decide) (hcy : (y == ("__classdict__" : Str)) = false := by decide) (hdz : (z == ("__debug__" : Str)) = false := by decide) (hcz : (z == ("__classdict__" : Str)) = false := by decide)
    (hfs : ∀ v, foldedSetIterable (.Name z p5) X.env v = pure v := by intro _; rfl) :
    WE Z X (.ListComp (.Call (.Name x p1) [.Name y p2] [] p3) [⟨.Name y p4, .Name z p5, [], 0⟩] scope pos) env P := by
  intro pins s σ H F O I b o
  rw [eval_ListComp]
  have hfree : ∀ q ∈ scope.names, q.2 = .free → ∃ c, X.env.cells.lookup q.1 = some c := fun q hq e => by
    rcases ok.free q hq e with k | k
    · exact I.ok.has _ (.inl k)
    · exact I.ok.has _ (.inr k)
  obtain ⟨w, hw, Oj, O', h1, h2, h3⟩ := o.focusI he
  cases h1 with
  | ob hφ _ =>
  obtain ⟨rfl, rfl, hL, _⟩ := hφ
  refine wpAny_comprehension_free (use := none) rfl hfs (closure_ok hfree) ok.kind (fun q hq e => by rw [ok.uniq q hq, e])
    (thn ((pi_list (tg := .Name y p4) (pe_var (pos := p5) hzN hzv hdz hcz)).run pins s σ H (fun J H1 => J = Itl X.K a ∧ H1 = H) I ⟨.ref a, hw, a, rfl, ⟨_, SqL.of hL⟩, rfl, rfl⟩) fun xv s1 hx => thn hx fun itv s2 q2 => ?_)
  obtain ⟨it, fp, tn, J, H2, e, I2, T, st2, f2, eJ, eH⟩ := q2
  subst e
  subst eJ
  subst eH
  refine wpAny_newObj_type (newEnv_comp ?_) (by show 0 ≤ sizeLine; decide)
  generalize hD : s2.heap.objs.size = D
  have hDn : H2 D = none := I2.hok.fresh (Nat.le_of_eq hD)
  generalize hs3 : ({ s2 with heap := s2.heap.push { cls := .type "list", data := .seq ([] : List Value).toArray } } : Shared) = s3
  have I3 : Inv X pins σ (upd H2 D (.lst [])) s3 := by
    rw [← hs3]
    refine I2.laid (t' := s2.toks) (fun b o e => Heap.get?_push_of_some _ e) (Nat.le_of_eq hD) ⟨Nat.zero_le _, [], 0, .nil, ?_⟩
    rw [← hD]
    exact Heap.get?_push_size _ rfl
  have h3' : s3.heap = s2.heap.push { cls := .type "list", data := .seq ([] : List Value).toArray } := by rw [← hs3]
  have f3 : ∀ c ∈ fp, FpOk X pins (upd H2 D (.lst [])) c ∧ c < s3.heap.objs.size := fun c hc' => by
    obtain ⟨oo, eo, _⟩ := T.obj _ _ st2 c hc'
    have hlt := Heap.lt_size eo
    refine ⟨⟨?_, (f2 c hc').2⟩, by rw [h3', Heap.size_push]; exact Nat.lt_succ_of_lt hlt⟩
    rw [upd_ne (by rw [← hD]; exact Nat.ne_of_lt hlt)]
    exact (f2 c hc').1
  have st3 : tn 0 s3.heap := T.keep _ _ _ st2 fun c _ oo e => by rw [h3']; exact Heap.get?_push_of_some _ e
  have I4 := block_start I3 ok hN f3
  have cIn := fun (s' : Shared) (H' : Hp) => hg s' H' s3.heap.objs.size (cellsFrom (s3.heap.objs.size + 1) scope.names (cloFrom X.env.cells scope.names [])) fp
  have pg := cIn s3 (upd H2 D (.lst []))
  have yv := hyv s3 (upd H2 D (.lst [])) s3.heap.objs.size (cellsFrom (s3.heap.objs.size + 1) scope.names (cloFrom X.env.cells scope.names [])) fp
  have xg := hxg s3 (upd H2 D (.lst [])) s3.heap.objs.size (cellsFrom (s3.heap.objs.size + 1) scope.names (cloFrom X.env.cells scope.names [])) fp
  have sE := hst s3 (upd H2 D (.lst [])) s3.heap.objs.size (cellsFrom (s3.heap.objs.size + 1) scope.names (cloFrom X.env.cells scope.names [])) fp
  have pl := hpl s3 (upd H2 D (.lst [])) s3.heap.objs.size (cellsFrom (s3.heap.objs.size + 1) scope.names (cloFrom X.env.cells scope.names [])) fp
  show codeAny _ _ (.compStart (.ListComp (.Call (.Name x p1) [.Name y p2] [] p3) [⟨.Name y p4, .Name z p5, [], 0⟩] scope pos) 0 (.ref it) (.ref D) (compEnvC scope (cellsFrom (s3.heap.objs.size + 1) scope.names (cloFrom X.env.cells scope.names [])) s3.heap.objs.size X.env))
    (compPost (model X.prog X.w) X.A X.xe none (EP X pins σ (Post Z σ H2 F O P)) (.ref D) s3.heap.objs.size) { s3 with heap := pushCells (s3.heap.push { cls := .type "dict", data := .dict #[] }) scope.names }
  have nfp : ∀ c ∈ fp, (upd H2 D (.lst [])) c = none := fun c hc' => (f3 c hc').1.1
  generalize hce : compEnvC scope (cellsFrom (s3.heap.objs.size + 1) scope.names (cloFrom X.env.cells scope.names [])) s3.heap.objs.size X.env = ce at I4 pg yv xg sE pl ⊢
  have cL : ce.locals = s3.heap.objs.size := by subst hce; rfl
  generalize hH3 : upd H2 D (.lst []) = H3 at I3 I4 pg yv xg sE pl nfp f3
  generalize hs4 : ({ s3 with heap := pushCells (s3.heap.push { cls := .type "dict", data := .dict #[] }) scope.names } : Shared) = s4 at I4 ⊢
  have st4 : tn 0 s4.heap := T.keep _ _ _ st3 fun c _ oo e => by rw [← hs4]; exact pushCells_keeps _ _ _ _ (Heap.get?_push_of_some _ e)
  have stat : ∀ {σ' : L2.St} {H' : Hp} {s' : Shared}, Inv (X.blk s3 H3 scope ce fp) [] σ' H' s' → (∀ c ∈ fp, H' c = none) → ∀ c ∈ fp, FpOk (X.blk s3 H3 scope ce fp) [] H' c := fun {σ' H' s'} I' hn c hc' =>
    ⟨hn c hc', (I'.ok.exf c hc').1, I'.ok.exfs c hc', .inl hc', fun q c2 e => (I'.ok.exf c hc').2 q c2 e, fun p hp => absurd (show p ∈ ([] : List (Addr × Obj)) ++ [] from hp) (by simp)⟩
  -- back in the def's own frame
  have toX : ∀ {pn' : List (Addr × Obj)} {σ' : L2.St} {H' : Hp} {s' : Shared}, Inv (X.blk s3 H3 scope ce fp) pn' σ' H' s' → Inv X pins σ H' s' := fun {pn' σ' H' s'} I' =>
    I3.call' (ch := fp) I'.os I'.base I'.hok I'.bare fun c hc' => ⟨(f3 c hc').1.2.2.2.1, (f3 c hc').1.2.1, (f3 c hc').1.2.2.2.2.1, (f3 c hc').1.2.2.2.2.2⟩
  have hwl : (wipe σ [j]).length = σ.length := wipe_length σ [j]
  have hnO : ∀ c ∈ O, c ≠ D := fun c hc' z => by subst z; exact o.there c hc' hDn
  have fD : F D = none := b.sub.free hDn
  have frS : Frm Tq H2 F O H3 F (O ++ [D]) := by
    rw [← hH3]
    exact ⟨Same.refl _, fun c x e _ _ => same_new hDn c x e, fun c e => by
      by_cases z : c = D
      · subst z; rw [upd_same]; exact fun z => nomatch z
      · rw [upd_ne z]; exact e, fun c e => .inl e, fun c hc' => (List.mem_append.mp hc').elim .inl fun z => .inr (by rw [List.mem_singleton.mp z]; exact hDn), tab_new hDn⟩
  have bS : Bas Z F H3 (O ++ [D]) := ⟨by rw [← hH3]; exact b.sub.trans (same_new hDn), List.nodup_append.mpr ⟨b.nd, List.nodup_cons.mpr ⟨fun z => (nomatch z), List.nodup_nil⟩, fun c hc' c2 h2' z => by
    rw [List.mem_singleton.mp h2'] at z; exact hnO c hc' z⟩, fun c hc' => by
    rcases List.mem_append.mp hc' with z | z
    · exact b.dis c z
    · rw [List.mem_singleton.mp z]; exact fD, b.abs.trans frS⟩
  have oS : OwE F H3 O σ env := by rw [← hH3]; exact o.stay (Same.refl _) fun c hc' => upd_ne (hnO c hc')
  have hDS : H3 D = some (.lst []) := by rw [← hH3]; exact upd_same
  have loop : codeAny (model X.prog X.w) X.A (.compLoop (.ListComp (.Call (.Name x p1) [.Name y p2] [] p3) [⟨.Name y p4, .Name z p5, [], 0⟩] scope pos) 0 (.ref it) (.ref D) ce) (compPost (model X.prog X.w) X.A X.xe none (EP X pins σ (Post Z σ H2 F O P)) (.ref D) s3.heap.objs.size) s4 := by
    refine compLoop_any (fun n s' => ∃ (k : Nat) (HB FB : Hp) (OB : List Addr) (accV : List V), Inv (X.blk s3 H3 scope ce fp) [] (wipe σ [j]) HB s' ∧ tn k s'.heap ∧ (∀ c ∈ fp, HB c = none) ∧ n = fs.length - k ∧ k ≤ fs.length ∧ Bas Z FB HB (OB ++ [D]) ∧ OwE FB HB OB σ env ∧ HB D = some (.lst accV) ∧ RpA FB accV (ds.take k) ∧ Frm Tq H2 F O HB FB (OB ++ [D])) ?_ (fs.length - 0)
      ⟨0, H3, F, O, [], I4, st4, nfp, rfl, Nat.zero_le _, bS, oS, hDS, .nil, frS⟩
    rintro n s5 ⟨k, H5, F5, O5, accV, I5, st5, n5, rfl, hk, b5, o5, hD5, r5, fr5⟩
    obtain ⟨w5, hw5, Oj5, O5', g1, g2, g3⟩ := o5.focusI he
    cases g1 with
    | ob hφ5 _ =>
    obtain ⟨rfl, rfl, hL5, hF5⟩ := hφ5
    by_cases hlt : k < fs.length
    · have hfk : fs[k]? = some fs[k] := List.getElem?_eq_getElem hlt
      have hdk : ds[k]? = some (ds[k]'(by omega)) := List.getElem?_eq_getElem _
      have ti := T.item (X.blk s3 H3 scope ce fp) rfl rfl rfl hc k [] s5 _ H5 (fun _ _ => False) I5 (stat I5 n5) st5 ⟨_, .ref fs[k].1, SqL.of hL5, by rw [List.getElem?_map, hfk]; rfl⟩
      refine thnF ti fun r s6 ⟨u, hr, h6⟩ => ?_
      subst hr
      refine thnF h6 fun _ s7 ⟨xv, H7, I7, r7, y7, st7, n7⟩ => ?_
      obtain ⟨eH7, hx7⟩ := y7
      subst eH7
      have ex7 : V.ref fs[k].1 = xv := by
        have := hx7 _ (SqL.of hL5)
        rw [List.getElem?_map, hfk] at this
        exact Option.some.inj this
      subst ex7
      have I7' := I7.pinned (stat I7 n7) (T.obj _ _ st7)
      refine thnF (pg.run _ s7 _ H7 _ u (fun σ' H' => σ' = (wipe σ [j]).set j (some (.ref fs[k].1)) ∧ H' = H7) I7' r7 ⟨rfl, rfl⟩) fun _ s8 ⟨σ8, H8, I8, eσ, eH8⟩ => ?_
      subst eH8
      subst eσ
      refine thnF ((pts_nil (X := X.blk s3 H3 scope ce fp)).run _ s8 _ H8 (fun b H' => b = true ∧ H' = H8) I8 ⟨rfl, rfl⟩) fun bb s9 ⟨H9, I9, ebb, eH9⟩ => ?_
      subst ebb
      subst eH9
      simp only [if_true]
      -- the call
      have cal := hcal k fs[k] _ hfk hdk
      have hff : F5 fs[k].1 = some (LamK fs[k].1 fs[k].2) := hF5 _ (List.getElem_mem hlt)
      obtain ⟨g, hgm, hgk, _⟩ := cal.run pins σ H9 F5 O5 s9 (toX I9) b5.left o5 hff
      have el : wpAny (model X.prog X.w) X.A (eval (.Call (.Name x p1) [.Name y p2] [] p3) ce) (fun zv s10 => ∃ yv H10, Inv (X.blk s3 H3 scope ce fp) ([] ++ pinsAt fp s7.heap) ((wipe σ [j]).set j (some (.ref fs[k].1))) H10 s10 ∧ RelV yv zv ∧ PostA Z σ H9 F5 O5 (fun a e => a = .va (ds[k]'(by omega)) ∧ e = env) yv H10) (fun _ _ => False) s9 := by
        refine wpAny_Call_Name_kw (ld_glob (X := X.blk s3 H3 scope ce fp) I9 xg hgm ?_ hdx)
        refine PySem.W.callWith_K (h₀ := X.base) I9.ok.mod.kin hgk ?_ (by rfl) (by rfl)
        rw [show starEach [.Name y p2] ce = (false, eval (.Name y p2) ce) :: starEach [] ce from sE]
        show wpAny _ _ (spliced ((false, eval (.Name y p2) ce) :: backTo p3 (starEach [] ce))) _ _ s9
        refine Calls.spliced_cons (thn ((pe_var (X := X.blk s3 H3 scope ce fp) (pos := p2) (i := j) hyN yv hdy hcy).run _ s9 _ H9 (fun v H1 => v = .ref fs[k].1 ∧ H1 = H9) I9 ⟨.ref fs[k].1, by rw [List.getElem?_set_self (by rw [hwl]; have := o.len; omega)], rfl, rfl⟩) fun u1 s10 ⟨v1, H10, I10, r10, ev1, eH10⟩ => ?_)
        subst ev1
        subst eH10
        obtain rfl : u1 = Value.ref fs[k].1 := r10
        refine Calls.spliced_nil ⟨I10.kIn, ?_⟩
        obtain ⟨g', hgm', _, rc⟩ := cal.run pins σ H10 F5 O5 s10 (toX I10) b5.left o5 hff
        rw [hgm] at hgm'
        cases hgm'
        refine wpAny_call (codeAny_mono rc fun r s2 hq => ?_)
        cases r with
        | error e =>
          obtain ⟨_, _, _, _, _, _, _, _, _, _, _, _, q⟩ := hq
          exact q.elim
        | ok fl =>
          cases fl with
          | ret u => exact I10.after hq
          | next => exact False.elim hq
          | brk => exact False.elim hq
          | cont => exact False.elim hq
      refine thnF el fun zv s10 ⟨yv, H10, I10, r10, F6, O6, av, e6, b6, o6, st6, fr6, ea, ee⟩ => ?_
      subst ea
      subst ee
      have rv : Rp F6 yv (ds[k]'(by omega)) := st6
      have dD : ∀ c ∈ [D], Held H9 c := fun c hc' => by rw [List.mem_singleton.mp hc']; exact ⟨_, hD5, fun _ z => nomatch z⟩
      have hD6 : H10 D = some (.lst accV) := fr6.out D _ hD5 (fun _ z => nomatch z) fun z => (List.nodup_append.mp b5.nd).2.2 D z D (List.mem_singleton.mpr rfl) rfl
      have b6D : Bas Z F6 H10 (O6 ++ [D]) := Bas.frame fr6 b5 b6 dD
      have frD6 : Frm Tq H2 F O H10 F6 (O6 ++ [D]) := fr5.trans fr6.frame
      have nD : ∀ c ∈ O6, c ≠ D := fun c hc' z => (List.nodup_append.mp b6D.nd).2.2 c hc' D (List.mem_singleton.mpr rfl) z
      have fD6 : F6 D = none := b6D.dis D (List.mem_append_right _ (List.mem_singleton.mpr rfl))
      have rA6 : RpA F6 accV (ds.take k) := r5.mono fr6.fz
      have hla : accV.length = k := by rw [rA6.len, List.length_take]; omega
      refine app_ok (X := X.blk s3 H3 scope ce fp) I10 hD6 (by rw [hla, sizeLine_eq]; omega) r10 fun s11 I11 => ?_
      have hs : Same F6 (upd H10 D (.lst (accV ++ [yv]))) := fun c x e => by
        have z : c ≠ D := fun z => by subst z; rw [fD6] at e; cases e
        rw [upd_ne z]; exact b6D.sub c x e
      have fr7 : Frm Tq H10 F6 (O6 ++ [D]) (upd H10 D (.lst (accV ++ [yv]))) F6 (O6 ++ [D]) := ⟨Same.refl _, fun c x e _ hn => by
        rw [upd_ne fun z => hn (by rw [z]; exact List.mem_append_right _ (List.mem_singleton.mpr rfl))]; exact e, fun c e => by
        by_cases z : c = D
        · subst z; rw [upd_same]; exact fun z => nomatch z
        · rw [upd_ne z]; exact e, fun c e => .inl e, fun c e => .inl e, tab_own hD6⟩
      have pin' : ∀ c ∈ fp, ∀ oo, s7.heap.get? c = some oo → s11.heap.get? c = some oo ∧ (upd H10 D (.lst (accV ++ [yv]))) c = none := fun c hc' oo e =>
        let z := I11.pin (c, oo) (List.mem_append_right _ (List.mem_append_right _ (mem_pinsAt hc' e)))
        ⟨z.1, z.2.1⟩
      have hw8 : wipe ((wipe σ [j]).set j (some (.ref fs[k].1))) [j] = wipe σ [j] := (wipe_set (List.mem_singleton.mpr rfl)).trans wipe_wipe
      refine ⟨fs.length - (k + 1), by omega, k + 1, _, F6, O6, _, (I11.unpinned (pins := [])).weak (by rw [List.length_set]) (fun m v e => ?_), T.keep _ _ _ st7 fun c hc' oo e => (pin' c hc' oo e).1, fun c hc' => ?_, rfl, hlt,
        ⟨hs, b6D.nd, b6D.dis, b6D.abs.trans fr7⟩, o6.stay (Same.refl _) fun c hc' => upd_ne (nD c hc'), upd_same, ?_, frD6.trans fr7⟩
      · rw [← hw8] at e
        exact (wipe_some e).1
      · obtain ⟨oo, e, _⟩ := T.obj _ _ st7 c hc'
        exact (pin' c hc' oo e).2
      · rw [List.take_add_one, hdk]
        exact rA6.app (.cons rv .nil)
    · have ek : k = fs.length := by omega
      subst ek
      have td := T.done (X.blk s3 H3 scope ce fp) rfl rfl rfl hc fs.length [] s5 _ H5 (fun _ _ => False) I5 (stat I5 n5) st5 ⟨_, SqL.of hL5, by rw [List.length_map]; exact Nat.le_refl _⟩
      refine thnF td fun r s6 ⟨hr, I6⟩ => ?_
      subst hr
      have I7 := toX I6
      have nC : H5 s3.heap.objs.size = none := by
        have z : H5 ce.locals = none := I6.free
        rw [cL] at z
        exact z
      obtain ⟨m, hn, _⟩ := I6.loc
      have hn : s6.heap.Ns ce.locals m := hn
      rw [cL] at hn
      obtain ⟨f0, f1, f2, f3, f4, f5⟩ := I3.fpOk (Nat.le_refl _) nC
      refine ⟨m, hn, fun h'' sb => ⟨.ref D, H5, I7.turned (t' := s6.toks) (fun b o hb e => (sb.2 b hb).trans e) f0 f1 f3 f4 f5, rfl, F5, O5 ++ [D], .t (.lst D ds), env, b5, ⟨O5, [D], rfl, o5, .lst hD5 ?_⟩, fr5, h D⟩⟩
      rw [hlen, List.take_length] at r5
      exact r5
  exact codeAny_compStart_list loop (T.self X.A 0 _ _ _ st4 loop)
end
end QL

/-! QYD: what is told of one lambda of a list, by what it does at the maker's frame as it stands. -/
namespace QL
open PySem PySem.Spec PyProof.Rows L2
section
variable {Tq : List (Addr × Str)} {Z : Zb Tq} {X : Cx} {env : Env}
theorem calLP {k : Nat} {x a : Str} {f c' Pt : Addr} {pm ctv : Value} {tg : Tg} (R : (T → Prop) → (Ex → Prop) → Prop) {params : Arguments} {body : Expr} {scope : Scope} {d : D} (G : GvL X.prog X.w X.K X.mg X.base Tq (k + 1) x a tg)
    (td : Told Z.H Pt c') (hmT : (Pt, X.env.qual ++ "<lambda>") ∈ Tq) (hr : Room (k + 2) X.A) (hgd : X.A.guards = some []) (L : LamX.LamS X.env.scope scope)
    (hbody : ∀ (A : Around) (outer : List PySem.Env) (s : Shared) (H : Hp) (E : XK) (f c' : Addr) (Zl : Zb Tq) (Pl : QL.R → Env → Prop) (ET : Ex → Env → Prop), Room k (LamX.lamCx X A outer s H E scope f c').A → (LamX.lamCx X A outer s H E scope f c').A.guards = some [] →
      Takes (LamX.lamCx X A outer s H E scope f c') (wxOf Zl ET) → R (fun t => Pl (.t t) env) (fun x => ET x env) → WE Zl (LamX.lamCx X A outer s H E scope f c') body env Pl)
    (hm : ∀ Q E E', (∀ x, E x → E' x) → R Q E → R Q E') (hdm : Dom env env) (h : tg (fun Q E => R (fun t => Q t env) fun x => E x env) fun t e => toA (.t t) fun a => a = .va d ∧ e = env)
    (hmo : ∀ (L1 L2 : (T → Env → Prop) → (Ex → Env → Prop) → Prop) Q, (∀ Q E, L1 Q E → L2 Q E) → tg L1 Q → tg L2 Q)
    (hbind : ∀ (q : Str) (cl : List (Str × Addr)) (pm cv ctv : Value), bindArgs (PySem.W.kla_fn "<lambda>" q params body scope cl pm cv ctv) ⟨[], []⟩ = pure [] := by intros; rfl)
    (hd : (a == ("__debug__" : Str)) = false := by decide) (hcd : (a == ("__classdict__" : Str)) = false := by decide) : CalL Z X x env f (lamO (X.env.qual ++ "<lambda>") params body scope X.env.cells pm c' ctv) d :=
  calL (LB := LBa env fun Q E => R (fun t => Q t env) fun x => E x env) G td hmT hr hgd L (fun A outer s H E f c' Zl e Pl ET h1 h2 h3 ⟨h4, h5⟩ => by subst h4; exact hbody A outer s H E f c' Zl Pl ET h1 h2 h3 h5)
    (fun e Q E ⟨h1, h2⟩ => ⟨h1, by subst h1; exact hm _ _ _ (fun x z => ⟨hdm, z⟩) h2⟩) (hmo _ _ _ (fun Q E q => ⟨rfl, q⟩) h) hbind hd hcd
end
end QL

/-! QTDn: {k1: v1, .., kn: vn}, n at most 15, keys apart. -/
namespace QL
open PySem PySem.Spec PyProof.Rows L2
theorem putK_new : ∀ {acc : List (Key × V)} {k : Key} {v : V}, k ∉ acc.map (·.1) → putK acc k v = acc ++ [(k, v)] := fun {acc k v} h => by
  unfold putK
  rw [if_neg]
  intro z
  obtain ⟨x, hx, e⟩ := List.any_eq_true.mp z
  exact h (List.mem_map.mpr ⟨x, hx, of_decide_eq_true e⟩)
theorem merge_new : ∀ {more acc : List (Key × V)}, ((acc ++ more).map (·.1)).Nodup → mergeK acc more = acc ++ more
  | [], acc, _ => (List.append_nil acc).symm
  | (k, v) :: more, acc, h => by
    have h2 : ((acc ++ [(k, v)]) ++ more) = acc ++ ((k, v) :: more) := by simp
    have hk : k ∉ acc.map (·.1) := by
      rw [List.map_append, List.map_cons] at h
      intro z
      exact (List.nodup_append.mp h).2.2 k z k (by simp) rfl
    show mergeK (putK acc k v) more = _
    rw [putK_new hk, merge_new (by rw [h2]; exact h), h2]
theorem rpt_keys {F : Hp} : ∀ {vs : List (Key × V)} {ds : List (Key × D)}, RpT F vs ds → vs.map (·.1) = ds.map (·.1)
  | _, _, .nil => rfl
  | _, _, .cons _ r => by rw [List.map_cons, List.map_cons, rpt_keys r]
section
variable {Tq : List (Addr × Str)} {Z : Zb Tq} {X : Cx} {env : Env} {P : R → Env → Prop} {pos : Pos}
/-- keys and values, one after the other -/
def dspW (Z : Zb Tq) (X : Cx) : List (Expr × Expr) → List (Key × D) → Env → (List (Key × D) → Env → Prop) → Prop
  | [], acc, env, k => k acc env
  | (ke, ve) :: r, acc, env, k => WE Z X ke env fun r1 e1 => ∃ y : Key, r1 = .t (.va (kD y)) ∧ WE Z X ve e1 fun r2 e2 => ∃ d, r2 = .t (.va d) ∧ dspW Z X r (acc ++ [(y, d)]) e2 k
theorem pairs_ok {σ : L2.St} {k : List (Key × D) → Env → Prop} : ∀ (prs : List (Expr × Expr)) {acc : List (Key × D)} {env : Env} {F H : Hp} {O : List Addr} {Q : List (V × V) → Hp → Prop}, Bas Z F H O → OwE F H O σ env → dspW Z X prs acc env k →
    (∀ ps H2 F2 O2 e2 kvs kds, ps = kvs.map (fun (kv : Key × V) => (kV kv.1, kv.2)) → kvs.length = prs.length → Bas Z F2 H2 O2 → OwE F2 H2 O2 σ e2 → Frm Tq H F O H2 F2 O2 → RpT F2 kvs kds → k (acc ++ kds) e2 → Q ps H2) → tPairs (prs.map fun p => (tE Z X p.1, tE Z X p.2)) σ H Q
  | [], acc, env, F, H, O, Q, b, o, h, q => q [] H F O env [] [] rfl rfl b o (Frm.refl _ _ _) .nil (by rw [List.append_nil]; exact h)
  | (ke, ve) :: r, acc, env, F, H, O, Q, b, o, h, q => by
    refine ⟨env, F, O, _, b, o, h, fun x1 H1 ⟨F1, O1, r1, e1, b1, st1, fr1, y1, er1, q1⟩ => ?_⟩
    subst er1
    obtain ⟨Oa, Ob, rfl, o1, w1⟩ := st1
    cases w1 with
    | va rk1 =>
    rw [List.append_nil] at b1 fr1
    have ek1 := rk1.key
    refine ⟨e1, F1, Oa, _, b1, o1, q1, fun x2 H2 ⟨F2, O2, r2, e2, b2, st2, fr2, d1, er2, q2⟩ => ?_⟩
    subst er2
    obtain ⟨Oc, Od, rfl, o2, w2⟩ := st2
    cases w2 with
    | va rv1 =>
    rw [List.append_nil] at b2 fr2
    refine pairs_ok r b2 o2 q2 fun ps H3 F3 O3 e3 kvs kds ep el b3 o3 fr3 rt hk => ?_
    subst ep
    refine q _ H3 F3 O3 e3 ((y1, x2) :: kvs) ((y1, d1) :: kds) (by rw [ek1]; rfl) (by rw [List.length_cons, List.length_cons, el]) b3 o3 ((fr1.trans fr2).trans fr3) (.cons (rv1.mono fr3.fz) rt) ?_
    rw [List.append_assoc] at hk
    exact hk
theorem pps_all {pos : Pos} : ∀ prs : List (Expr × Expr), PPs X pos (prs.map fun p => some p.1) (prs.map (·.2)) (prs.map fun p => (tE Z X p.1, tE Z X p.2))
  | [] => pps_nil
  | _ :: r => pps_cons (pe_E (Z := Z)) (pe_E (Z := Z)) (pps_all r)
theorem w_dictN (prs : List (Expr × Expr)) {ks : List (Option Expr)} {vs : List Expr} (hks : ks = prs.map fun p => some p.1) (hvs : vs = prs.map (·.2)) (h0 : prs ≠ []) (h15 : prs.length ≤ 15)
    (h : dspW Z X prs [] env fun kds e1 => (kds.map (·.1)).Nodup ∧ ∀ p, P (.t (.dic p kds)) e1) : WE Z X (.Dict ks vs pos) env P := by
  subst hks hvs
  refine we_of (pe_disp (pps_all (Z := Z) prs) (by simp) (by simp) (by simpa using h0) (by simpa using h15)) fun σ H F O b o p hp => ?_
  obtain ⟨bp, op, frp⟩ := b.grow o (Same.refl _) (same_new (o := .dK []) hp) (b.sub.trans (same_new hp)) fun _ z => .inl z
  have hpO : p ∉ O := fun z => o.there p z hp
  refine pairs_ok prs bp op h fun ps H4 F4 Og e4 kvs kds ep el b4 o4 fr rt ⟨nd, q4⟩ => ?_
  have hp4 : H4 p = some (.dK []) := fr.out p _ upd_same (fun _ z => nomatch z) hpO
  have fp : F p = none := b.sub.free hp
  have fp4 : F4 p = none := by
    cases z : F4 p with
    | none => rfl
    | some x =>
      rcases fr.newF p (by rw [z]; exact fun z => nomatch z) with y | y | y
      · exact absurd fp y
      · rw [upd_same] at y; cases y
      · exact absurd y hpO
  have pa : p ∉ Og := fun z => (fr.newO p z).elim hpO fun y => by rw [upd_same] at y; cases y
  refine ⟨hp4, kvs, ep, by omega, ?_⟩
  rw [merge_new (acc := []) (by rw [List.nil_append, rpt_keys rt]; simpa using nd), List.nil_append]
  generalize hob : (HO.dK kvs : HO) = ob
  have s1 : Same F4 (upd H4 p ob) := fun c y z => by
    rw [upd_ne fun y => by rw [y, fp4] at z; cases z]
    exact b4.sub c y z
  have keep : ∀ c ∈ Og, upd H4 p ob c = H4 c := fun c hc => upd_ne fun z => pa (z ▸ hc)
  have fr2' : Frm Tq H F O (upd H4 p ob) F4 (Og ++ [p]) := by
    have f := frp.trans fr
    refine ⟨f.fz, fun c y hc nt n => ?_, fun c hc => ?_, fun c hc => ?_, fun c hc => ?_, f.tb.trans (tab_own hp4)⟩
    · have : c ≠ p := fun z => by rw [z, hp] at hc; cases hc
      rw [upd_ne this]
      exact f.out c y hc nt n
    · by_cases z : c = p
      · subst z; rw [upd_same]; exact fun z => nomatch z
      · rw [upd_ne z]; exact f.al c hc
    · exact f.newF c hc
    · rcases List.mem_append.mp hc with z | z
      · exact f.newO c z
      · rw [List.mem_singleton.mp z]; exact .inr hp
  refine ⟨F4, Og ++ [p], .t (.dic p kds), e4, ⟨s1, List.nodup_append.mpr ⟨b4.nd, List.nodup_cons.mpr ⟨fun z => (nomatch z), List.nodup_nil⟩, fun c hc c' hc' z => ?_⟩, fun c hc => ?_, b.abs.trans fr2'⟩, ⟨Og, [p], rfl, o4.stay (Same.refl _) keep, .dic (by rw [upd_same, ← hob]) rt⟩, fr2', by simpa using q4 p⟩
  · rw [List.mem_singleton.mp hc'] at z
    exact pa (z ▸ hc)
  · rcases List.mem_append.mp hc with z | z
    · exact b4.dis c z
    · rw [List.mem_singleton.mp z]; exact fp4
end
end QL

/-! QYE: {1: e}. -/
namespace QL
open PySem PySem.Spec PyProof.Rows L2
section
variable {Tq : List (Addr × Str)} {Z : Zb Tq} {X : Cx} {env : Env} {P : R → Env → Prop} {pos p1 : Pos} {e : Expr}
theorem w_dict1I {i : Int} {j : Nat} (h : WE Z X e env fun r e1 => ∃ d, r = .t (.va d) ∧ ∀ p, P (.t (.dic p [(.inl i, d)])) e1) : WE Z X (.Dict [some (.Constant (.int i) j p1)] [e] pos) env P :=
  w_dictN [(.Constant (.int i) j p1, e)] rfl rfl (by simp) (by simp) (w_int ⟨.inl i, rfl, WE.imp h fun r e1 ⟨d, er, q⟩ => ⟨d, er, List.nodup_cons.mpr ⟨fun z => (nomatch z), List.nodup_nil⟩, q⟩⟩)
end
end QL

namespace K26
open PySem PySem.Spec PyProof.Rows L2 QL
open LM
abbrev odd26 : List D := [.none, .bool true, .bool false, .str "", .str "1", .tuple [], .tuple [.int 1], .list [], .list [.int 1], .dict [], .dict [(.int 1, .int 1)], .int (10 ^ (30 : Int).toNat), .int (-(10 ^ (30 : Int).toNat))]
abbrev fut26 (mo : Int) : List D := [.none, .tuple [.tuple [], .tuple []], .tuple [.tuple [.int 1], .tuple [.int mo]], .int 7, .str "x", .list [], .tuple [.tuple [.tuple []]]]
theorem fut_ok {mo : Int} {ws : List Int} (W : Wd mo ws) (hl : ws.length ≤ 900) : ∀ d ∈ fut26 mo, Fut mo ws d := fun d hd => by
  have h1 := W.w1
  have h2 := W.w2
  have W1 : Wd mo (ws ++ [1]) := W.app (by simp; omega) fun x hx => by rw [List.mem_singleton.mp hx]; omega
  have W2 : Wd mo (ws ++ [mo]) := W.app (by simp; omega) fun x hx => by rw [List.mem_singleton.mp hx]; omega
  have W0 : Wd mo (ws ++ []) := by rw [List.append_nil]; exact W
  simp only [List.mem_cons, List.not_mem_nil, or_false] at hd
  rcases hd with e | e | e | e | e | e | e
  · rw [e]; exact .inl rfl
  · exact .inr (.inr ⟨[], [], e, W0, W0, by simp, by simp⟩)
  · exact .inr (.inr ⟨[1], [mo], e, W1, W2, by simp, by simp⟩)
  · rw [e]; exact .inl rfl
  · rw [e]; exact .inl rfl
  · rw [e]; exact .inl rfl
  · exact .inr (.inl ⟨_, e⟩)
theorem things_sm {n : Nat} (hn : n ≤ 20) : ∀ d ∈ rangeD (-2) n ++ odd26, Short 2 100 d := fun d hd => by
  rcases List.mem_append.mp hd with z | z
  · obtain ⟨k, hk, rfl⟩ := List.mem_map.mp z
    have := List.mem_range.mp hk
    exact (short_int (by omega)).le (by decide) (by decide)
  · exact odd_of (List.all_eq_true.mp (by decide +kernel : odd26.all oddB = true) d z)
theorem dues_sm {d : D} (h : Short 2 100 d) (b : Bool) : showOk (.list (List.replicate 3 (.list (if b = true then [] else [d])))) := by
  have h1 : Short 3 101 (.list (if b = true then [] else [d])) := by
    have := short_lst (n := 2) (w := 100) (ds := if b = true then [] else [d]) fun x hx => by
      cases b
      · rw [List.mem_singleton.mp hx]; exact h
      · cases hx
    exact this.le (by decide) (by cases b; · show (100 + 1) * 1 ≤ 101; decide
                                  · show (100 + 1) * 0 ≤ 101; decide)
  exact (short_lst (n := 3) (w := 101) fun x hx => by rw [(List.mem_replicate.mp hx).2]; exact h1).show_ (by decide) (by rw [List.length_replicate]; decide)
def spRight : Spc := fun ts QT _ => ∃ (p : Addr) (n a b c mo : Int) (ws : List Int), ts = [.lst p (potD a b c), .va (.int mo), .va (.tuple (iDs ws))] ∧ PotOk n a b c ∧ n ≤ 800000 ∧ Wd mo ws ∧ ws.length ≤ 9 ∧ ∀ a' b' c', PotOk (n + 60) a' b' c' → QT (.va (.bool true)) [some (.lst p (potD a' b' c')), none, none]
section
variable {P : Program} {w : World} {K : PySem.W.Frag} {mg : Str → Option Value} {base : Heap} {Tq : List (Addr × Str)}
abbrev N__law_right : List Str := ["_law_pot_here", "_law_most", "_law_row", "_law_odd", "_law_thing", "_law_due", "_law_other", "_law_asks", "_law_ask"]
theorem sc__law_right : FnScope N__law_right ["_law_pot_here", "_law_most", "_law_row"] (defScope (topS 44)) := ⟨rfl, rfl, rfl, by decide +kernel, rfl, by decide +kernel, by decide +kernel⟩
theorem g__law_right {f : Addr} {fd : FuncData} {k : Nat} {aBadPlace : Addr} (Fn : Fun K "_law_right" "_law_right" (topS 44) f fd) {c0 P0 : Addr} (hcode : fd.code = .ref c0) (TB : LamX.TabB base mg c0 P0) (hmT : (P0, lamQ "_law_right") ∈ Tq) (huT : ∀ p ∈ Tq, p.1 = P0 → p.2 = lamQ "_law_right") (V__law_met : GvL P w K mg base Tq (k + 2) "_law_met" "_law_ask" (tgMet aBadPlace)) (G__law_is_place : Df P w K mg base Tq k "_law_is_place" ["_law_thing", "_law_row"] spIsP) (G__law_ofD : Df P w K mg base Tq k "_law_of" ["_law_pot_here", "_law_some"] spOfD) (G_shows_open : Df P w K mg base Tq k "shows_open" ["width", "text", "place", "value"] (spShowsE aBadPlace)) (G_state_of : Df P w K mg base Tq k "state_of" ["width", "text", "place"] (spStateE aBadPlace)) (G_two_futures : Df P w K mg base Tq k "two_futures" ["width", "text", "place"] (spTwoE aBadPlace)) (m_len : mg "len" = none) (m_list : mg "list" = none) (m_range : mg "range" = none) (m_repr : mg "repr" = none) : FnG P w K mg base Tq (k + 4) f fd ["_law_pot_here", "_law_most", "_law_row"] spRight := by
  have LG__law_is_place := G__law_is_place.mono (Nat.le_add_right k 1)
  have G__law_is_place := G__law_is_place.mono (Nat.le_add_right k 3)
  have LG__law_ofD := G__law_ofD.mono (Nat.le_add_right k 1)
  have G__law_ofD := G__law_ofD.mono (Nat.le_add_right k 3)
  have LG_shows_open := G_shows_open.mono (Nat.le_add_right k 1)
  have G_shows_open := G_shows_open.mono (Nat.le_add_right k 3)
  have LG_state_of := G_state_of.mono (Nat.le_add_right k 1)
  have G_state_of := G_state_of.mono (Nat.le_add_right k 3)
  have LG_two_futures := G_two_futures.mono (Nat.le_add_right k 1)
  have G_two_futures := G_two_futures.mono (Nat.le_add_right k 3)
  refine fn_gC Fn hcode sc__law_right (fun ts Q E h => ?_) fun A outer s H E Z ts QT ET hr hgd hp tk h => ?_
  · obtain ⟨pt, n, a, b, c, mo, ws, rfl, hpot, hn, W, hl, q⟩ := h; rfl
  · obtain ⟨pt, n, a, b, c, mo, ws, rfl, hpot, hn, W, hl, q⟩ := h
    have hu := room110 hr
    have hnl : (iDs ws).length = ws.length := List.length_map _
    refine wss_cons ?_
    generalize hLE : (Expr.List _ _) = LE
    refine ws_set (hs := ?hs) 3 ?cL sc__law_right.nd
    case hs => subst hLE; kernel_rfl
    case cL =>
      subst hLE
      refine w_lst ?_
      refine And.intro (by kernel_rfl) ?_
      refine w_non ?_
      refine And.intro (by kernel_rfl) ?_
      refine w_bl ?_
      refine And.intro (by kernel_rfl) ?_
      refine w_bl ?_
      refine And.intro (by kernel_rfl) ?_
      refine w_str ?_
      refine And.intro (by kernel_rfl) ?_
      refine w_str ?_
      refine And.intro (by kernel_rfl) ?_
      refine w_tup ⟨(Nat.le_of_lt (small2000 (n := 0) (by decide))), ?_⟩
      refine And.intro (by kernel_rfl) ?_
      refine w_tup ⟨rfl, w_int ⟨(Nat.le_of_lt (small2000 (n := 1) (by decide))), ?_⟩⟩
      refine And.intro (by kernel_rfl) ?_
      refine w_lst ⟨(Nat.le_of_lt (small2000 (n := 0) (by decide))), fun p1 => ?_⟩
      refine And.intro (by kernel_rfl) ?_
      refine w_lst ⟨rfl, w_int ⟨(Nat.le_of_lt (small2000 (n := 1) (by decide))), fun p2 => ?_⟩⟩
      refine And.intro (by kernel_rfl) ?_
      refine w_dict0 fun p3 => ?_
      refine And.intro (by kernel_rfl) ?_
      refine w_dict1I (w_int ⟨_, rfl, fun p4 => ?_⟩)
      refine And.intro (by kernel_rfl) ?_
      refine w_bin dop_pow (w_int (w_int ⟨rfl, rfl, (.inl ⟨by decide, by decide, by decide⟩), ?_⟩))
      refine And.intro (by kernel_rfl) ?_
      refine w_neg (w_bin dop_pow (w_int (w_int ⟨rfl, rfl, (.inl ⟨by decide, by decide, by decide⟩), ⟨rfl, ?_⟩⟩)))
      refine ⟨(Nat.le_of_lt (small2000 (n := 13) (by decide))), fun p5 => ⟨Nat.lt_of_sub_eq_succ rfl, ?_⟩⟩
      show WSs _ _ _ [some (.lst pt (potD a b c)), some (.va (.int mo)), some (.va (.tuple (iDs ws))), some (.lst p5 odd26), none, none, none, none, none] _
      -- line 222
      refine wss_cons (ws_for hp rfl (pg_name (i := 4) sc__law_right.nd rfl (by first | exact Or.inl rfl | exact Or.inr rfl)) (gok_name 4) (wi_list (w_bin dop_add (w_lstRg2 rfl m_list m_range (w_neg (w_int ⟨rfl, ⟨_, rfl, (w_bin dop_add (w_callB dc_len m_len rfl ⟨rfl, (w_var 2 ⟨rfl, (w_int ⟨rfl, rfl, ⟨_, rfl, ⟨by omega, by omega, by omega, by omega, by omega⟩, fun p6 => (w_var 3 ⟨rfl, rfl, (by simp only [List.length_append, List.length_map, List.length_cons, List.length_nil, List.length_singleton, List.length_replicate, List.length_range, List.length_take, List.length_drop, List.length_dropLast, List.length_reverse, Bool.false_eq_true, eq_self, reduceIte, rangeD_len, hnl, sizeLine_eq]; omega), fun p7 => ?_⟩)⟩⟩)⟩)⟩))⟩⟩))))))
      obtain ⟨nt, hnt⟩ : ∃ nt : Nat, nt = ((((iDs ws).length : Int) + 3) - (-2)).toNat := ⟨_, rfl⟩
      have hnt2 : nt ≤ 14 := by rw [hnl] at hnt; omega
      rw [← hnt]
      have hsm := things_sm (n := nt) (by omega)
      refine ⟨fun j e => ∃ x y z o4 o5 o6 o7, PotOk (n + j) x y z ∧ e = [some (.lst pt (potD x y z)), some (.va (.int mo)), some (.va (.tuple (iDs ws))), some (.lst p5 odd26), o4, o5, o6, o7, none], ⟨a, b, c, none, none, none, none, hpot.le (by omega), rfl⟩, ?_, ?_⟩
      · rintro j dv e hd ⟨x, y, z, o4, o5, o6, o7, hp1, rfl⟩
        have hdv := hsm dv (List.mem_of_getElem? hd)
        have hj : j < nt + 13 := by have := (List.getElem?_eq_some_iff.mp hd).1; rw [List.length_append, rangeD_len] at this; exact this
        refine ⟨Nat.lt_of_sub_eq_succ rfl, ?_⟩
        have hpl := pl_cases dv ws.length
        cases hbt : btw dv 1 (ws.length : Int)
        · skip
          -- line 223
          refine wss_cons (ws_set 5 (w_ifExp (wt_val (w_fn G__law_is_place hr hgd ⟨rfl, (w_var 4 ⟨rfl, (w_var 2 ⟨_, ws, rfl, (by omega), ⟨_, rfl, ⟨fun h => (absurd (h.symm.trans hbt) (by decide)), fun h => (w_lst ⟨rfl, (w_var 4 ⟨(by first | decide | (simp only [List.length_append, List.length_map, List.length_cons, List.length_nil, List.length_singleton, List.length_replicate, List.length_range, List.length_take, List.length_drop, List.length_dropLast, List.length_reverse, Bool.false_eq_true, eq_self, reduceIte, sizeLine_eq]; omega)), fun p8 => ⟨Nat.lt_of_sub_eq_succ rfl, ?_⟩⟩)⟩)⟩⟩⟩)⟩)⟩))) sc__law_right.nd)
          -- line 224
          refine wss_cons (ws_set 6 (w_fn G__law_ofD hr hgd ⟨rfl, (w_var 0 ⟨rfl, (w_lst ⟨rfl, (w_non ⟨rfl, (w_tup ⟨rfl, (w_tup ⟨(by first | decide | (simp only [List.length_append, List.length_map, List.length_cons, List.length_nil, List.length_singleton, List.length_replicate, List.length_range, List.length_take, List.length_drop, List.length_dropLast, List.length_reverse, Bool.false_eq_true, eq_self, reduceIte, sizeLine_eq]; omega)), ⟨rfl, (w_tup ⟨(by first | decide | (simp only [List.length_append, List.length_map, List.length_cons, List.length_nil, List.length_singleton, List.length_replicate, List.length_range, List.length_take, List.length_drop, List.length_dropLast, List.length_reverse, Bool.false_eq_true, eq_self, reduceIte, sizeLine_eq]; omega)), ⟨(by first | decide | (simp only [List.length_append, List.length_map, List.length_cons, List.length_nil, List.length_singleton, List.length_replicate, List.length_range, List.length_take, List.length_drop, List.length_dropLast, List.length_reverse, Bool.false_eq_true, eq_self, reduceIte, sizeLine_eq]; omega)), ⟨rfl, (w_tup ⟨rfl, (w_tup ⟨rfl, (w_int ⟨(by first | decide | (simp only [List.length_append, List.length_map, List.length_cons, List.length_nil, List.length_singleton, List.length_replicate, List.length_range, List.length_take, List.length_drop, List.length_dropLast, List.length_reverse, Bool.false_eq_true, eq_self, reduceIte, sizeLine_eq]; omega)), ⟨rfl, (w_tup ⟨rfl, (w_var 1 ⟨(by first | decide | (simp only [List.length_append, List.length_map, List.length_cons, List.length_nil, List.length_singleton, List.length_replicate, List.length_range, List.length_take, List.length_drop, List.length_dropLast, List.length_reverse, Bool.false_eq_true, eq_self, reduceIte, sizeLine_eq]; omega)), ⟨(by first | decide | (simp only [List.length_append, List.length_map, List.length_cons, List.length_nil, List.length_singleton, List.length_replicate, List.length_range, List.length_take, List.length_drop, List.length_dropLast, List.length_reverse, Bool.false_eq_true, eq_self, reduceIte, sizeLine_eq]; omega)), ⟨rfl, (w_int ⟨rfl, (w_str ⟨rfl, (w_lst ⟨(by first | decide | (simp only [List.length_append, List.length_map, List.length_cons, List.length_nil, List.length_singleton, List.length_replicate, List.length_range, List.length_take, List.length_drop, List.length_dropLast, List.length_reverse, Bool.false_eq_true, eq_self, reduceIte, sizeLine_eq]; omega)), fun p9 => ⟨rfl, (w_tup ⟨rfl, (w_tup ⟨rfl, (w_tup ⟨(by first | decide | (simp only [List.length_append, List.length_map, List.length_cons, List.length_nil, List.length_singleton, List.length_replicate, List.length_range, List.length_take, List.length_drop, List.length_dropLast, List.length_reverse, Bool.false_eq_true, eq_self, reduceIte, sizeLine_eq]; omega)), ⟨(by first | decide | (simp only [List.length_append, List.length_map, List.length_cons, List.length_nil, List.length_singleton, List.length_replicate, List.length_range, List.length_take, List.length_drop, List.length_dropLast, List.length_reverse, Bool.false_eq_true, eq_self, reduceIte, sizeLine_eq]; omega)), ⟨(by first | decide | (simp only [List.length_append, List.length_map, List.length_cons, List.length_nil, List.length_singleton, List.length_replicate, List.length_range, List.length_take, List.length_drop, List.length_dropLast, List.length_reverse, Bool.false_eq_true, eq_self, reduceIte, sizeLine_eq]; omega)), ⟨(by first | decide | (simp only [List.length_append, List.length_map, List.length_cons, List.length_nil, List.length_singleton, List.length_replicate, List.length_range, List.length_take, List.length_drop, List.length_dropLast, List.length_reverse, Bool.false_eq_true, eq_self, reduceIte, sizeLine_eq]; omega)), fun p10 => ⟨rfl, ⟨_, _, _, _, _, fut26 mo, _, none, rfl, (.inl ⟨rfl, rfl⟩), (by assumption), (by omega), ⟨by simp, by simp⟩, fun a3 b3 c3 d3 hp_3 hm_3 => ⟨rfl, rfl, ⟨Nat.lt_of_sub_eq_succ rfl, ?_⟩⟩⟩⟩⟩⟩⟩⟩)⟩)⟩)⟩⟩)⟩)⟩)⟩⟩⟩)⟩)⟩⟩)⟩)⟩)⟩⟩⟩)⟩⟩)⟩)⟩)⟩)⟩)⟩) sc__law_right.nd)
          have hfu := fut_ok W (by omega) _ hm_3
          refine wss_lam1 7 TB rfl hmT huT (LamX.lamS_by (sc := defScope (topS 44)) (by decide +kernel)) sc__law_right.nd (Nat.lt_of_sub_eq_succ rfl) (fun Z1 a1 f1 k1 pm1 ct1 tm1 td1 => ?_)
          refine wss_lamA 7 rfl (by simp) TB rfl hmT huT (LamX.lamS_by (sc := defScope (topS 44)) (by decide +kernel)) (fun Z2 f2 k2 pm2 ct2 tm2 td2 => ?_)
          refine wss_lamA 7 rfl (by simp) TB rfl hmT huT (LamX.lamS_by (sc := defScope (topS 44)) (by decide +kernel)) (fun Z3 f3 k3 pm3 ct3 tm3 td3 => ?_)
          have tq1 := (tm3 _ hmT (Z2.tb.tabs _ hmT (lam_ne _))).2 k1 ((tm2 _ hmT (Z1.tb.tabs _ hmT (lam_ne _))).2 k1 td1)
          have tq2 := (tm3 _ hmT (Z2.tb.tabs _ hmT (lam_ne _))).2 k2 td2
          have hsh := dues_sm hdv false
          -- line 228
          refine wss_one (ws_if (wt_cmp (dop_ne (room64 hr)) (w_callB (dc_reprD hgd hu) m_repr rfl ⟨rfl, (w_lcL (ds := [.list [dv], .list [dv], .list [dv]]) 7 8 rfl rfl (by simp) ?hc0 (fun p11 => ⟨rfl, ⟨_, rfl, hsh, (w_callB (dc_reprD hgd hu) m_repr rfl ⟨rfl, (w_bin dop_mul (w_lst ⟨rfl, (w_var 5 ⟨rfl, ⟨(by first | decide | (simp only [List.length_append, List.length_map, List.length_cons, List.length_nil, List.length_singleton, List.length_replicate, List.length_range, List.length_take, List.length_drop, List.length_dropLast, List.length_reverse, Bool.false_eq_true, eq_self, reduceIte, sizeLine_eq]; omega)), fun p12 => (w_int ⟨rfl, rfl, ⟨by omega, by omega, by simp only [List.length_append, List.length_map, List.length_cons, List.length_nil, List.length_singleton, List.length_replicate, List.length_range, List.length_take, List.length_drop, List.length_dropLast, List.length_reverse, Bool.false_eq_true, eq_self, reduceIte, sizeLine_eq]; omega⟩, fun p13 => ⟨rfl, ⟨_, rfl, hsh, ⟨rfl, rfl, _, rfl, ⟨fun h => ?_, fun h => ?_⟩⟩⟩⟩⟩)⟩⟩)⟩))⟩)⟩⟩) rfl sc__law_right.nd (blkOk_by (N := N__law_right) (sc := defScope (topS 44)) (by decide +kernel)) (fun _ _ _ _ _ => pg_name (i := 8) sc__law_right.nd rfl (by first | exact Or.inl rfl | exact Or.inr rfl)) (Nat.lt_of_sub_eq_succ rfl) rfl rfl (by first | exact Or.inl rfl | exact Or.inr (Or.inl rfl) | exact Or.inr (Or.inr rfl)) (fun _ _ _ _ _ => (by first | exact Or.inl rfl | exact Or.inr (Or.inl rfl) | exact Or.inr (Or.inr rfl))) (fun _ _ _ _ _ => rfl) (fun _ _ _ _ _ => rfl) (fun _ _ _ _ _ => rfl))⟩)))
          case hc0 =>
            intro m p d hp hd
            rcases m with _ | _ | _ | m
            · cases hp; cases hd
              exact calLP (k := k + 1) (fun Q E => E ⟨aBadPlace, [("value", dv)]⟩) V__law_met tq1 hmT hr hgd (LamX.lamS_by (sc := defScope (topS 44)) (by decide +kernel)) (fun A_2 ou_2 s_2 H_2 E_2 f_2 c_2 Z_2 P_2 ET_2 hr2 hgd2 tk2 hL => (w_fnX LG_state_of hr2 hgd2 tk2  ⟨rfl, (w_var 1 ⟨rfl, (w_var 2 ⟨rfl, (w_var 4 ⟨mo, ws, dv, rfl, W, .inr ⟨hbt, hL⟩⟩)⟩)⟩)⟩)) (fun Q E E2 f h => f _ h) (by repeat' first | exact trivial | exact rfl | exact ⟨_, rfl, rfl⟩ | exact domT_map _ | assumption | apply And.intro) (fun Q E f g => g _ _ ⟨_, rfl, fun p => ⟨rfl, rfl⟩⟩) (fun L1 L2 Q f h Q2 E2 a b => f _ _ (h Q2 E2 a b))
            · cases hp; cases hd
              exact calLP (k := k + 1) (fun Q E => E ⟨aBadPlace, [("value", dv)]⟩) V__law_met tq2 hmT hr hgd (LamX.lamS_by (sc := defScope (topS 44)) (by decide +kernel)) (fun A_2 ou_2 s_2 H_2 E_2 f_2 c_2 Z_2 P_2 ET_2 hr2 hgd2 tk2 hL => (w_fnX LG_two_futures hr2 hgd2 tk2  ⟨rfl, (w_var 1 ⟨rfl, (w_var 2 ⟨rfl, (w_var 4 ⟨mo, ws, dv, rfl, W, (by omega), .inr ⟨hbt, hL⟩⟩)⟩)⟩)⟩)) (fun Q E E2 f h => f _ h) (by repeat' first | exact trivial | exact rfl | exact ⟨_, rfl, rfl⟩ | exact domT_map _ | assumption | apply And.intro) (fun Q E f g => g _ _ ⟨_, rfl, fun p => ⟨rfl, rfl⟩⟩) (fun L1 L2 Q f h Q2 E2 a b => f _ _ (h Q2 E2 a b))
            · cases hp; cases hd
              exact calLP (k := k + 1) (fun Q E => E ⟨aBadPlace, [("value", dv)]⟩) V__law_met td3 hmT hr hgd (LamX.lamS_by (sc := defScope (topS 44)) (by decide +kernel)) (fun A_2 ou_2 s_2 H_2 E_2 f_2 c_2 Z_2 P_2 ET_2 hr2 hgd2 tk2 hL => (w_fnX LG_shows_open hr2 hgd2 tk2  ⟨rfl, (w_var 1 ⟨rfl, (w_var 2 ⟨rfl, (w_var 4 ⟨rfl, (w_var 6 ⟨mo, ws, dv, _, rfl, (by omega), hfu, .inr ⟨hbt, hL⟩⟩)⟩)⟩)⟩)⟩)) (fun Q E E2 f h => f _ h) (by repeat' first | exact trivial | exact rfl | exact ⟨_, rfl, rfl⟩ | exact domT_map _ | assumption | apply And.intro) (fun Q E f g => g _ _ ⟨_, rfl, fun p => ⟨rfl, rfl⟩⟩) (fun L1 L2 Q f h Q2 E2 a b => f _ _ (h Q2 E2 a b))
            · cases hp
          · exact ne_self h
          exact wss_nil ⟨_, _, _, _, _, _, _, hp_3.le (by omega), rfl⟩
        · skip
          obtain ⟨q0, rfl, h1, h2⟩ : ∃ q : Nat, dv = .int (q : Int) ∧ 1 ≤ q ∧ q ≤ ws.length := hpl.elim (fun z => z) fun z => by rw [hbt] at z; cases z
          -- line 223
          refine wss_cons (ws_set 5 (w_ifExp (wt_val (w_fn G__law_is_place hr hgd ⟨rfl, (w_var 4 ⟨rfl, (w_var 2 ⟨_, ws, rfl, (by omega), ⟨_, rfl, ⟨fun h => (w_lst ⟨(by first | decide | (simp only [List.length_append, List.length_map, List.length_cons, List.length_nil, List.length_singleton, List.length_replicate, List.length_range, List.length_take, List.length_drop, List.length_dropLast, List.length_reverse, Bool.false_eq_true, eq_self, reduceIte, sizeLine_eq]; omega)), fun p14 => ⟨Nat.lt_of_sub_eq_succ rfl, ?_⟩⟩), fun h => (absurd (h.symm.trans hbt) (by decide))⟩⟩⟩)⟩)⟩))) sc__law_right.nd)
          -- line 224
          refine wss_cons (ws_set 6 (w_fn G__law_ofD hr hgd ⟨rfl, (w_var 0 ⟨rfl, (w_lst ⟨rfl, (w_non ⟨rfl, (w_tup ⟨rfl, (w_tup ⟨(by first | decide | (simp only [List.length_append, List.length_map, List.length_cons, List.length_nil, List.length_singleton, List.length_replicate, List.length_range, List.length_take, List.length_drop, List.length_dropLast, List.length_reverse, Bool.false_eq_true, eq_self, reduceIte, sizeLine_eq]; omega)), ⟨rfl, (w_tup ⟨(by first | decide | (simp only [List.length_append, List.length_map, List.length_cons, List.length_nil, List.length_singleton, List.length_replicate, List.length_range, List.length_take, List.length_drop, List.length_dropLast, List.length_reverse, Bool.false_eq_true, eq_self, reduceIte, sizeLine_eq]; omega)), ⟨(by first | decide | (simp only [List.length_append, List.length_map, List.length_cons, List.length_nil, List.length_singleton, List.length_replicate, List.length_range, List.length_take, List.length_drop, List.length_dropLast, List.length_reverse, Bool.false_eq_true, eq_self, reduceIte, sizeLine_eq]; omega)), ⟨rfl, (w_tup ⟨rfl, (w_tup ⟨rfl, (w_int ⟨(by first | decide | (simp only [List.length_append, List.length_map, List.length_cons, List.length_nil, List.length_singleton, List.length_replicate, List.length_range, List.length_take, List.length_drop, List.length_dropLast, List.length_reverse, Bool.false_eq_true, eq_self, reduceIte, sizeLine_eq]; omega)), ⟨rfl, (w_tup ⟨rfl, (w_var 1 ⟨(by first | decide | (simp only [List.length_append, List.length_map, List.length_cons, List.length_nil, List.length_singleton, List.length_replicate, List.length_range, List.length_take, List.length_drop, List.length_dropLast, List.length_reverse, Bool.false_eq_true, eq_self, reduceIte, sizeLine_eq]; omega)), ⟨(by first | decide | (simp only [List.length_append, List.length_map, List.length_cons, List.length_nil, List.length_singleton, List.length_replicate, List.length_range, List.length_take, List.length_drop, List.length_dropLast, List.length_reverse, Bool.false_eq_true, eq_self, reduceIte, sizeLine_eq]; omega)), ⟨rfl, (w_int ⟨rfl, (w_str ⟨rfl, (w_lst ⟨(by first | decide | (simp only [List.length_append, List.length_map, List.length_cons, List.length_nil, List.length_singleton, List.length_replicate, List.length_range, List.length_take, List.length_drop, List.length_dropLast, List.length_reverse, Bool.false_eq_true, eq_self, reduceIte, sizeLine_eq]; omega)), fun p15 => ⟨rfl, (w_tup ⟨rfl, (w_tup ⟨rfl, (w_tup ⟨(by first | decide | (simp only [List.length_append, List.length_map, List.length_cons, List.length_nil, List.length_singleton, List.length_replicate, List.length_range, List.length_take, List.length_drop, List.length_dropLast, List.length_reverse, Bool.false_eq_true, eq_self, reduceIte, sizeLine_eq]; omega)), ⟨(by first | decide | (simp only [List.length_append, List.length_map, List.length_cons, List.length_nil, List.length_singleton, List.length_replicate, List.length_range, List.length_take, List.length_drop, List.length_dropLast, List.length_reverse, Bool.false_eq_true, eq_self, reduceIte, sizeLine_eq]; omega)), ⟨(by first | decide | (simp only [List.length_append, List.length_map, List.length_cons, List.length_nil, List.length_singleton, List.length_replicate, List.length_range, List.length_take, List.length_drop, List.length_dropLast, List.length_reverse, Bool.false_eq_true, eq_self, reduceIte, sizeLine_eq]; omega)), ⟨(by first | decide | (simp only [List.length_append, List.length_map, List.length_cons, List.length_nil, List.length_singleton, List.length_replicate, List.length_range, List.length_take, List.length_drop, List.length_dropLast, List.length_reverse, Bool.false_eq_true, eq_self, reduceIte, sizeLine_eq]; omega)), fun p16 => ⟨rfl, ⟨_, _, _, _, _, fut26 mo, _, none, rfl, (.inl ⟨rfl, rfl⟩), (by assumption), (by omega), ⟨by simp, by simp⟩, fun a3 b3 c3 d3 hp_3 hm_3 => ⟨rfl, rfl, ⟨Nat.lt_of_sub_eq_succ rfl, ?_⟩⟩⟩⟩⟩⟩⟩⟩)⟩)⟩)⟩⟩)⟩)⟩)⟩⟩⟩)⟩)⟩⟩)⟩)⟩)⟩⟩⟩)⟩⟩)⟩)⟩)⟩)⟩)⟩) sc__law_right.nd)
          have hfu := fut_ok W (by omega) _ hm_3
          refine wss_lam1 7 TB rfl hmT huT (LamX.lamS_by (sc := defScope (topS 44)) (by decide +kernel)) sc__law_right.nd (Nat.lt_of_sub_eq_succ rfl) (fun Z1 a1 f1 k1 pm1 ct1 tm1 td1 => ?_)
          refine wss_lamA 7 rfl (by simp) TB rfl hmT huT (LamX.lamS_by (sc := defScope (topS 44)) (by decide +kernel)) (fun Z2 f2 k2 pm2 ct2 tm2 td2 => ?_)
          refine wss_lamA 7 rfl (by simp) TB rfl hmT huT (LamX.lamS_by (sc := defScope (topS 44)) (by decide +kernel)) (fun Z3 f3 k3 pm3 ct3 tm3 td3 => ?_)
          have tq1 := (tm3 _ hmT (Z2.tb.tabs _ hmT (lam_ne _))).2 k1 ((tm2 _ hmT (Z1.tb.tabs _ hmT (lam_ne _))).2 k1 td1)
          have tq2 := (tm3 _ hmT (Z2.tb.tabs _ hmT (lam_ne _))).2 k2 td2
          have hsh := dues_sm hdv true
          -- line 228
          refine wss_one (ws_if (wt_cmp (dop_ne (room64 hr)) (w_callB (dc_reprD hgd hu) m_repr rfl ⟨rfl, (w_lcL (ds := [.list [], .list [], .list []]) 7 8 rfl rfl (by simp) ?hc1 (fun p17 => ⟨rfl, ⟨_, rfl, hsh, (w_callB (dc_reprD hgd hu) m_repr rfl ⟨rfl, (w_bin dop_mul (w_lst ⟨rfl, (w_var 5 ⟨rfl, ⟨(by first | decide | (simp only [List.length_append, List.length_map, List.length_cons, List.length_nil, List.length_singleton, List.length_replicate, List.length_range, List.length_take, List.length_drop, List.length_dropLast, List.length_reverse, Bool.false_eq_true, eq_self, reduceIte, sizeLine_eq]; omega)), fun p18 => (w_int ⟨rfl, rfl, ⟨by omega, by omega, by simp only [List.length_append, List.length_map, List.length_cons, List.length_nil, List.length_singleton, List.length_replicate, List.length_range, List.length_take, List.length_drop, List.length_dropLast, List.length_reverse, Bool.false_eq_true, eq_self, reduceIte, sizeLine_eq]; omega⟩, fun p19 => ⟨rfl, ⟨_, rfl, hsh, ⟨rfl, rfl, _, rfl, ⟨fun h => ?_, fun h => ?_⟩⟩⟩⟩⟩)⟩⟩)⟩))⟩)⟩⟩) rfl sc__law_right.nd (blkOk_by (N := N__law_right) (sc := defScope (topS 44)) (by decide +kernel)) (fun _ _ _ _ _ => pg_name (i := 8) sc__law_right.nd rfl (by first | exact Or.inl rfl | exact Or.inr rfl)) (Nat.lt_of_sub_eq_succ rfl) rfl rfl (by first | exact Or.inl rfl | exact Or.inr (Or.inl rfl) | exact Or.inr (Or.inr rfl)) (fun _ _ _ _ _ => (by first | exact Or.inl rfl | exact Or.inr (Or.inl rfl) | exact Or.inr (Or.inr rfl))) (fun _ _ _ _ _ => rfl) (fun _ _ _ _ _ => rfl) (fun _ _ _ _ _ => rfl))⟩)))
          case hc1 =>
            intro m p d hp hd
            rcases m with _ | _ | _ | m
            · cases hp; cases hd
              exact calLP (k := k + 1) (fun Q E => ∀ d : D, Q (.va d)) V__law_met tq1 hmT hr hgd (LamX.lamS_by (sc := defScope (topS 44)) (by decide +kernel)) (fun A_2 ou_2 s_2 H_2 E_2 f_2 c_2 Z_2 P_2 ET_2 hr2 hgd2 tk2 hL => (w_fnX LG_state_of hr2 hgd2 tk2  ⟨rfl, (w_var 1 ⟨rfl, (w_var 2 ⟨rfl, (w_var 4 ⟨mo, ws, _, rfl, W, .inl ⟨q0, rfl, ⟨h1, h2⟩, hL _⟩⟩)⟩)⟩)⟩)) (fun Q E E2 f h => h) (by repeat' first | exact trivial | exact rfl | exact ⟨_, rfl, rfl⟩ | exact domT_map _ | assumption | apply And.intro) (fun Q E f g d => f d _ fun p => ⟨rfl, rfl⟩) (fun L1 L2 Q f h Q2 E2 a b => f _ _ (h Q2 E2 a b))
            · cases hp; cases hd
              exact calLP (k := k + 1) (fun Q E => ∀ d : D, Q (.va d)) V__law_met tq2 hmT hr hgd (LamX.lamS_by (sc := defScope (topS 44)) (by decide +kernel)) (fun A_2 ou_2 s_2 H_2 E_2 f_2 c_2 Z_2 P_2 ET_2 hr2 hgd2 tk2 hL => (w_fnX LG_two_futures hr2 hgd2 tk2  ⟨rfl, (w_var 1 ⟨rfl, (w_var 2 ⟨rfl, (w_var 4 ⟨mo, ws, _, rfl, W, (by omega), .inl ⟨q0, rfl, ⟨h1, h2⟩, fun d9 => hL d9⟩⟩)⟩)⟩)⟩)) (fun Q E E2 f h => h) (by repeat' first | exact trivial | exact rfl | exact ⟨_, rfl, rfl⟩ | exact domT_map _ | assumption | apply And.intro) (fun Q E f g d => f d _ fun p => ⟨rfl, rfl⟩) (fun L1 L2 Q f h Q2 E2 a b => f _ _ (h Q2 E2 a b))
            · cases hp; cases hd
              exact calLP (k := k + 1) (fun Q E => ∀ d : D, Q (.va d)) V__law_met td3 hmT hr hgd (LamX.lamS_by (sc := defScope (topS 44)) (by decide +kernel)) (fun A_2 ou_2 s_2 H_2 E_2 f_2 c_2 Z_2 P_2 ET_2 hr2 hgd2 tk2 hL => (w_fnX LG_shows_open hr2 hgd2 tk2  ⟨rfl, (w_var 1 ⟨rfl, (w_var 2 ⟨rfl, (w_var 4 ⟨rfl, (w_var 6 ⟨mo, ws, _, _, rfl, (by omega), hfu, .inl ⟨q0, rfl, ⟨h1, h2⟩, fun b9 => hL _⟩⟩)⟩)⟩)⟩)⟩)) (fun Q E E2 f h => h) (by repeat' first | exact trivial | exact rfl | exact ⟨_, rfl, rfl⟩ | exact domT_map _ | assumption | apply And.intro) (fun Q E f g d => f d _ fun p => ⟨rfl, rfl⟩) (fun L1 L2 Q f h Q2 E2 a b => f _ _ (h Q2 E2 a b))
            · cases hp
          · exact ne_self h
          exact wss_nil ⟨_, _, _, _, _, _, _, hp_3.le (by omega), rfl⟩
      · rintro e ⟨x, y, z, o4, o5, o6, o7, hp1, rfl⟩
        rw [List.length_append, rangeD_len] at hp1
        -- line 230
        refine wss_one (ws_ret (w_bl ?_))
        exact ⟨rfl, q _ _ _ (hp1.le (by show n + ((nt + 13 : Nat) : Int) ≤ n + 60; omega))⟩
end
end K26

namespace K26
open PySem PySem.Spec PyProof.Rows L2 QL
open LM
def spLaw (K : PySem.W.Frag) : Spc := fun ts QT _ => ∃ (a : Addr) (ns : List Int), ts = [scT K a ns] ∧ ns.length ≤ 63 ∧ QT (.va (.bool true)) [some (scT K a ns)]
section
variable {P : Program} {w : World} {K : PySem.W.Frag} {mg : Str → Option Value} {base : Heap} {Tq : List (Addr × Str)}
abbrev N_law : List Str := ["_law_script", "_law_k", "_law_pot_here", "_law_most"]
theorem sc_law : FnScope N_law ["_law_script"] (defScope (topS 45)) := ⟨rfl, rfl, rfl, by decide +kernel, rfl, by decide +kernel, by decide +kernel⟩
theorem g_law {f : Addr} {fd : FuncData} {k : Nat} (Fn : Fun K "law" "law" (topS 45) f fd) (G__law_drawn : Df P w K mg base Tq k "_law_drawn" ["_law_pot_here", "_law_most", "_law_many"] spDrawn) (G__law_pot : Df P w K mg base Tq k "_law_pot" ["_law_script", "_law_k"] (spPot K)) (G__law_right : Df P w K mg base Tq k "_law_right" ["_law_pot_here", "_law_most", "_law_row"] spRight) (G__law_take : Df P w K mg base Tq k "_law_take" ["_law_pot_here", "_law_many"] spTake) (m_len : mg "len" = none) (m_max : mg "max" = none) (m_min : mg "min" = none) (m_range : mg "range" = none) : FnG P w K mg base Tq (k + 1) f fd ["_law_script"] (spLaw K) := by
  refine fn_g Fn sc_law (fun ts Q E h => ?_) fun cdv A outer s H E Z ts QT ET hr hgd hp tk h => ?_
  · obtain ⟨a, ns, rfl, hl, q⟩ := h; rfl
  · obtain ⟨a, ns, rfl, hl, q⟩ := h
    refine wss_cons (ws_for hp rfl (pg_name (i := 1) sc_law.nd rfl (.inl rfl)) (gok_name 1) (wi_range1 m_range ⟨rfl, w_callB (dc_max2 rfl) m_max rfl ⟨rfl, w_int ⟨rfl, w_callB (dc_min2 rfl) m_min rfl ⟨rfl, w_int ⟨rfl, w_scLen 0 m_len rfl ⟨rfl, rfl, ⟨rfl, rfl, ⟨rfl, ⟨by omega, by omega⟩, ?_⟩⟩⟩⟩⟩⟩⟩⟩))
    refine ⟨fun j e => ∃ o1 o2 o3, e = [some (scT K a ns), o1, o2, o3], ⟨none, none, none, rfl⟩, ?_, ?_⟩
    · rintro j d e hd ⟨o1, o2, o3, rfl⟩
      obtain ⟨rfl, hj⟩ := rangeD_at hd
      refine ⟨Nat.lt_of_sub_eq_succ rfl, ?_⟩
      -- line 233
      refine wss_cons (ws_set 2 (w_fn G__law_pot hr hgd ⟨rfl, (w_var 0 ⟨rfl, (w_var 1 ⟨rfl, ⟨_, _, _, rfl, ⟨by omega, by omega⟩, (by first | assumption | omega | decide), fun p x0 y0 hp_0 => ⟨rfl, rfl, ⟨Nat.lt_of_sub_eq_succ rfl, ?_⟩⟩⟩⟩)⟩)⟩) sc_law.nd)
      -- line 234
      refine wss_one (ws_for hp rfl (pg_name (i := 3) sc_law.nd rfl (by first | exact Or.inl rfl | exact Or.inr rfl)) (gok_name 3) (wi_tup (w_tup ⟨rfl, (w_bin dop_add (w_int (w_fn G__law_take hr hgd ⟨rfl, (w_var 2 ⟨rfl, (w_int ⟨rfl, ⟨_, _, _, _, _, _, rfl, (by assumption), (by omega), ⟨by omega, by omega⟩, fun a1 b1 c1 d_1 hp_1 h0_1 h1_1 => ⟨rfl, rfl, ⟨rfl, rfl, ⟨rfl, (w_bin dop_sub (w_bin dop_pow (w_int (w_int ⟨rfl, rfl, (.inl ⟨by decide, by decide, by decide⟩), (w_fn G__law_take hr hgd ⟨rfl, (w_var 2 ⟨rfl, (w_int ⟨rfl, ⟨_, _, _, _, _, _, rfl, (by assumption), (by omega), ⟨by omega, by omega⟩, fun a2 b2 c2 d_2 hp_2 h0_2 h1_2 => ⟨rfl, rfl, ⟨rfl, rfl, ⟨rfl, (w_bin dop_add (w_int (w_fn G__law_take hr hgd ⟨rfl, (w_var 2 ⟨rfl, (w_int ⟨rfl, ⟨_, _, _, _, _, _, rfl, (by assumption), (by omega), ⟨by omega, by omega⟩, fun a3 b3 c3 d_3 hp_3 h0_3 h1_3 => ⟨rfl, rfl, ⟨rfl, rfl, ⟨(by first | decide | (simp only [List.length_append, List.length_map, List.length_cons, List.length_nil, List.length_singleton, List.length_replicate, List.length_range, List.length_take, List.length_drop, List.length_dropLast, List.length_reverse, Bool.false_eq_true, eq_self, reduceIte, sizeLine_eq]; omega)), ?_⟩⟩⟩⟩⟩)⟩)⟩)))⟩⟩⟩⟩⟩)⟩)⟩)⟩))))⟩⟩⟩⟩⟩)⟩)⟩)))⟩)))
      refine ⟨fun i e => ∃ x y z o3, PotOk (100 + 500 * i) x y z ∧ e = [some (scT K a ns), some (.va (.int (0 + (j : Int)))), some (.lst p (potD x y z)), o3], ⟨a3, b3, c3, _, hp_3.le (by omega), rfl⟩, ?_, ?_⟩
      · rintro i dd e hd ⟨x, y, z, o3, hq, rfl⟩
        have hi : i < 3 := (List.getElem?_eq_some_iff.mp hd).1
        obtain ⟨mo, rfl, m1, m2⟩ : ∃ mo, dd = .int mo ∧ 1 ≤ mo ∧ mo ≤ 1000000000 := by
          rcases i with _ | _ | _ | i
          · cases hd; exact ⟨_, rfl, by omega, by omega⟩
          · cases hd; exact ⟨1000000000 - d_2, rfl, by omega, by omega⟩
          · cases hd; exact ⟨_, rfl, by omega, by omega⟩
          · omega
        refine ⟨Nat.lt_of_sub_eq_succ rfl, ?_⟩
        -- line 235
        refine wss_one (ws_if (WW.t (ww_or (wt_not (wt_val (w_fn G__law_right hr hgd ⟨rfl, (w_var 2 ⟨rfl, (w_var 3 ⟨rfl, (w_fn G__law_drawn hr hgd ⟨rfl, (w_var 2 ⟨rfl, (w_var 3 ⟨rfl, (w_int ⟨rfl, ⟨_, _, _, _, _, _, _, rfl, (by assumption), (by omega), ⟨by omega, by omega⟩, ⟨by omega, by omega⟩, fun a5 b5 c5 ws hp_5 hl_5 hr_5 => ⟨rfl, rfl, ⟨rfl, ⟨_, _, _, _, _, mo, ws, rfl, (by assumption), (by omega), ⟨by omega, by omega, by first | omega | decide, hr_5⟩, (by omega), fun a6 b6 c6 hp_6 => ⟨rfl, rfl, ⟨_, rfl, ⟨fun h => (ww_or1 (wt_not (wt_val (w_fn G__law_right hr hgd ⟨rfl, (w_var 2 ⟨rfl, (w_var 3 ⟨rfl, (w_tup ⟨(by first | decide | (simp only [List.length_append, List.length_map, List.length_cons, List.length_nil, List.length_singleton, List.length_replicate, List.length_range, List.length_take, List.length_drop, List.length_dropLast, List.length_reverse, Bool.false_eq_true, eq_self, reduceIte, sizeLine_eq]; omega)), ⟨rfl, ⟨_, _, _, _, _, mo, [], rfl, (by assumption), (by omega), ⟨by omega, by omega, by first | omega | decide, (fun _ z => nomatch z)⟩, (by decide), fun a7 b7 c7 hp_7 => ⟨rfl, rfl, ⟨_, rfl, ⟨fun h => ?_, fun h => ?_⟩⟩⟩⟩⟩⟩)⟩)⟩)⟩)))), fun h => ?s1⟩⟩⟩⟩⟩⟩⟩⟩)⟩)⟩)⟩)⟩)⟩)⟩))))))
        case s1 => exact absurd h (by decide)
        · exact absurd h (by decide)
        exact wss_nil ⟨_, _, _, _, hp_7.le (by omega), rfl⟩
      · rintro e ⟨x, y, z, o3, hq, rfl⟩
        exact ⟨_, _, _, rfl⟩
    · rintro e ⟨o1, o2, o3, rfl⟩
      exact wss_one (ws_ret (w_bl ⟨rfl, q⟩))
end
end K26

namespace K26
open PySem PySem.Spec PyProof.Rows L2 QL

def fnL0 : List FnQ := [⟨fun K => (He.ga K "sums_of"), "sums_of", "sums_of", topS 13, false⟩,
  ⟨fun K => (He.ga K "length_by"), "length_by", "length_by", topS 14, false⟩,
  ⟨fun K => (He.ma K (He.ga K "Table") "begins"), "begins", "Table.begins", inClass (topS 16) 1, false⟩,
  ⟨fun K => (He.ma K (He.ga K "Table") "square"), "square", "Table.square", inClass (topS 16) 2, false⟩,
  ⟨fun K => (He.ma K (He.ga K "Table") "way"), "way", "Table.way", inClass (topS 16) 3, false⟩,
  ⟨fun K => (He.ma K (He.ga K "Table") "last_start"), "last_start", "Table.last_start", inClass (topS 16) 4, false⟩,
  ⟨fun K => (He.ma K (He.ga K "Table") "__init__"), "__init__", "Table.__init__", inClass (topS 16) 0, false⟩,
  ⟨fun K => (He.ga K "best_layout"), "best_layout", "best_layout", topS 17, false⟩,
  ⟨fun K => (He.ma K (He.ga K "Goers") "room"), "room", "Goers.room", inClass (topS 19) 1, false⟩,
  ⟨fun K => (He.ma K (He.ga K "Goers") "fitting"), "fitting", "Goers.fitting", inClass (topS 19) 2, false⟩,
  ⟨fun K => (He.ma K (He.ga K "Goers") "closed_cost_at"), "closed_cost_at", "Goers.closed_cost_at", inClass (topS 19) 3, false⟩,
  ⟨fun K => (He.ma K (He.ga K "Goers") "closing_start"), "closing_start", "Goers.closing_start", inClass (topS 19) 4, false⟩,
  ⟨fun K => (He.ma K (He.ga K "Goers") "open_start"), "open_start", "Goers.open_start", inClass (topS 19) 5, false⟩,
  ⟨fun K => (He.ma K (He.ga K "Goers") "last_fitting"), "last_fitting", "Goers.last_fitting", inClass (topS 19) 6, false⟩,
  ⟨fun K => (He.ma K (He.ga K "Goers") "last_closing"), "last_closing", "Goers.last_closing", inClass (topS 19) 7, false⟩,
  ⟨fun K => (He.ma K (He.ga K "Goers") "__init__"), "__init__", "Goers.__init__", inClass (topS 19) 0, false⟩,
  ⟨fun K => (He.ma K (He.ga K "Goers") "ranges"), "ranges", "Goers.ranges", inClass (topS 19) 8, false⟩,
  ⟨fun K => (He.ga K "closing_starts"), "closing_starts", "closing_starts", topS 20, false⟩,
  ⟨fun K => (He.ga K "open_starts"), "open_starts", "open_starts", topS 21, false⟩,
  ⟨fun K => (He.ga K "starts"), "starts", "starts", topS 22, false⟩]
def fnL1 : List FnQ := [⟨fun K => (He.ga K "_law_pot"), "_law_pot", "_law_pot", topS 38, false⟩,
  ⟨fun K => (He.ga K "_law_take"), "_law_take", "_law_take", topS 39, false⟩,
  ⟨fun K => (He.ga K "_law_of"), "_law_of", "_law_of", topS 40, false⟩,
  ⟨fun K => (He.ga K "_law_drawn"), "_law_drawn", "_law_drawn", topS 41, false⟩,
  ⟨fun K => (He.ga K "all_ends"), "all_ends", "all_ends", topS 29, false⟩,
  ⟨fun K => (He.ga K "counted_states"), "counted_states", "counted_states", topS 30, false⟩,
  ⟨fun K => (He.ga K "states"), "states", "states", topS 31, false⟩,
  ⟨fun K => (He.ma K (He.ga K "BadPlace") "__init__"), "__init__", "BadPlace.__init__", inClass (topS 3) 0, false⟩,
  ⟨fun K => (He.ga K "is_integer"), "is_integer", "is_integer", topS 9, false⟩,
  ⟨fun K => (He.ga K "check_place"), "check_place", "check_place", topS 28, false⟩,
  ⟨fun K => (He.ga K "state_of"), "state_of", "state_of", topS 32, false⟩,
  ⟨fun K => (He.ga K "short_futures"), "short_futures", "short_futures", topS 33, false⟩,
  ⟨fun K => (He.ga K "two_futures"), "two_futures", "two_futures", topS 34, false⟩,
  ⟨fun K => (He.ga K "ends_line"), "ends_line", "ends_line", topS 35, false⟩,
  ⟨fun K => (He.ga K "is_between"), "is_between", "is_between", topS 10, false⟩,
  ⟨fun K => (He.ga K "are_words"), "are_words", "are_words", topS 11, false⟩,
  ⟨fun K => (He.ga K "is_text"), "is_text", "is_text", topS 12, false⟩,
  ⟨fun K => (He.ga K "shows_open"), "shows_open", "shows_open", topS 36, false⟩,
  ⟨fun K => (He.ga K "_law_met"), "_law_met", "_law_met", topS 42, false⟩,
  ⟨fun K => (He.ga K "_law_is_place"), "_law_is_place", "_law_is_place", topS 43, false⟩]
def fnL2 : List FnQ := [⟨fun K => (He.ga K "_law_of"), "_law_of", "_law_of", topS 40, false⟩,
  ⟨fun K => (He.ga K "_law_right"), "_law_right", "_law_right", topS 44, false⟩,
  ⟨fun K => (He.ga K "law"), "law", "law", topS 45, false⟩]
def fnL : List FnQ := fnL0 ++ fnL1 ++ fnL2
def xsL0 : List (PySem.W.Frag → Bool) := [fun K => decide (PySem.W.nsIn K mainGlobals "Goers" = some (some (.ref (He.ga K "Goers")))),
  fun K => PySem.W.plainGet K (He.ga K "Goers") Str.empty,
  fun K => PySem.W.hasDictIn K (He.ga K "Goers"),
  fun K => PySem.W.plainOver K (He.ga K "Goers"),
  fun K => decide (PySem.W.findIn K (.ref (He.ga K "Goers")) "__setattr__" = some (some (.builtin "object.__setattr__"))),
  fun K => PySem.W.makesIn K (He.ga K "Goers"),
  fun K => PySem.W.keepIn K (.ref (He.ga K "Goers")),
  fun K => decide (PySem.W.findIn K (.ref (He.ga K "Goers")) "most" = some none),
  fun K => decide (PySem.W.findIn K (.ref (He.ga K "Goers")) "table" = some none),
  fun K => decide (PySem.W.findIn K (.ref (He.ga K "Goers")) "reaches" = some none),
  fun K => decide (PySem.W.nsIn K mainGlobals "Table" = some (some (.ref (He.ga K "Table")))),
  fun K => PySem.W.plainGet K (He.ga K "Table") Str.empty,
  fun K => PySem.W.hasDictIn K (He.ga K "Table"),
  fun K => PySem.W.plainOver K (He.ga K "Table"),
  fun K => decide (PySem.W.findIn K (.ref (He.ga K "Table")) "__setattr__" = some (some (.builtin "object.__setattr__"))),
  fun K => PySem.W.makesIn K (He.ga K "Table"),
  fun K => PySem.W.keepIn K (.ref (He.ga K "Table")),
  fun K => decide (PySem.W.findIn K (.ref (He.ga K "Table")) "wide" = some none),
  fun K => decide (PySem.W.findIn K (.ref (He.ga K "Table")) "sums" = some none),
  fun K => decide (PySem.W.findIn K (.ref (He.ga K "Table")) "costs" = some none),
  fun K => decide (PySem.W.findIn K (.ref (He.ga K "Table")) "befores" = some none),
  fun K => decide (PySem.W.nsIn K mainGlobals "BadPlace" = some (some (.ref (He.ga K "BadPlace")))),
  fun K => decide (PySem.W.nsIn K mainGlobals "BadText" = some (some (.ref (He.ga K "BadText")))),
  fun K => decide (PySem.W.nsIn K mainGlobals "BadWidth" = some (some (.ref (He.ga K "BadWidth")))),
  fun K => decide (PySem.W.nsIn K mainGlobals "BadWord" = some (some (.ref (He.ga K "BadWord")))),
  fun K => decide (PySem.W.nsIn K mainGlobals "LineError" = some (some (.ref (He.ga K "LineError")))),
  fun K => decide (PySem.W.nsIn K mainGlobals "TooLong" = some (some (.ref (He.ga K "TooLong")))),
  fun K => excQ K (He.ga K "BadPlace"),
  fun K => decide (PySem.W.findIn K (.ref (He.ga K "BadPlace")) "__setattr__" = some (some (.builtin "object.__setattr__"))),
  fun K => decide (PySem.W.subIn K (.ref (He.ga K "BadPlace")) (.type "BaseException") = some true),
  fun K => decide (PySem.W.typeIn K (.ref (He.ga K "BadPlace")) = some (.type "type")),
  fun K => PySem.W.keepIn K (.ref (He.ga K "BadPlace")),
  fun K => decide (PySem.W.findIn K (.ref (He.ga K "BadPlace")) "value" = some none),
  fun K => PySem.W.readsIn K (He.ga K "LineError") (.type "type"),
  fun K => decide (PySem.W.specialIn K (.ref (He.ga K "LineError")) "__getattribute__" = some (some (.builtin "type.__getattribute__"))),
  fun K => cvB (PySem.W.findCls K (.ref (He.ga K "LineError")) (.type "type") "__init__") "ValueError.__init__",
  fun K => decide (PySem.W.nsIn K mainGlobals "sums_of" = some (some (.ref (He.ga K "sums_of")))),
  fun K => PySem.W.keepIn K (.ref (He.ga K "sums_of")),
  fun K => decide (PySem.W.nsIn K mainGlobals "length_by" = some (some (.ref (He.ga K "length_by")))),
  fun K => PySem.W.keepIn K (.ref (He.ga K "length_by"))]
def xsL1 : List (PySem.W.Frag → Bool) := [fun K => decide (PySem.W.findIn K (.ref (He.ga K "Table")) "begins" = some (some (.ref (He.ma K (He.ga K "Table") "begins")))),
  fun K => PySem.W.isFn K (.ref (He.ma K (He.ga K "Table") "begins")),
  fun K => PySem.W.keepIn K (.ref (He.ma K (He.ga K "Table") "begins")),
  fun K => decide (PySem.W.findIn K (.ref (He.ga K "Table")) "square" = some (some (.ref (He.ma K (He.ga K "Table") "square")))),
  fun K => PySem.W.isFn K (.ref (He.ma K (He.ga K "Table") "square")),
  fun K => PySem.W.keepIn K (.ref (He.ma K (He.ga K "Table") "square")),
  fun K => decide (PySem.W.findIn K (.ref (He.ga K "Table")) "way" = some (some (.ref (He.ma K (He.ga K "Table") "way")))),
  fun K => PySem.W.isFn K (.ref (He.ma K (He.ga K "Table") "way")),
  fun K => PySem.W.keepIn K (.ref (He.ma K (He.ga K "Table") "way")),
  fun K => decide (PySem.W.findIn K (.ref (He.ga K "Table")) "last_start" = some (some (.ref (He.ma K (He.ga K "Table") "last_start")))),
  fun K => PySem.W.isFn K (.ref (He.ma K (He.ga K "Table") "last_start")),
  fun K => PySem.W.keepIn K (.ref (He.ma K (He.ga K "Table") "last_start")),
  fun K => decide (PySem.W.findIn K (.ref (He.ga K "Table")) "__init__" = some (some (.ref (He.ma K (He.ga K "Table") "__init__")))),
  fun K => PySem.W.isFn K (.ref (He.ma K (He.ga K "Table") "__init__")),
  fun K => PySem.W.keepIn K (.ref (He.ma K (He.ga K "Table") "__init__")),
  fun K => decide (PySem.W.nsIn K mainGlobals "best_layout" = some (some (.ref (He.ga K "best_layout")))),
  fun K => PySem.W.keepIn K (.ref (He.ga K "best_layout")),
  fun K => decide (PySem.W.findIn K (.ref (He.ga K "Goers")) "room" = some (some (.ref (He.ma K (He.ga K "Goers") "room")))),
  fun K => PySem.W.isFn K (.ref (He.ma K (He.ga K "Goers") "room")),
  fun K => PySem.W.keepIn K (.ref (He.ma K (He.ga K "Goers") "room")),
  fun K => decide (PySem.W.findIn K (.ref (He.ga K "Goers")) "fitting" = some (some (.ref (He.ma K (He.ga K "Goers") "fitting")))),
  fun K => PySem.W.isFn K (.ref (He.ma K (He.ga K "Goers") "fitting")),
  fun K => PySem.W.keepIn K (.ref (He.ma K (He.ga K "Goers") "fitting")),
  fun K => decide (PySem.W.findIn K (.ref (He.ga K "Goers")) "closed_cost_at" = some (some (.ref (He.ma K (He.ga K "Goers") "closed_cost_at")))),
  fun K => PySem.W.isFn K (.ref (He.ma K (He.ga K "Goers") "closed_cost_at")),
  fun K => PySem.W.keepIn K (.ref (He.ma K (He.ga K "Goers") "closed_cost_at")),
  fun K => decide (PySem.W.findIn K (.ref (He.ga K "Goers")) "closing_start" = some (some (.ref (He.ma K (He.ga K "Goers") "closing_start")))),
  fun K => PySem.W.isFn K (.ref (He.ma K (He.ga K "Goers") "closing_start")),
  fun K => PySem.W.keepIn K (.ref (He.ma K (He.ga K "Goers") "closing_start")),
  fun K => decide (PySem.W.findIn K (.ref (He.ga K "Goers")) "open_start" = some (some (.ref (He.ma K (He.ga K "Goers") "open_start")))),
  fun K => PySem.W.isFn K (.ref (He.ma K (He.ga K "Goers") "open_start")),
  fun K => PySem.W.keepIn K (.ref (He.ma K (He.ga K "Goers") "open_start")),
  fun K => decide (PySem.W.findIn K (.ref (He.ga K "Goers")) "last_fitting" = some (some (.ref (He.ma K (He.ga K "Goers") "last_fitting")))),
  fun K => PySem.W.isFn K (.ref (He.ma K (He.ga K "Goers") "last_fitting")),
  fun K => PySem.W.keepIn K (.ref (He.ma K (He.ga K "Goers") "last_fitting")),
  fun K => decide (PySem.W.findIn K (.ref (He.ga K "Goers")) "last_closing" = some (some (.ref (He.ma K (He.ga K "Goers") "last_closing")))),
  fun K => PySem.W.isFn K (.ref (He.ma K (He.ga K "Goers") "last_closing")),
  fun K => PySem.W.keepIn K (.ref (He.ma K (He.ga K "Goers") "last_closing")),
  fun K => decide (PySem.W.findIn K (.ref (He.ga K "Goers")) "__init__" = some (some (.ref (He.ma K (He.ga K "Goers") "__init__")))),
  fun K => PySem.W.isFn K (.ref (He.ma K (He.ga K "Goers") "__init__"))]
def xsL2 : List (PySem.W.Frag → Bool) := [fun K => PySem.W.keepIn K (.ref (He.ma K (He.ga K "Goers") "__init__")),
  fun K => decide (PySem.W.findIn K (.ref (He.ga K "Goers")) "ranges" = some (some (.ref (He.ma K (He.ga K "Goers") "ranges")))),
  fun K => PySem.W.isFn K (.ref (He.ma K (He.ga K "Goers") "ranges")),
  fun K => PySem.W.keepIn K (.ref (He.ma K (He.ga K "Goers") "ranges")),
  fun K => decide (PySem.W.nsIn K mainGlobals "closing_starts" = some (some (.ref (He.ga K "closing_starts")))),
  fun K => PySem.W.keepIn K (.ref (He.ga K "closing_starts")),
  fun K => decide (PySem.W.nsIn K mainGlobals "open_starts" = some (some (.ref (He.ga K "open_starts")))),
  fun K => PySem.W.keepIn K (.ref (He.ga K "open_starts")),
  fun K => decide (PySem.W.nsIn K mainGlobals "starts" = some (some (.ref (He.ga K "starts")))),
  fun K => PySem.W.keepIn K (.ref (He.ga K "starts")),
  fun K => decide (PySem.W.nsIn K mainGlobals "_law_pot" = some (some (.ref (He.ga K "_law_pot")))),
  fun K => PySem.W.keepIn K (.ref (He.ga K "_law_pot")),
  fun K => decide (PySem.W.nsIn K mainGlobals "_law_take" = some (some (.ref (He.ga K "_law_take")))),
  fun K => PySem.W.keepIn K (.ref (He.ga K "_law_take")),
  fun K => decide (PySem.W.nsIn K mainGlobals "_law_of" = some (some (.ref (He.ga K "_law_of")))),
  fun K => PySem.W.keepIn K (.ref (He.ga K "_law_of")),
  fun K => decide (PySem.W.nsIn K mainGlobals "_law_drawn" = some (some (.ref (He.ga K "_law_drawn")))),
  fun K => PySem.W.keepIn K (.ref (He.ga K "_law_drawn")),
  fun K => decide (PySem.W.nsIn K mainGlobals "all_ends" = some (some (.ref (He.ga K "all_ends")))),
  fun K => PySem.W.keepIn K (.ref (He.ga K "all_ends")),
  fun K => decide (PySem.W.nsIn K mainGlobals "counted_states" = some (some (.ref (He.ga K "counted_states")))),
  fun K => PySem.W.keepIn K (.ref (He.ga K "counted_states")),
  fun K => decide (PySem.W.nsIn K mainGlobals "states" = some (some (.ref (He.ga K "states")))),
  fun K => PySem.W.keepIn K (.ref (He.ga K "states")),
  fun K => decide (PySem.W.findIn K (.ref (He.ga K "BadPlace")) "__init__" = some (some (.ref (He.ma K (He.ga K "BadPlace") "__init__")))),
  fun K => decide (PySem.W.typeIn K (.ref (He.ma K (He.ga K "BadPlace") "__init__")) = some (.type "function")),
  fun K => PySem.W.keepIn K (.ref (He.ma K (He.ga K "BadPlace") "__init__")),
  fun K => decide (PySem.W.nsIn K mainGlobals "is_integer" = some (some (.ref (He.ga K "is_integer")))),
  fun K => PySem.W.keepIn K (.ref (He.ga K "is_integer")),
  fun K => decide (PySem.W.nsIn K mainGlobals "check_place" = some (some (.ref (He.ga K "check_place")))),
  fun K => PySem.W.keepIn K (.ref (He.ga K "check_place")),
  fun K => decide (PySem.W.nsIn K mainGlobals "state_of" = some (some (.ref (He.ga K "state_of")))),
  fun K => PySem.W.keepIn K (.ref (He.ga K "state_of")),
  fun K => decide (PySem.W.nsIn K mainGlobals "short_futures" = some (some (.ref (He.ga K "short_futures")))),
  fun K => PySem.W.keepIn K (.ref (He.ga K "short_futures")),
  fun K => decide (PySem.W.nsIn K mainGlobals "two_futures" = some (some (.ref (He.ga K "two_futures")))),
  fun K => PySem.W.keepIn K (.ref (He.ga K "two_futures")),
  fun K => decide (PySem.W.nsIn K mainGlobals "ends_line" = some (some (.ref (He.ga K "ends_line")))),
  fun K => PySem.W.keepIn K (.ref (He.ga K "ends_line")),
  fun K => decide (PySem.W.nsIn K mainGlobals "is_between" = some (some (.ref (He.ga K "is_between"))))]
def xsL3 : List (PySem.W.Frag → Bool) := [fun K => PySem.W.keepIn K (.ref (He.ga K "is_between")),
  fun K => decide (PySem.W.nsIn K mainGlobals "are_words" = some (some (.ref (He.ga K "are_words")))),
  fun K => PySem.W.keepIn K (.ref (He.ga K "are_words")),
  fun K => decide (PySem.W.nsIn K mainGlobals "is_text" = some (some (.ref (He.ga K "is_text")))),
  fun K => PySem.W.keepIn K (.ref (He.ga K "is_text")),
  fun K => decide (PySem.W.nsIn K mainGlobals "shows_open" = some (some (.ref (He.ga K "shows_open")))),
  fun K => PySem.W.keepIn K (.ref (He.ga K "shows_open")),
  fun K => decide (PySem.W.nsIn K mainGlobals "_law_met" = some (some (.ref (He.ga K "_law_met")))),
  fun K => PySem.W.keepIn K (.ref (He.ga K "_law_met")),
  fun K => decide (PySem.W.nsIn K mainGlobals "_law_is_place" = some (some (.ref (He.ga K "_law_is_place")))),
  fun K => PySem.W.keepIn K (.ref (He.ga K "_law_is_place")),
  fun K => decide (PySem.W.nsIn K mainGlobals "_law_of" = some (some (.ref (He.ga K "_law_of")))),
  fun K => PySem.W.keepIn K (.ref (He.ga K "_law_of")),
  fun K => decide (PySem.W.nsIn K mainGlobals "_law_right" = some (some (.ref (He.ga K "_law_right")))),
  fun K => PySem.W.keepIn K (.ref (He.ga K "_law_right")),
  fun K => decide (PySem.W.nsIn K mainGlobals "law" = some (some (.ref (He.ga K "law")))),
  fun K => PySem.W.keepIn K (.ref (He.ga K "law")),
  fun K => decide (PySem.W.nsIn K mainGlobals "ValueError" = some none),
  fun K => decide (PySem.W.nsIn K mainGlobals "abs" = some none),
  fun K => decide (PySem.W.nsIn K mainGlobals "all" = some none),
  fun K => decide (PySem.W.nsIn K mainGlobals "bool" = some none),
  fun K => decide (PySem.W.nsIn K mainGlobals "int" = some none),
  fun K => decide (PySem.W.nsIn K mainGlobals "isinstance" = some none),
  fun K => decide (PySem.W.nsIn K mainGlobals "len" = some none),
  fun K => decide (PySem.W.nsIn K mainGlobals "list" = some none),
  fun K => decide (PySem.W.nsIn K mainGlobals "max" = some none),
  fun K => decide (PySem.W.nsIn K mainGlobals "min" = some none),
  fun K => decide (PySem.W.nsIn K mainGlobals "range" = some none),
  fun K => decide (PySem.W.nsIn K mainGlobals "repr" = some none),
  fun K => decide (PySem.W.nsIn K mainGlobals "reversed" = some none),
  fun K => decide (PySem.W.nsIn K mainGlobals "sorted" = some none),
  fun K => decide (PySem.W.nsIn K mainGlobals "tuple" = some none),
  fun K => (He.Fa.str "ALWAYS" "always").ok K,
  fun K => (He.Fa.int "MOST_WORDS" 300).ok K,
  fun K => (He.Fa.str "NEVER" "never").ok K,
  fun K => (He.Fa.int "PAIR" 2).ok K,
  fun K => (He.Fa.str "SOMETIMES" "sometimes").ok K,
  fun K => erB K (He.ga K "BadPlace"),
  fun K => decide (PySem.W.findIn K (.ref (He.ga K "BadPlace")) "value" = some none),
  fun K => decide (PySem.W.exmOne K (.ref (He.ga K "BadPlace")) (.ref (He.ga K "LineError")) = some true)]
def xsL4 : List (PySem.W.Frag → Bool) := [fun K => decide (PySem.W.kitOne K (.ref (He.ga K "BadPlace")) (.ref (He.ga K "BadPlace")) = some true),
  fun K => decide (PySem.W.kitOne K (.ref (He.ga K "BadPlace")) (.type "ValueError") = some true),
  fun K => decide (PySem.W.kitAny K (.ref (He.ga K "BadPlace")) [.ref (He.ga K "BadText"), .ref (He.ga K "BadWidth"), .ref (He.ga K "BadWord"), .ref (He.ga K "TooLong")] = some false)]
def xsL : List (PySem.W.Frag → Bool) := xsL0 ++ xsL1 ++ xsL2 ++ xsL3 ++ xsL4
def mkL : List (PySem.W.Frag → Addr) := [fun K => (He.ga K "_law_right")]
theorem head_ok {l : PySem.W.OpenLaw} {w : World} {K : PySem.W.Frag} {h : Heap} {mg : Str → Option Value} {fa : Addr} (X : K.In h) (G : h.Ns mainGlobals mg) (hfa : mg "law" = some (.ref fa)) (c : SaysQ fnL xsL mkL h K) :
    ∃ (cs : Cs), CsAt K h cs ∧ ∃ (fd : FuncData), (∀ (s : Shared) (v : Value), BindsTo s fd ⟨[v], []⟩ [("_law_script", v)]) ∧ ∀ base : Heap, K.In base → base.Ns mainGlobals mg → (∀ p ∈ cs, LamX.TabB base mg p.1 p.2.1) → FnG l.prog w K mg base (Cs.tq cs) 18 fa fd ["_law_script"] (spLaw K) := by
  have aaGoers : PySem.W.nsIn K mainGlobals "Goers" = some (some (.ref (He.ga K "Goers"))) := of_decide_eq_true (exF c.xs 0 rfl)
  have pgGoers : PySem.W.plainGet K (He.ga K "Goers") Str.empty = true := exF c.xs 1 rfl
  have hdGoers : PySem.W.hasDictIn K (He.ga K "Goers") = true := exF c.xs 2 rfl
  have poGoers : PySem.W.plainOver K (He.ga K "Goers") = true := exF c.xs 3 rfl
  have saGoers : PySem.W.findIn K (.ref (He.ga K "Goers")) "__setattr__" = some (some (.builtin "object.__setattr__")) := of_decide_eq_true (exF c.xs 4 rfl)
  have mkGoers : PySem.W.makesIn K (He.ga K "Goers") = true := exF c.xs 5 rfl
  have kcGoers : PySem.W.keepIn K (.ref (He.ga K "Goers")) = true := exF c.xs 6 rfl
  have nGoers_most : PySem.W.findIn K (.ref (He.ga K "Goers")) "most" = some none := of_decide_eq_true (exF c.xs 7 rfl)
  have nGoers_table : PySem.W.findIn K (.ref (He.ga K "Goers")) "table" = some none := of_decide_eq_true (exF c.xs 8 rfl)
  have nGoers_reaches : PySem.W.findIn K (.ref (He.ga K "Goers")) "reaches" = some none := of_decide_eq_true (exF c.xs 9 rfl)
  have aaTable : PySem.W.nsIn K mainGlobals "Table" = some (some (.ref (He.ga K "Table"))) := of_decide_eq_true (exF c.xs 10 rfl)
  have pgTable : PySem.W.plainGet K (He.ga K "Table") Str.empty = true := exF c.xs 11 rfl
  have hdTable : PySem.W.hasDictIn K (He.ga K "Table") = true := exF c.xs 12 rfl
  have poTable : PySem.W.plainOver K (He.ga K "Table") = true := exF c.xs 13 rfl
  have saTable : PySem.W.findIn K (.ref (He.ga K "Table")) "__setattr__" = some (some (.builtin "object.__setattr__")) := of_decide_eq_true (exF c.xs 14 rfl)
  have mkTable : PySem.W.makesIn K (He.ga K "Table") = true := exF c.xs 15 rfl
  have kcTable : PySem.W.keepIn K (.ref (He.ga K "Table")) = true := exF c.xs 16 rfl
  have nTable_wide : PySem.W.findIn K (.ref (He.ga K "Table")) "wide" = some none := of_decide_eq_true (exF c.xs 17 rfl)
  have nTable_sums : PySem.W.findIn K (.ref (He.ga K "Table")) "sums" = some none := of_decide_eq_true (exF c.xs 18 rfl)
  have nTable_costs : PySem.W.findIn K (.ref (He.ga K "Table")) "costs" = some none := of_decide_eq_true (exF c.xs 19 rfl)
  have nTable_befores : PySem.W.findIn K (.ref (He.ga K "Table")) "befores" = some none := of_decide_eq_true (exF c.xs 20 rfl)
  have aaBadPlace : PySem.W.nsIn K mainGlobals "BadPlace" = some (some (.ref (He.ga K "BadPlace"))) := of_decide_eq_true (exF c.xs 21 rfl)
  have aaBadText : PySem.W.nsIn K mainGlobals "BadText" = some (some (.ref (He.ga K "BadText"))) := of_decide_eq_true (exF c.xs 22 rfl)
  have aaBadWidth : PySem.W.nsIn K mainGlobals "BadWidth" = some (some (.ref (He.ga K "BadWidth"))) := of_decide_eq_true (exF c.xs 23 rfl)
  have aaBadWord : PySem.W.nsIn K mainGlobals "BadWord" = some (some (.ref (He.ga K "BadWord"))) := of_decide_eq_true (exF c.xs 24 rfl)
  have aaLineError : PySem.W.nsIn K mainGlobals "LineError" = some (some (.ref (He.ga K "LineError"))) := of_decide_eq_true (exF c.xs 25 rfl)
  have aaTooLong : PySem.W.nsIn K mainGlobals "TooLong" = some (some (.ref (He.ga K "TooLong"))) := of_decide_eq_true (exF c.xs 26 rfl)
  obtain ⟨_, _, _, _, _, _, _, _, _, _, _, _, _, _, _, lkBadPlace, rvBadPlace⟩ := excQ_of (show excQ K (He.ga K "BadPlace") = true from exF c.xs 27 rfl)
  have saBadPlace : PySem.W.findIn K (.ref (He.ga K "BadPlace")) "__setattr__" = some (some (.builtin "object.__setattr__")) := of_decide_eq_true (exF c.xs 28 rfl)
  have exBadPlace : PySem.W.subIn K (.ref (He.ga K "BadPlace")) (.type "BaseException") = some true := of_decide_eq_true (exF c.xs 29 rfl)
  have tyBadPlace : PySem.W.typeIn K (.ref (He.ga K "BadPlace")) = some (.type "type") := of_decide_eq_true (exF c.xs 30 rfl)
  have kcBadPlace : PySem.W.keepIn K (.ref (He.ga K "BadPlace")) = true := exF c.xs 31 rfl
  have noBadPlace : PySem.W.findIn K (.ref (He.ga K "BadPlace")) "value" = some none := of_decide_eq_true (exF c.xs 32 rfl)
  have rdLineError : PySem.W.readsIn K (He.ga K "LineError") (.type "type") = true := exF c.xs 33 rfl
  have gaLineError : PySem.W.specialIn K (.ref (He.ga K "LineError")) "__getattribute__" = some (some (.builtin "type.__getattribute__")) := of_decide_eq_true (exF c.xs 34 rfl)
  have hkLineError : cvB (PySem.W.findCls K (.ref (He.ga K "LineError")) (.type "type") "__init__") "ValueError.__init__" = true := exF c.xs 35 rfl
  replace hkLineError := cvB_ok hkLineError
  have a0 : PySem.W.nsIn K mainGlobals "sums_of" = some (some (.ref (He.ga K "sums_of"))) := of_decide_eq_true (exF c.xs 36 rfl)
  obtain ⟨oc0, od0, kV0, dc0, pm0, an0, cd0, ct0, sl0, l0, c0⟩ := FnQ.get0 (c.fns 0 _ rfl).1 (c.fns 0 _ rfl).2 rfl
  replace l0 : K.lookup (He.ga K "sums_of") = some ⟨oc0, od0, .func (PySem.W.fnOf "sums_of" "sums_of" (defArgs (topS 13)) (defBody (topS 13)) (defScope (topS 13)) .none kV0 dc0 pm0 an0 cd0 ct0), sl0⟩ := l0
  replace c0 : PySem.W.codeIn K cd0 "sums_of" = true := c0
  have k0 : PySem.W.keepIn K (.ref (He.ga K "sums_of")) = true := exF c.xs 37 rfl
  have a1 : PySem.W.nsIn K mainGlobals "length_by" = some (some (.ref (He.ga K "length_by"))) := of_decide_eq_true (exF c.xs 38 rfl)
  obtain ⟨oc1, od1, kV1, dc1, pm1, an1, cd1, ct1, sl1, l1, c1⟩ := FnQ.get0 (c.fns 1 _ rfl).1 (c.fns 1 _ rfl).2 rfl
  replace l1 : K.lookup (He.ga K "length_by") = some ⟨oc1, od1, .func (PySem.W.fnOf "length_by" "length_by" (defArgs (topS 14)) (defBody (topS 14)) (defScope (topS 14)) .none kV1 dc1 pm1 an1 cd1 ct1), sl1⟩ := l1
  replace c1 : PySem.W.codeIn K cd1 "length_by" = true := c1
  have k1 : PySem.W.keepIn K (.ref (He.ga K "length_by")) = true := exF c.xs 39 rfl
  have a2 : PySem.W.findIn K (.ref (He.ga K "Table")) "begins" = some (some (.ref (He.ma K (He.ga K "Table") "begins"))) := of_decide_eq_true (exF c.xs 40 rfl)
  have i2 : PySem.W.isFn K (.ref (He.ma K (He.ga K "Table") "begins")) = true := exF c.xs 41 rfl
  obtain ⟨oc2, od2, kV2, dc2, pm2, an2, cd2, ct2, sl2, l2, c2⟩ := FnQ.get0 (c.fns 2 _ rfl).1 (c.fns 2 _ rfl).2 rfl
  replace l2 : K.lookup (He.ma K (He.ga K "Table") "begins") = some ⟨oc2, od2, .func (PySem.W.fnOf "begins" "Table.begins" (defArgs (inClass (topS 16) 1)) (defBody (inClass (topS 16) 1)) (defScope (inClass (topS 16) 1)) .none kV2 dc2 pm2 an2 cd2 ct2), sl2⟩ := l2
  replace c2 : PySem.W.codeIn K cd2 "Table.begins" = true := c2
  have k2 : PySem.W.keepIn K (.ref (He.ma K (He.ga K "Table") "begins")) = true := exF c.xs 42 rfl
  have a3 : PySem.W.findIn K (.ref (He.ga K "Table")) "square" = some (some (.ref (He.ma K (He.ga K "Table") "square"))) := of_decide_eq_true (exF c.xs 43 rfl)
  have i3 : PySem.W.isFn K (.ref (He.ma K (He.ga K "Table") "square")) = true := exF c.xs 44 rfl
  obtain ⟨oc3, od3, kV3, dc3, pm3, an3, cd3, ct3, sl3, l3, c3⟩ := FnQ.get0 (c.fns 3 _ rfl).1 (c.fns 3 _ rfl).2 rfl
  replace l3 : K.lookup (He.ma K (He.ga K "Table") "square") = some ⟨oc3, od3, .func (PySem.W.fnOf "square" "Table.square" (defArgs (inClass (topS 16) 2)) (defBody (inClass (topS 16) 2)) (defScope (inClass (topS 16) 2)) .none kV3 dc3 pm3 an3 cd3 ct3), sl3⟩ := l3
  replace c3 : PySem.W.codeIn K cd3 "Table.square" = true := c3
  have k3 : PySem.W.keepIn K (.ref (He.ma K (He.ga K "Table") "square")) = true := exF c.xs 45 rfl
  have a4 : PySem.W.findIn K (.ref (He.ga K "Table")) "way" = some (some (.ref (He.ma K (He.ga K "Table") "way"))) := of_decide_eq_true (exF c.xs 46 rfl)
  have i4 : PySem.W.isFn K (.ref (He.ma K (He.ga K "Table") "way")) = true := exF c.xs 47 rfl
  obtain ⟨oc4, od4, kV4, dc4, pm4, an4, cd4, ct4, sl4, l4, c4⟩ := FnQ.get0 (c.fns 4 _ rfl).1 (c.fns 4 _ rfl).2 rfl
  replace l4 : K.lookup (He.ma K (He.ga K "Table") "way") = some ⟨oc4, od4, .func (PySem.W.fnOf "way" "Table.way" (defArgs (inClass (topS 16) 3)) (defBody (inClass (topS 16) 3)) (defScope (inClass (topS 16) 3)) .none kV4 dc4 pm4 an4 cd4 ct4), sl4⟩ := l4
  replace c4 : PySem.W.codeIn K cd4 "Table.way" = true := c4
  have k4 : PySem.W.keepIn K (.ref (He.ma K (He.ga K "Table") "way")) = true := exF c.xs 48 rfl
  have a5 : PySem.W.findIn K (.ref (He.ga K "Table")) "last_start" = some (some (.ref (He.ma K (He.ga K "Table") "last_start"))) := of_decide_eq_true (exF c.xs 49 rfl)
  have i5 : PySem.W.isFn K (.ref (He.ma K (He.ga K "Table") "last_start")) = true := exF c.xs 50 rfl
  obtain ⟨oc5, od5, kV5, dc5, pm5, an5, cd5, ct5, sl5, l5, c5⟩ := FnQ.get0 (c.fns 5 _ rfl).1 (c.fns 5 _ rfl).2 rfl
  replace l5 : K.lookup (He.ma K (He.ga K "Table") "last_start") = some ⟨oc5, od5, .func (PySem.W.fnOf "last_start" "Table.last_start" (defArgs (inClass (topS 16) 4)) (defBody (inClass (topS 16) 4)) (defScope (inClass (topS 16) 4)) .none kV5 dc5 pm5 an5 cd5 ct5), sl5⟩ := l5
  replace c5 : PySem.W.codeIn K cd5 "Table.last_start" = true := c5
  have k5 : PySem.W.keepIn K (.ref (He.ma K (He.ga K "Table") "last_start")) = true := exF c.xs 51 rfl
  have a6 : PySem.W.findIn K (.ref (He.ga K "Table")) "__init__" = some (some (.ref (He.ma K (He.ga K "Table") "__init__"))) := of_decide_eq_true (exF c.xs 52 rfl)
  have i6 : PySem.W.isFn K (.ref (He.ma K (He.ga K "Table") "__init__")) = true := exF c.xs 53 rfl
  obtain ⟨oc6, od6, kV6, dc6, pm6, an6, cd6, ct6, sl6, l6, c6⟩ := FnQ.get0 (c.fns 6 _ rfl).1 (c.fns 6 _ rfl).2 rfl
  replace l6 : K.lookup (He.ma K (He.ga K "Table") "__init__") = some ⟨oc6, od6, .func (PySem.W.fnOf "__init__" "Table.__init__" (defArgs (inClass (topS 16) 0)) (defBody (inClass (topS 16) 0)) (defScope (inClass (topS 16) 0)) .none kV6 dc6 pm6 an6 cd6 ct6), sl6⟩ := l6
  replace c6 : PySem.W.codeIn K cd6 "Table.__init__" = true := c6
  have k6 : PySem.W.keepIn K (.ref (He.ma K (He.ga K "Table") "__init__")) = true := exF c.xs 54 rfl
  have a7 : PySem.W.nsIn K mainGlobals "best_layout" = some (some (.ref (He.ga K "best_layout"))) := of_decide_eq_true (exF c.xs 55 rfl)
  obtain ⟨oc7, od7, kV7, dc7, pm7, an7, cd7, ct7, sl7, l7, c7⟩ := FnQ.get0 (c.fns 7 _ rfl).1 (c.fns 7 _ rfl).2 rfl
  replace l7 : K.lookup (He.ga K "best_layout") = some ⟨oc7, od7, .func (PySem.W.fnOf "best_layout" "best_layout" (defArgs (topS 17)) (defBody (topS 17)) (defScope (topS 17)) .none kV7 dc7 pm7 an7 cd7 ct7), sl7⟩ := l7
  replace c7 : PySem.W.codeIn K cd7 "best_layout" = true := c7
  have k7 : PySem.W.keepIn K (.ref (He.ga K "best_layout")) = true := exF c.xs 56 rfl
  have a8 : PySem.W.findIn K (.ref (He.ga K "Goers")) "room" = some (some (.ref (He.ma K (He.ga K "Goers") "room"))) := of_decide_eq_true (exF c.xs 57 rfl)
  have i8 : PySem.W.isFn K (.ref (He.ma K (He.ga K "Goers") "room")) = true := exF c.xs 58 rfl
  obtain ⟨oc8, od8, kV8, dc8, pm8, an8, cd8, ct8, sl8, l8, c8⟩ := FnQ.get0 (c.fns 8 _ rfl).1 (c.fns 8 _ rfl).2 rfl
  replace l8 : K.lookup (He.ma K (He.ga K "Goers") "room") = some ⟨oc8, od8, .func (PySem.W.fnOf "room" "Goers.room" (defArgs (inClass (topS 19) 1)) (defBody (inClass (topS 19) 1)) (defScope (inClass (topS 19) 1)) .none kV8 dc8 pm8 an8 cd8 ct8), sl8⟩ := l8
  replace c8 : PySem.W.codeIn K cd8 "Goers.room" = true := c8
  have k8 : PySem.W.keepIn K (.ref (He.ma K (He.ga K "Goers") "room")) = true := exF c.xs 59 rfl
  have a9 : PySem.W.findIn K (.ref (He.ga K "Goers")) "fitting" = some (some (.ref (He.ma K (He.ga K "Goers") "fitting"))) := of_decide_eq_true (exF c.xs 60 rfl)
  have i9 : PySem.W.isFn K (.ref (He.ma K (He.ga K "Goers") "fitting")) = true := exF c.xs 61 rfl
  obtain ⟨oc9, od9, kV9, dc9, pm9, an9, cd9, ct9, sl9, l9, c9⟩ := FnQ.get0 (c.fns 9 _ rfl).1 (c.fns 9 _ rfl).2 rfl
  replace l9 : K.lookup (He.ma K (He.ga K "Goers") "fitting") = some ⟨oc9, od9, .func (PySem.W.fnOf "fitting" "Goers.fitting" (defArgs (inClass (topS 19) 2)) (defBody (inClass (topS 19) 2)) (defScope (inClass (topS 19) 2)) .none kV9 dc9 pm9 an9 cd9 ct9), sl9⟩ := l9
  replace c9 : PySem.W.codeIn K cd9 "Goers.fitting" = true := c9
  have k9 : PySem.W.keepIn K (.ref (He.ma K (He.ga K "Goers") "fitting")) = true := exF c.xs 62 rfl
  have a10 : PySem.W.findIn K (.ref (He.ga K "Goers")) "closed_cost_at" = some (some (.ref (He.ma K (He.ga K "Goers") "closed_cost_at"))) := of_decide_eq_true (exF c.xs 63 rfl)
  have i10 : PySem.W.isFn K (.ref (He.ma K (He.ga K "Goers") "closed_cost_at")) = true := exF c.xs 64 rfl
  obtain ⟨oc10, od10, kV10, dc10, pm10, an10, cd10, ct10, sl10, l10, c10⟩ := FnQ.get0 (c.fns 10 _ rfl).1 (c.fns 10 _ rfl).2 rfl
  replace l10 : K.lookup (He.ma K (He.ga K "Goers") "closed_cost_at") = some ⟨oc10, od10, .func (PySem.W.fnOf "closed_cost_at" "Goers.closed_cost_at" (defArgs (inClass (topS 19) 3)) (defBody (inClass (topS 19) 3)) (defScope (inClass (topS 19) 3)) .none kV10 dc10 pm10 an10 cd10 ct10), sl10⟩ := l10
  replace c10 : PySem.W.codeIn K cd10 "Goers.closed_cost_at" = true := c10
  have k10 : PySem.W.keepIn K (.ref (He.ma K (He.ga K "Goers") "closed_cost_at")) = true := exF c.xs 65 rfl
  have a11 : PySem.W.findIn K (.ref (He.ga K "Goers")) "closing_start" = some (some (.ref (He.ma K (He.ga K "Goers") "closing_start"))) := of_decide_eq_true (exF c.xs 66 rfl)
  have i11 : PySem.W.isFn K (.ref (He.ma K (He.ga K "Goers") "closing_start")) = true := exF c.xs 67 rfl
  obtain ⟨oc11, od11, kV11, dc11, pm11, an11, cd11, ct11, sl11, l11, c11⟩ := FnQ.get0 (c.fns 11 _ rfl).1 (c.fns 11 _ rfl).2 rfl
  replace l11 : K.lookup (He.ma K (He.ga K "Goers") "closing_start") = some ⟨oc11, od11, .func (PySem.W.fnOf "closing_start" "Goers.closing_start" (defArgs (inClass (topS 19) 4)) (defBody (inClass (topS 19) 4)) (defScope (inClass (topS 19) 4)) .none kV11 dc11 pm11 an11 cd11 ct11), sl11⟩ := l11
  replace c11 : PySem.W.codeIn K cd11 "Goers.closing_start" = true := c11
  have k11 : PySem.W.keepIn K (.ref (He.ma K (He.ga K "Goers") "closing_start")) = true := exF c.xs 68 rfl
  have a12 : PySem.W.findIn K (.ref (He.ga K "Goers")) "open_start" = some (some (.ref (He.ma K (He.ga K "Goers") "open_start"))) := of_decide_eq_true (exF c.xs 69 rfl)
  have i12 : PySem.W.isFn K (.ref (He.ma K (He.ga K "Goers") "open_start")) = true := exF c.xs 70 rfl
  obtain ⟨oc12, od12, kV12, dc12, pm12, an12, cd12, ct12, sl12, l12, c12⟩ := FnQ.get0 (c.fns 12 _ rfl).1 (c.fns 12 _ rfl).2 rfl
  replace l12 : K.lookup (He.ma K (He.ga K "Goers") "open_start") = some ⟨oc12, od12, .func (PySem.W.fnOf "open_start" "Goers.open_start" (defArgs (inClass (topS 19) 5)) (defBody (inClass (topS 19) 5)) (defScope (inClass (topS 19) 5)) .none kV12 dc12 pm12 an12 cd12 ct12), sl12⟩ := l12
  replace c12 : PySem.W.codeIn K cd12 "Goers.open_start" = true := c12
  have k12 : PySem.W.keepIn K (.ref (He.ma K (He.ga K "Goers") "open_start")) = true := exF c.xs 71 rfl
  have a13 : PySem.W.findIn K (.ref (He.ga K "Goers")) "last_fitting" = some (some (.ref (He.ma K (He.ga K "Goers") "last_fitting"))) := of_decide_eq_true (exF c.xs 72 rfl)
  have i13 : PySem.W.isFn K (.ref (He.ma K (He.ga K "Goers") "last_fitting")) = true := exF c.xs 73 rfl
  obtain ⟨oc13, od13, kV13, dc13, pm13, an13, cd13, ct13, sl13, l13, c13⟩ := FnQ.get0 (c.fns 13 _ rfl).1 (c.fns 13 _ rfl).2 rfl
  replace l13 : K.lookup (He.ma K (He.ga K "Goers") "last_fitting") = some ⟨oc13, od13, .func (PySem.W.fnOf "last_fitting" "Goers.last_fitting" (defArgs (inClass (topS 19) 6)) (defBody (inClass (topS 19) 6)) (defScope (inClass (topS 19) 6)) .none kV13 dc13 pm13 an13 cd13 ct13), sl13⟩ := l13
  replace c13 : PySem.W.codeIn K cd13 "Goers.last_fitting" = true := c13
  have k13 : PySem.W.keepIn K (.ref (He.ma K (He.ga K "Goers") "last_fitting")) = true := exF c.xs 74 rfl
  have a14 : PySem.W.findIn K (.ref (He.ga K "Goers")) "last_closing" = some (some (.ref (He.ma K (He.ga K "Goers") "last_closing"))) := of_decide_eq_true (exF c.xs 75 rfl)
  have i14 : PySem.W.isFn K (.ref (He.ma K (He.ga K "Goers") "last_closing")) = true := exF c.xs 76 rfl
  obtain ⟨oc14, od14, kV14, dc14, pm14, an14, cd14, ct14, sl14, l14, c14⟩ := FnQ.get0 (c.fns 14 _ rfl).1 (c.fns 14 _ rfl).2 rfl
  replace l14 : K.lookup (He.ma K (He.ga K "Goers") "last_closing") = some ⟨oc14, od14, .func (PySem.W.fnOf "last_closing" "Goers.last_closing" (defArgs (inClass (topS 19) 7)) (defBody (inClass (topS 19) 7)) (defScope (inClass (topS 19) 7)) .none kV14 dc14 pm14 an14 cd14 ct14), sl14⟩ := l14
  replace c14 : PySem.W.codeIn K cd14 "Goers.last_closing" = true := c14
  have k14 : PySem.W.keepIn K (.ref (He.ma K (He.ga K "Goers") "last_closing")) = true := exF c.xs 77 rfl
  have a15 : PySem.W.findIn K (.ref (He.ga K "Goers")) "__init__" = some (some (.ref (He.ma K (He.ga K "Goers") "__init__"))) := of_decide_eq_true (exF c.xs 78 rfl)
  have i15 : PySem.W.isFn K (.ref (He.ma K (He.ga K "Goers") "__init__")) = true := exF c.xs 79 rfl
  obtain ⟨oc15, od15, kV15, dc15, pm15, an15, cd15, ct15, sl15, l15, c15⟩ := FnQ.get0 (c.fns 15 _ rfl).1 (c.fns 15 _ rfl).2 rfl
  replace l15 : K.lookup (He.ma K (He.ga K "Goers") "__init__") = some ⟨oc15, od15, .func (PySem.W.fnOf "__init__" "Goers.__init__" (defArgs (inClass (topS 19) 0)) (defBody (inClass (topS 19) 0)) (defScope (inClass (topS 19) 0)) .none kV15 dc15 pm15 an15 cd15 ct15), sl15⟩ := l15
  replace c15 : PySem.W.codeIn K cd15 "Goers.__init__" = true := c15
  have k15 : PySem.W.keepIn K (.ref (He.ma K (He.ga K "Goers") "__init__")) = true := exF c.xs 80 rfl
  have a16 : PySem.W.findIn K (.ref (He.ga K "Goers")) "ranges" = some (some (.ref (He.ma K (He.ga K "Goers") "ranges"))) := of_decide_eq_true (exF c.xs 81 rfl)
  have i16 : PySem.W.isFn K (.ref (He.ma K (He.ga K "Goers") "ranges")) = true := exF c.xs 82 rfl
  obtain ⟨oc16, od16, kV16, dc16, pm16, an16, cd16, ct16, sl16, l16, c16⟩ := FnQ.get0 (c.fns 16 _ rfl).1 (c.fns 16 _ rfl).2 rfl
  replace l16 : K.lookup (He.ma K (He.ga K "Goers") "ranges") = some ⟨oc16, od16, .func (PySem.W.fnOf "ranges" "Goers.ranges" (defArgs (inClass (topS 19) 8)) (defBody (inClass (topS 19) 8)) (defScope (inClass (topS 19) 8)) .none kV16 dc16 pm16 an16 cd16 ct16), sl16⟩ := l16
  replace c16 : PySem.W.codeIn K cd16 "Goers.ranges" = true := c16
  have k16 : PySem.W.keepIn K (.ref (He.ma K (He.ga K "Goers") "ranges")) = true := exF c.xs 83 rfl
  have a17 : PySem.W.nsIn K mainGlobals "closing_starts" = some (some (.ref (He.ga K "closing_starts"))) := of_decide_eq_true (exF c.xs 84 rfl)
  obtain ⟨oc17, od17, kV17, dc17, pm17, an17, cd17, ct17, sl17, l17, c17⟩ := FnQ.get0 (c.fns 17 _ rfl).1 (c.fns 17 _ rfl).2 rfl
  replace l17 : K.lookup (He.ga K "closing_starts") = some ⟨oc17, od17, .func (PySem.W.fnOf "closing_starts" "closing_starts" (defArgs (topS 20)) (defBody (topS 20)) (defScope (topS 20)) .none kV17 dc17 pm17 an17 cd17 ct17), sl17⟩ := l17
  replace c17 : PySem.W.codeIn K cd17 "closing_starts" = true := c17
  have k17 : PySem.W.keepIn K (.ref (He.ga K "closing_starts")) = true := exF c.xs 85 rfl
  have a18 : PySem.W.nsIn K mainGlobals "open_starts" = some (some (.ref (He.ga K "open_starts"))) := of_decide_eq_true (exF c.xs 86 rfl)
  obtain ⟨oc18, od18, kV18, dc18, pm18, an18, cd18, ct18, sl18, l18, c18⟩ := FnQ.get0 (c.fns 18 _ rfl).1 (c.fns 18 _ rfl).2 rfl
  replace l18 : K.lookup (He.ga K "open_starts") = some ⟨oc18, od18, .func (PySem.W.fnOf "open_starts" "open_starts" (defArgs (topS 21)) (defBody (topS 21)) (defScope (topS 21)) .none kV18 dc18 pm18 an18 cd18 ct18), sl18⟩ := l18
  replace c18 : PySem.W.codeIn K cd18 "open_starts" = true := c18
  have k18 : PySem.W.keepIn K (.ref (He.ga K "open_starts")) = true := exF c.xs 87 rfl
  have a19 : PySem.W.nsIn K mainGlobals "starts" = some (some (.ref (He.ga K "starts"))) := of_decide_eq_true (exF c.xs 88 rfl)
  obtain ⟨oc19, od19, kV19, dc19, pm19, an19, cd19, ct19, sl19, l19, c19⟩ := FnQ.get0 (c.fns 19 _ rfl).1 (c.fns 19 _ rfl).2 rfl
  replace l19 : K.lookup (He.ga K "starts") = some ⟨oc19, od19, .func (PySem.W.fnOf "starts" "starts" (defArgs (topS 22)) (defBody (topS 22)) (defScope (topS 22)) .none kV19 dc19 pm19 an19 cd19 ct19), sl19⟩ := l19
  replace c19 : PySem.W.codeIn K cd19 "starts" = true := c19
  have k19 : PySem.W.keepIn K (.ref (He.ga K "starts")) = true := exF c.xs 89 rfl
  have a20 : PySem.W.nsIn K mainGlobals "_law_pot" = some (some (.ref (He.ga K "_law_pot"))) := of_decide_eq_true (exF c.xs 90 rfl)
  obtain ⟨oc20, od20, kV20, dc20, pm20, an20, cd20, ct20, sl20, l20, c20⟩ := FnQ.get0 (c.fns 20 _ rfl).1 (c.fns 20 _ rfl).2 rfl
  replace l20 : K.lookup (He.ga K "_law_pot") = some ⟨oc20, od20, .func (PySem.W.fnOf "_law_pot" "_law_pot" (defArgs (topS 38)) (defBody (topS 38)) (defScope (topS 38)) .none kV20 dc20 pm20 an20 cd20 ct20), sl20⟩ := l20
  replace c20 : PySem.W.codeIn K cd20 "_law_pot" = true := c20
  have k20 : PySem.W.keepIn K (.ref (He.ga K "_law_pot")) = true := exF c.xs 91 rfl
  have a21 : PySem.W.nsIn K mainGlobals "_law_take" = some (some (.ref (He.ga K "_law_take"))) := of_decide_eq_true (exF c.xs 92 rfl)
  obtain ⟨oc21, od21, kV21, dc21, pm21, an21, cd21, ct21, sl21, l21, c21⟩ := FnQ.get0 (c.fns 21 _ rfl).1 (c.fns 21 _ rfl).2 rfl
  replace l21 : K.lookup (He.ga K "_law_take") = some ⟨oc21, od21, .func (PySem.W.fnOf "_law_take" "_law_take" (defArgs (topS 39)) (defBody (topS 39)) (defScope (topS 39)) .none kV21 dc21 pm21 an21 cd21 ct21), sl21⟩ := l21
  replace c21 : PySem.W.codeIn K cd21 "_law_take" = true := c21
  have k21 : PySem.W.keepIn K (.ref (He.ga K "_law_take")) = true := exF c.xs 93 rfl
  have a22 : PySem.W.nsIn K mainGlobals "_law_of" = some (some (.ref (He.ga K "_law_of"))) := of_decide_eq_true (exF c.xs 94 rfl)
  obtain ⟨oc22, od22, kV22, dc22, pm22, an22, cd22, ct22, sl22, l22, c22⟩ := FnQ.get0 (c.fns 22 _ rfl).1 (c.fns 22 _ rfl).2 rfl
  replace l22 : K.lookup (He.ga K "_law_of") = some ⟨oc22, od22, .func (PySem.W.fnOf "_law_of" "_law_of" (defArgs (topS 40)) (defBody (topS 40)) (defScope (topS 40)) .none kV22 dc22 pm22 an22 cd22 ct22), sl22⟩ := l22
  replace c22 : PySem.W.codeIn K cd22 "_law_of" = true := c22
  have k22 : PySem.W.keepIn K (.ref (He.ga K "_law_of")) = true := exF c.xs 95 rfl
  have a23 : PySem.W.nsIn K mainGlobals "_law_drawn" = some (some (.ref (He.ga K "_law_drawn"))) := of_decide_eq_true (exF c.xs 96 rfl)
  obtain ⟨oc23, od23, kV23, dc23, pm23, an23, cd23, ct23, sl23, l23, c23⟩ := FnQ.get0 (c.fns 23 _ rfl).1 (c.fns 23 _ rfl).2 rfl
  replace l23 : K.lookup (He.ga K "_law_drawn") = some ⟨oc23, od23, .func (PySem.W.fnOf "_law_drawn" "_law_drawn" (defArgs (topS 41)) (defBody (topS 41)) (defScope (topS 41)) .none kV23 dc23 pm23 an23 cd23 ct23), sl23⟩ := l23
  replace c23 : PySem.W.codeIn K cd23 "_law_drawn" = true := c23
  have k23 : PySem.W.keepIn K (.ref (He.ga K "_law_drawn")) = true := exF c.xs 97 rfl
  have a24 : PySem.W.nsIn K mainGlobals "all_ends" = some (some (.ref (He.ga K "all_ends"))) := of_decide_eq_true (exF c.xs 98 rfl)
  obtain ⟨oc24, od24, kV24, dc24, pm24, an24, cd24, ct24, sl24, l24, c24⟩ := FnQ.get0 (c.fns 24 _ rfl).1 (c.fns 24 _ rfl).2 rfl
  replace l24 : K.lookup (He.ga K "all_ends") = some ⟨oc24, od24, .func (PySem.W.fnOf "all_ends" "all_ends" (defArgs (topS 29)) (defBody (topS 29)) (defScope (topS 29)) .none kV24 dc24 pm24 an24 cd24 ct24), sl24⟩ := l24
  replace c24 : PySem.W.codeIn K cd24 "all_ends" = true := c24
  have k24 : PySem.W.keepIn K (.ref (He.ga K "all_ends")) = true := exF c.xs 99 rfl
  have a25 : PySem.W.nsIn K mainGlobals "counted_states" = some (some (.ref (He.ga K "counted_states"))) := of_decide_eq_true (exF c.xs 100 rfl)
  obtain ⟨oc25, od25, kV25, dc25, pm25, an25, cd25, ct25, sl25, l25, c25⟩ := FnQ.get0 (c.fns 25 _ rfl).1 (c.fns 25 _ rfl).2 rfl
  replace l25 : K.lookup (He.ga K "counted_states") = some ⟨oc25, od25, .func (PySem.W.fnOf "counted_states" "counted_states" (defArgs (topS 30)) (defBody (topS 30)) (defScope (topS 30)) .none kV25 dc25 pm25 an25 cd25 ct25), sl25⟩ := l25
  replace c25 : PySem.W.codeIn K cd25 "counted_states" = true := c25
  have k25 : PySem.W.keepIn K (.ref (He.ga K "counted_states")) = true := exF c.xs 101 rfl
  have a26 : PySem.W.nsIn K mainGlobals "states" = some (some (.ref (He.ga K "states"))) := of_decide_eq_true (exF c.xs 102 rfl)
  obtain ⟨oc26, od26, kV26, dc26, pm26, an26, cd26, ct26, sl26, l26, c26⟩ := FnQ.get0 (c.fns 26 _ rfl).1 (c.fns 26 _ rfl).2 rfl
  replace l26 : K.lookup (He.ga K "states") = some ⟨oc26, od26, .func (PySem.W.fnOf "states" "states" (defArgs (topS 31)) (defBody (topS 31)) (defScope (topS 31)) .none kV26 dc26 pm26 an26 cd26 ct26), sl26⟩ := l26
  replace c26 : PySem.W.codeIn K cd26 "states" = true := c26
  have k26 : PySem.W.keepIn K (.ref (He.ga K "states")) = true := exF c.xs 103 rfl
  have a27 : PySem.W.findIn K (.ref (He.ga K "BadPlace")) "__init__" = some (some (.ref (He.ma K (He.ga K "BadPlace") "__init__"))) := of_decide_eq_true (exF c.xs 104 rfl)
  have i27 : PySem.W.typeIn K (.ref (He.ma K (He.ga K "BadPlace") "__init__")) = some (.type "function") := of_decide_eq_true (exF c.xs 105 rfl)
  obtain ⟨oc27, od27, kV27, dc27, pm27, an27, cd27, ct27, sl27, l27, c27⟩ := FnQ.get0 (c.fns 27 _ rfl).1 (c.fns 27 _ rfl).2 rfl
  replace l27 : K.lookup (He.ma K (He.ga K "BadPlace") "__init__") = some ⟨oc27, od27, .func (PySem.W.fnOf "__init__" "BadPlace.__init__" (defArgs (inClass (topS 3) 0)) (defBody (inClass (topS 3) 0)) (defScope (inClass (topS 3) 0)) .none kV27 dc27 pm27 an27 cd27 ct27), sl27⟩ := l27
  replace c27 : PySem.W.codeIn K cd27 "BadPlace.__init__" = true := c27
  have k27 : PySem.W.keepIn K (.ref (He.ma K (He.ga K "BadPlace") "__init__")) = true := exF c.xs 106 rfl
  have a28 : PySem.W.nsIn K mainGlobals "is_integer" = some (some (.ref (He.ga K "is_integer"))) := of_decide_eq_true (exF c.xs 107 rfl)
  obtain ⟨oc28, od28, kV28, dc28, pm28, an28, cd28, ct28, sl28, l28, c28⟩ := FnQ.get0 (c.fns 28 _ rfl).1 (c.fns 28 _ rfl).2 rfl
  replace l28 : K.lookup (He.ga K "is_integer") = some ⟨oc28, od28, .func (PySem.W.fnOf "is_integer" "is_integer" (defArgs (topS 9)) (defBody (topS 9)) (defScope (topS 9)) .none kV28 dc28 pm28 an28 cd28 ct28), sl28⟩ := l28
  replace c28 : PySem.W.codeIn K cd28 "is_integer" = true := c28
  have k28 : PySem.W.keepIn K (.ref (He.ga K "is_integer")) = true := exF c.xs 108 rfl
  have a29 : PySem.W.nsIn K mainGlobals "check_place" = some (some (.ref (He.ga K "check_place"))) := of_decide_eq_true (exF c.xs 109 rfl)
  obtain ⟨oc29, od29, kV29, dc29, pm29, an29, cd29, ct29, sl29, l29, c29⟩ := FnQ.get0 (c.fns 29 _ rfl).1 (c.fns 29 _ rfl).2 rfl
  replace l29 : K.lookup (He.ga K "check_place") = some ⟨oc29, od29, .func (PySem.W.fnOf "check_place" "check_place" (defArgs (topS 28)) (defBody (topS 28)) (defScope (topS 28)) .none kV29 dc29 pm29 an29 cd29 ct29), sl29⟩ := l29
  replace c29 : PySem.W.codeIn K cd29 "check_place" = true := c29
  have k29 : PySem.W.keepIn K (.ref (He.ga K "check_place")) = true := exF c.xs 110 rfl
  have a30 : PySem.W.nsIn K mainGlobals "state_of" = some (some (.ref (He.ga K "state_of"))) := of_decide_eq_true (exF c.xs 111 rfl)
  obtain ⟨oc30, od30, kV30, dc30, pm30, an30, cd30, ct30, sl30, l30, c30⟩ := FnQ.get0 (c.fns 30 _ rfl).1 (c.fns 30 _ rfl).2 rfl
  replace l30 : K.lookup (He.ga K "state_of") = some ⟨oc30, od30, .func (PySem.W.fnOf "state_of" "state_of" (defArgs (topS 32)) (defBody (topS 32)) (defScope (topS 32)) .none kV30 dc30 pm30 an30 cd30 ct30), sl30⟩ := l30
  replace c30 : PySem.W.codeIn K cd30 "state_of" = true := c30
  have k30 : PySem.W.keepIn K (.ref (He.ga K "state_of")) = true := exF c.xs 112 rfl
  have a31 : PySem.W.nsIn K mainGlobals "short_futures" = some (some (.ref (He.ga K "short_futures"))) := of_decide_eq_true (exF c.xs 113 rfl)
  obtain ⟨oc31, od31, kV31, dc31, pm31, an31, cd31, ct31, sl31, l31, c31⟩ := FnQ.get0 (c.fns 31 _ rfl).1 (c.fns 31 _ rfl).2 rfl
  replace l31 : K.lookup (He.ga K "short_futures") = some ⟨oc31, od31, .func (PySem.W.fnOf "short_futures" "short_futures" (defArgs (topS 33)) (defBody (topS 33)) (defScope (topS 33)) .none kV31 dc31 pm31 an31 cd31 ct31), sl31⟩ := l31
  replace c31 : PySem.W.codeIn K cd31 "short_futures" = true := c31
  have k31 : PySem.W.keepIn K (.ref (He.ga K "short_futures")) = true := exF c.xs 114 rfl
  have a32 : PySem.W.nsIn K mainGlobals "two_futures" = some (some (.ref (He.ga K "two_futures"))) := of_decide_eq_true (exF c.xs 115 rfl)
  obtain ⟨oc32, od32, kV32, dc32, pm32, an32, cd32, ct32, sl32, l32, c32⟩ := FnQ.get0 (c.fns 32 _ rfl).1 (c.fns 32 _ rfl).2 rfl
  replace l32 : K.lookup (He.ga K "two_futures") = some ⟨oc32, od32, .func (PySem.W.fnOf "two_futures" "two_futures" (defArgs (topS 34)) (defBody (topS 34)) (defScope (topS 34)) .none kV32 dc32 pm32 an32 cd32 ct32), sl32⟩ := l32
  replace c32 : PySem.W.codeIn K cd32 "two_futures" = true := c32
  have k32 : PySem.W.keepIn K (.ref (He.ga K "two_futures")) = true := exF c.xs 116 rfl
  have a33 : PySem.W.nsIn K mainGlobals "ends_line" = some (some (.ref (He.ga K "ends_line"))) := of_decide_eq_true (exF c.xs 117 rfl)
  obtain ⟨oc33, od33, kV33, dc33, pm33, an33, cd33, ct33, sl33, l33, c33⟩ := FnQ.get0 (c.fns 33 _ rfl).1 (c.fns 33 _ rfl).2 rfl
  replace l33 : K.lookup (He.ga K "ends_line") = some ⟨oc33, od33, .func (PySem.W.fnOf "ends_line" "ends_line" (defArgs (topS 35)) (defBody (topS 35)) (defScope (topS 35)) .none kV33 dc33 pm33 an33 cd33 ct33), sl33⟩ := l33
  replace c33 : PySem.W.codeIn K cd33 "ends_line" = true := c33
  have k33 : PySem.W.keepIn K (.ref (He.ga K "ends_line")) = true := exF c.xs 118 rfl
  have a34 : PySem.W.nsIn K mainGlobals "is_between" = some (some (.ref (He.ga K "is_between"))) := of_decide_eq_true (exF c.xs 119 rfl)
  obtain ⟨oc34, od34, kV34, dc34, pm34, an34, cd34, ct34, sl34, l34, c34⟩ := FnQ.get0 (c.fns 34 _ rfl).1 (c.fns 34 _ rfl).2 rfl
  replace l34 : K.lookup (He.ga K "is_between") = some ⟨oc34, od34, .func (PySem.W.fnOf "is_between" "is_between" (defArgs (topS 10)) (defBody (topS 10)) (defScope (topS 10)) .none kV34 dc34 pm34 an34 cd34 ct34), sl34⟩ := l34
  replace c34 : PySem.W.codeIn K cd34 "is_between" = true := c34
  have k34 : PySem.W.keepIn K (.ref (He.ga K "is_between")) = true := exF c.xs 120 rfl
  have a35 : PySem.W.nsIn K mainGlobals "are_words" = some (some (.ref (He.ga K "are_words"))) := of_decide_eq_true (exF c.xs 121 rfl)
  obtain ⟨oc35, od35, kV35, dc35, pm35, an35, cd35, ct35, sl35, l35, c35⟩ := FnQ.get0 (c.fns 35 _ rfl).1 (c.fns 35 _ rfl).2 rfl
  replace l35 : K.lookup (He.ga K "are_words") = some ⟨oc35, od35, .func (PySem.W.fnOf "are_words" "are_words" (defArgs (topS 11)) (defBody (topS 11)) (defScope (topS 11)) .none kV35 dc35 pm35 an35 cd35 ct35), sl35⟩ := l35
  replace c35 : PySem.W.codeIn K cd35 "are_words" = true := c35
  have k35 : PySem.W.keepIn K (.ref (He.ga K "are_words")) = true := exF c.xs 122 rfl
  have a36 : PySem.W.nsIn K mainGlobals "is_text" = some (some (.ref (He.ga K "is_text"))) := of_decide_eq_true (exF c.xs 123 rfl)
  obtain ⟨oc36, od36, kV36, dc36, pm36, an36, cd36, ct36, sl36, l36, c36⟩ := FnQ.get0 (c.fns 36 _ rfl).1 (c.fns 36 _ rfl).2 rfl
  replace l36 : K.lookup (He.ga K "is_text") = some ⟨oc36, od36, .func (PySem.W.fnOf "is_text" "is_text" (defArgs (topS 12)) (defBody (topS 12)) (defScope (topS 12)) .none kV36 dc36 pm36 an36 cd36 ct36), sl36⟩ := l36
  replace c36 : PySem.W.codeIn K cd36 "is_text" = true := c36
  have k36 : PySem.W.keepIn K (.ref (He.ga K "is_text")) = true := exF c.xs 124 rfl
  have a37 : PySem.W.nsIn K mainGlobals "shows_open" = some (some (.ref (He.ga K "shows_open"))) := of_decide_eq_true (exF c.xs 125 rfl)
  obtain ⟨oc37, od37, kV37, dc37, pm37, an37, cd37, ct37, sl37, l37, c37⟩ := FnQ.get0 (c.fns 37 _ rfl).1 (c.fns 37 _ rfl).2 rfl
  replace l37 : K.lookup (He.ga K "shows_open") = some ⟨oc37, od37, .func (PySem.W.fnOf "shows_open" "shows_open" (defArgs (topS 36)) (defBody (topS 36)) (defScope (topS 36)) .none kV37 dc37 pm37 an37 cd37 ct37), sl37⟩ := l37
  replace c37 : PySem.W.codeIn K cd37 "shows_open" = true := c37
  have k37 : PySem.W.keepIn K (.ref (He.ga K "shows_open")) = true := exF c.xs 126 rfl
  have a38 : PySem.W.nsIn K mainGlobals "_law_met" = some (some (.ref (He.ga K "_law_met"))) := of_decide_eq_true (exF c.xs 127 rfl)
  obtain ⟨oc38, od38, kV38, dc38, pm38, an38, cd38, ct38, sl38, l38, c38⟩ := FnQ.get0 (c.fns 38 _ rfl).1 (c.fns 38 _ rfl).2 rfl
  replace l38 : K.lookup (He.ga K "_law_met") = some ⟨oc38, od38, .func (PySem.W.fnOf "_law_met" "_law_met" (defArgs (topS 42)) (defBody (topS 42)) (defScope (topS 42)) .none kV38 dc38 pm38 an38 cd38 ct38), sl38⟩ := l38
  replace c38 : PySem.W.codeIn K cd38 "_law_met" = true := c38
  have k38 : PySem.W.keepIn K (.ref (He.ga K "_law_met")) = true := exF c.xs 128 rfl
  have a39 : PySem.W.nsIn K mainGlobals "_law_is_place" = some (some (.ref (He.ga K "_law_is_place"))) := of_decide_eq_true (exF c.xs 129 rfl)
  obtain ⟨oc39, od39, kV39, dc39, pm39, an39, cd39, ct39, sl39, l39, c39⟩ := FnQ.get0 (c.fns 39 _ rfl).1 (c.fns 39 _ rfl).2 rfl
  replace l39 : K.lookup (He.ga K "_law_is_place") = some ⟨oc39, od39, .func (PySem.W.fnOf "_law_is_place" "_law_is_place" (defArgs (topS 43)) (defBody (topS 43)) (defScope (topS 43)) .none kV39 dc39 pm39 an39 cd39 ct39), sl39⟩ := l39
  replace c39 : PySem.W.codeIn K cd39 "_law_is_place" = true := c39
  have k39 : PySem.W.keepIn K (.ref (He.ga K "_law_is_place")) = true := exF c.xs 130 rfl
  have a40 : PySem.W.nsIn K mainGlobals "_law_of" = some (some (.ref (He.ga K "_law_of"))) := of_decide_eq_true (exF c.xs 131 rfl)
  obtain ⟨oc40, od40, kV40, dc40, pm40, an40, cd40, ct40, sl40, l40, c40⟩ := FnQ.get0 (c.fns 40 _ rfl).1 (c.fns 40 _ rfl).2 rfl
  replace l40 : K.lookup (He.ga K "_law_of") = some ⟨oc40, od40, .func (PySem.W.fnOf "_law_of" "_law_of" (defArgs (topS 40)) (defBody (topS 40)) (defScope (topS 40)) .none kV40 dc40 pm40 an40 cd40 ct40), sl40⟩ := l40
  replace c40 : PySem.W.codeIn K cd40 "_law_of" = true := c40
  have k40 : PySem.W.keepIn K (.ref (He.ga K "_law_of")) = true := exF c.xs 132 rfl
  have a41 : PySem.W.nsIn K mainGlobals "_law_right" = some (some (.ref (He.ga K "_law_right"))) := of_decide_eq_true (exF c.xs 133 rfl)
  obtain ⟨oc41, od41, kV41, dc41, pm41, an41, cd41, ct41, sl41, l41, c41⟩ := FnQ.get0 (c.fns 41 _ rfl).1 (c.fns 41 _ rfl).2 rfl
  replace l41 : K.lookup (He.ga K "_law_right") = some ⟨oc41, od41, .func (PySem.W.fnOf "_law_right" "_law_right" (defArgs (topS 44)) (defBody (topS 44)) (defScope (topS 44)) .none kV41 dc41 pm41 an41 cd41 ct41), sl41⟩ := l41
  replace c41 : PySem.W.codeIn K cd41 "_law_right" = true := c41
  obtain ⟨cz41, rfl⟩ := He.codeIn_ref c41
  have ez41 : cdAt K (He.ga K "_law_right") = cz41 := cdAt_eq l41 rfl
  subst ez41
  obtain ⟨_, _, _, _, q41, p41⟩ := codeHd_parts (c.hd (fun K => (He.ga K "_law_right")) (List.mem_of_getElem? (i := 0) rfl))
  have k41 : PySem.W.keepIn K (.ref (He.ga K "_law_right")) = true := exF c.xs 134 rfl
  have a42 : PySem.W.nsIn K mainGlobals "law" = some (some (.ref (He.ga K "law"))) := of_decide_eq_true (exF c.xs 135 rfl)
  obtain ⟨oc42, od42, kV42, dc42, pm42, an42, cd42, ct42, sl42, l42, c42⟩ := FnQ.get0 (c.fns 42 _ rfl).1 (c.fns 42 _ rfl).2 rfl
  replace l42 : K.lookup (He.ga K "law") = some ⟨oc42, od42, .func (PySem.W.fnOf "law" "law" (defArgs (topS 45)) (defBody (topS 45)) (defScope (topS 45)) .none kV42 dc42 pm42 an42 cd42 ct42), sl42⟩ := l42
  replace c42 : PySem.W.codeIn K cd42 "law" = true := c42
  have k42 : PySem.W.keepIn K (.ref (He.ga K "law")) = true := exF c.xs 136 rfl
  have z0 : PySem.W.nsIn K mainGlobals "ValueError" = some none := of_decide_eq_true (exF c.xs 137 rfl)
  have z1 : PySem.W.nsIn K mainGlobals "abs" = some none := of_decide_eq_true (exF c.xs 138 rfl)
  have z2 : PySem.W.nsIn K mainGlobals "all" = some none := of_decide_eq_true (exF c.xs 139 rfl)
  have z3 : PySem.W.nsIn K mainGlobals "bool" = some none := of_decide_eq_true (exF c.xs 140 rfl)
  have z4 : PySem.W.nsIn K mainGlobals "int" = some none := of_decide_eq_true (exF c.xs 141 rfl)
  have z5 : PySem.W.nsIn K mainGlobals "isinstance" = some none := of_decide_eq_true (exF c.xs 142 rfl)
  have z6 : PySem.W.nsIn K mainGlobals "len" = some none := of_decide_eq_true (exF c.xs 143 rfl)
  have z7 : PySem.W.nsIn K mainGlobals "list" = some none := of_decide_eq_true (exF c.xs 144 rfl)
  have z8 : PySem.W.nsIn K mainGlobals "max" = some none := of_decide_eq_true (exF c.xs 145 rfl)
  have z9 : PySem.W.nsIn K mainGlobals "min" = some none := of_decide_eq_true (exF c.xs 146 rfl)
  have z10 : PySem.W.nsIn K mainGlobals "range" = some none := of_decide_eq_true (exF c.xs 147 rfl)
  have z11 : PySem.W.nsIn K mainGlobals "repr" = some none := of_decide_eq_true (exF c.xs 148 rfl)
  have z12 : PySem.W.nsIn K mainGlobals "reversed" = some none := of_decide_eq_true (exF c.xs 149 rfl)
  have z13 : PySem.W.nsIn K mainGlobals "sorted" = some none := of_decide_eq_true (exF c.xs 150 rfl)
  have z14 : PySem.W.nsIn K mainGlobals "tuple" = some none := of_decide_eq_true (exF c.xs 151 rfl)
  obtain ⟨_, v0⟩ := strQ (show (He.Fa.str "ALWAYS" "always").ok K = true from exF c.xs 152 rfl)
  obtain ⟨_, v1⟩ := intQ (show (He.Fa.int "MOST_WORDS" 300).ok K = true from exF c.xs 153 rfl)
  obtain ⟨_, v2⟩ := strQ (show (He.Fa.str "NEVER" "never").ok K = true from exF c.xs 154 rfl)
  obtain ⟨_, v3⟩ := intQ (show (He.Fa.int "PAIR" 2).ok K = true from exF c.xs 155 rfl)
  obtain ⟨_, v4⟩ := strQ (show (He.Fa.str "SOMETIMES" "sometimes").ok K = true from exF c.xs 156 rfl)
  have x_BadPlace : erB K (He.ga K "BadPlace") = true := exF c.xs 157 rfl
  have n_BadPlace : PySem.W.findIn K (.ref (He.ga K "BadPlace")) "value" = some none := of_decide_eq_true (exF c.xs 158 rfl)
  have e_BadPlace : PySem.W.exmOne K (.ref (He.ga K "BadPlace")) (.ref (He.ga K "LineError")) = some true := of_decide_eq_true (exF c.xs 159 rfl)
  have k_BadPlace_BadPlace : PySem.W.kitOne K (.ref (He.ga K "BadPlace")) (.ref (He.ga K "BadPlace")) = some true := of_decide_eq_true (exF c.xs 160 rfl)
  have k_BadPlace_VE : PySem.W.kitOne K (.ref (He.ga K "BadPlace")) (.type "ValueError") = some true := of_decide_eq_true (exF c.xs 161 rfl)
  have t_BadPlace_BadText_BadWidth_BadWord_TooLong : PySem.W.kitAny K (.ref (He.ga K "BadPlace")) [.ref (He.ga K "BadText"), .ref (He.ga K "BadWidth"), .ref (He.ga K "BadWord"), .ref (He.ga K "TooLong")] = some false := of_decide_eq_true (exF c.xs 162 rfl)
  have hu41 : ∀ p ∈ ([(He.tabOf K (cdAt K (He.ga K "_law_right")), lamQ "_law_right")] : List (Addr × Str)), p.1 = (He.tabOf K (cdAt K (He.ga K "_law_right"))) → p.2 = lamQ "_law_right" := by
    intro p hp e
    simp only [List.mem_cons, List.not_mem_nil, or_false] at hp
    rcases hp with rfl
    · rfl
  refine ⟨[(cdAt K (He.ga K "_law_right"), He.tabOf K (cdAt K (He.ga K "_law_right")), lamQ "_law_right")], SaysQ.cs X c ([(fun K => (He.ga K "_law_right"), lamQ "_law_right")] : List ((PySem.W.Frag → Addr) × Str)) (fun m hm => by
    simp only [List.mem_cons, List.not_mem_nil, or_false] at hm
    rcases hm with rfl
    · exact List.mem_of_getElem? (i := 0) rfl), ?_⟩
  have e := hfa.symm.trans (PySem.W.mg_of X G a42)
  cases e
  have F0 := fun_mk (st := topS 13) l0 c0 k0
  have F1 := fun_mk (st := topS 14) l1 c1 k1
  have F2 := fun_mk (st := inClass (topS 16) 1) l2 c2 k2
  have F3 := fun_mk (st := inClass (topS 16) 2) l3 c3 k3
  have F4 := fun_mk (st := inClass (topS 16) 3) l4 c4 k4
  have F5 := fun_mk (st := inClass (topS 16) 4) l5 c5 k5
  have F6 := fun_mk (st := inClass (topS 16) 0) l6 c6 k6
  have F7 := fun_mk (st := topS 17) l7 c7 k7
  have F8 := fun_mk (st := inClass (topS 19) 1) l8 c8 k8
  have F9 := fun_mk (st := inClass (topS 19) 2) l9 c9 k9
  have F10 := fun_mk (st := inClass (topS 19) 3) l10 c10 k10
  have F11 := fun_mk (st := inClass (topS 19) 4) l11 c11 k11
  have F12 := fun_mk (st := inClass (topS 19) 5) l12 c12 k12
  have F13 := fun_mk (st := inClass (topS 19) 6) l13 c13 k13
  have F14 := fun_mk (st := inClass (topS 19) 7) l14 c14 k14
  have F15 := fun_mk (st := inClass (topS 19) 0) l15 c15 k15
  have F16 := fun_mk (st := inClass (topS 19) 8) l16 c16 k16
  have F17 := fun_mk (st := topS 20) l17 c17 k17
  have F18 := fun_mk (st := topS 21) l18 c18 k18
  have F19 := fun_mk (st := topS 22) l19 c19 k19
  have F20 := fun_mk (st := topS 38) l20 c20 k20
  have F21 := fun_mk (st := topS 39) l21 c21 k21
  have F22 := fun_mk (st := topS 40) l22 c22 k22
  have F23 := fun_mk (st := topS 41) l23 c23 k23
  have F24 := fun_mk (st := topS 29) l24 c24 k24
  have F25 := fun_mk (st := topS 30) l25 c25 k25
  have F26 := fun_mk (st := topS 31) l26 c26 k26
  have F27 := fun_mk (st := inClass (topS 3) 0) l27 c27 k27
  have F28 := fun_mk (st := topS 9) l28 c28 k28
  have F29 := fun_mk (st := topS 28) l29 c29 k29
  have F30 := fun_mk (st := topS 32) l30 c30 k30
  have F31 := fun_mk (st := topS 33) l31 c31 k31
  have F32 := fun_mk (st := topS 34) l32 c32 k32
  have F33 := fun_mk (st := topS 35) l33 c33 k33
  have F34 := fun_mk (st := topS 10) l34 c34 k34
  have F35 := fun_mk (st := topS 11) l35 c35 k35
  have F36 := fun_mk (st := topS 12) l36 c36 k36
  have F37 := fun_mk (st := topS 36) l37 c37 k37
  have F38 := fun_mk (st := topS 42) l38 c38 k38
  have F39 := fun_mk (st := topS 43) l39 c39 k39
  have F40 := fun_mk (st := topS 40) l40 c40 k40
  have F41 := fun_mk (st := topS 44) l41 c41 k41
  have F42 := fun_mk (st := topS 45) l42 c42 k42
  have b0 := F0.binds (ps := ["text"]) fun _ _ _ _ _ _ us hl => match us, hl with | [_], _ => rfl
  have b1 := F1.binds (ps := ["sums", "begin", "end"]) fun _ _ _ _ _ _ us hl => match us, hl with | [_, _, _], _ => rfl
  have b2 := F2.binds (ps := ["self", "end"]) fun _ _ _ _ _ _ us hl => match us, hl with | [_, _], _ => rfl
  have b3 := F3.binds (ps := ["self", "begin", "end"]) fun _ _ _ _ _ _ us hl => match us, hl with | [_, _, _], _ => rfl
  have b4 := F4.binds (ps := ["self", "place"]) fun _ _ _ _ _ _ us hl => match us, hl with | [_, _], _ => rfl
  have b5 := F5.binds (ps := ["self"]) fun _ _ _ _ _ _ us hl => match us, hl with | [_], _ => rfl
  have b6 := F6.binds (ps := ["self", "width", "text"]) fun _ _ _ _ _ _ us hl => match us, hl with | [_, _, _], _ => rfl
  have b7 := F7.binds (ps := ["width", "text"]) fun _ _ _ _ _ _ us hl => match us, hl with | [_, _], _ => rfl
  have b8 := F8.binds (ps := ["self", "word"]) fun _ _ _ _ _ _ us hl => match us, hl with | [_, _], _ => rfl
  have b9 := F9.binds (ps := ["self", "word"]) fun _ _ _ _ _ _ us hl => match us, hl with | [_, _], _ => rfl
  have b10 := F10.binds (ps := ["self", "place", "word"]) fun _ _ _ _ _ _ us hl => match us, hl with | [_, _, _], _ => rfl
  have b11 := F11.binds (ps := ["self", "word"]) fun _ _ _ _ _ _ us hl => match us, hl with | [_, _], _ => rfl
  have b12 := F12.binds (ps := ["self", "word"]) fun _ _ _ _ _ _ us hl => match us, hl with | [_, _], _ => rfl
  have b13 := F13.binds (ps := ["self", "place"]) fun _ _ _ _ _ _ us hl => match us, hl with | [_, _], _ => rfl
  have b14 := F14.binds (ps := ["self", "place"]) fun _ _ _ _ _ _ us hl => match us, hl with | [_, _], _ => rfl
  have b15 := F15.binds (ps := ["self", "width", "text"]) fun _ _ _ _ _ _ us hl => match us, hl with | [_, _, _], _ => rfl
  have b16 := F16.binds (ps := ["self", "is_closing"]) fun _ _ _ _ _ _ us hl => match us, hl with | [_, _], _ => rfl
  have b17 := F17.binds (ps := ["width", "text"]) fun _ _ _ _ _ _ us hl => match us, hl with | [_, _], _ => rfl
  have b18 := F18.binds (ps := ["width", "text"]) fun _ _ _ _ _ _ us hl => match us, hl with | [_, _], _ => rfl
  have b19 := F19.binds (ps := ["width", "text"]) fun _ _ _ _ _ _ us hl => match us, hl with | [_, _], _ => rfl
  have b20 := F20.binds (ps := ["_law_script", "_law_k"]) fun _ _ _ _ _ _ us hl => match us, hl with | [_, _], _ => rfl
  have b21 := F21.binds (ps := ["_law_pot_here", "_law_many"]) fun _ _ _ _ _ _ us hl => match us, hl with | [_, _], _ => rfl
  have b22 := F22.binds (ps := ["_law_pot_here", "_law_some"]) fun _ _ _ _ _ _ us hl => match us, hl with | [_, _], _ => rfl
  have b23 := F23.binds (ps := ["_law_pot_here", "_law_most", "_law_many"]) fun _ _ _ _ _ _ us hl => match us, hl with | [_, _, _], _ => rfl
  have b24 := F24.binds (ps := ["width", "text"]) fun _ _ _ _ _ _ us hl => match us, hl with | [_, _], _ => rfl
  have b25 := F25.binds (ps := ["width", "text"]) fun _ _ _ _ _ _ us hl => match us, hl with | [_, _], _ => rfl
  have b26 := F26.binds (ps := ["width", "text"]) fun _ _ _ _ _ _ us hl => match us, hl with | [_, _], _ => rfl
  have b27 := F27.binds (ps := ["self", "value"]) fun _ _ _ _ _ _ us hl => match us, hl with | [_, _], _ => rfl
  have b28 := F28.binds (ps := ["value"]) fun _ _ _ _ _ _ us hl => match us, hl with | [_], _ => rfl
  have b29 := F29.binds (ps := ["text", "place"]) fun _ _ _ _ _ _ us hl => match us, hl with | [_, _], _ => rfl
  have b30 := F30.binds (ps := ["width", "text", "place"]) fun _ _ _ _ _ _ us hl => match us, hl with | [_, _, _], _ => rfl
  have b31 := F31.binds (ps := ["width", "text"]) fun _ _ _ _ _ _ us hl => match us, hl with | [_, _], _ => rfl
  have b32 := F32.binds (ps := ["width", "text", "place"]) fun _ _ _ _ _ _ us hl => match us, hl with | [_, _, _], _ => rfl
  have b33 := F33.binds (ps := ["width", "text", "place", "future"]) fun _ _ _ _ _ _ us hl => match us, hl with | [_, _, _, _], _ => rfl
  have b34 := F34.binds (ps := ["value", "least", "most"]) fun _ _ _ _ _ _ us hl => match us, hl with | [_, _, _], _ => rfl
  have b35 := F35.binds (ps := ["width", "value"]) fun _ _ _ _ _ _ us hl => match us, hl with | [_, _], _ => rfl
  have b36 := F36.binds (ps := ["width", "value"]) fun _ _ _ _ _ _ us hl => match us, hl with | [_, _], _ => rfl
  have b37 := F37.binds (ps := ["width", "text", "place", "value"]) fun _ _ _ _ _ _ us hl => match us, hl with | [_, _, _, _], _ => rfl
  have b38 := F38.binds (ps := ["_law_ask"]) fun _ _ _ _ _ _ us hl => match us, hl with | [_], _ => rfl
  have b39 := F39.binds (ps := ["_law_thing", "_law_row"]) fun _ _ _ _ _ _ us hl => match us, hl with | [_, _], _ => rfl
  have b40 := F40.binds (ps := ["_law_pot_here", "_law_some"]) fun _ _ _ _ _ _ us hl => match us, hl with | [_, _], _ => rfl
  have b41 := F41.binds (ps := ["_law_pot_here", "_law_most", "_law_row"]) fun _ _ _ _ _ _ us hl => match us, hl with | [_, _, _], _ => rfl
  have BValueError := PySem.W.mg_none_of X G z0
  have Babs := PySem.W.mg_none_of X G z1
  have Ball := PySem.W.mg_none_of X G z2
  have Bbool := PySem.W.mg_none_of X G z3
  have Bint := PySem.W.mg_none_of X G z4
  have Bisinstance := PySem.W.mg_none_of X G z5
  have Blen := PySem.W.mg_none_of X G z6
  have Blist := PySem.W.mg_none_of X G z7
  have Bmax := PySem.W.mg_none_of X G z8
  have Bmin := PySem.W.mg_none_of X G z9
  have Brange := PySem.W.mg_none_of X G z10
  have Brepr := PySem.W.mg_none_of X G z11
  have Breversed := PySem.W.mg_none_of X G z12
  have Bsorted := PySem.W.mg_none_of X G z13
  have Btuple := PySem.W.mg_none_of X G z14
  have VALWAYS := PySem.W.mg_of X G v0
  have VMOST_WORDS := PySem.W.mg_of X G v1
  have VNEVER := PySem.W.mg_of X G v2
  have VPAIR := PySem.W.mg_of X G v3
  have VSOMETIMES := PySem.W.mg_of X G v4
  have m0 := PySem.W.mg_of X G a0
  have m1 := PySem.W.mg_of X G a1
  have m7 := PySem.W.mg_of X G a7
  have m17 := PySem.W.mg_of X G a17
  have m18 := PySem.W.mg_of X G a18
  have m19 := PySem.W.mg_of X G a19
  have m20 := PySem.W.mg_of X G a20
  have m21 := PySem.W.mg_of X G a21
  have m22 := PySem.W.mg_of X G a22
  have m23 := PySem.W.mg_of X G a23
  have m24 := PySem.W.mg_of X G a24
  have m25 := PySem.W.mg_of X G a25
  have m26 := PySem.W.mg_of X G a26
  have m28 := PySem.W.mg_of X G a28
  have m29 := PySem.W.mg_of X G a29
  have m30 := PySem.W.mg_of X G a30
  have m31 := PySem.W.mg_of X G a31
  have m32 := PySem.W.mg_of X G a32
  have m33 := PySem.W.mg_of X G a33
  have m34 := PySem.W.mg_of X G a34
  have m35 := PySem.W.mg_of X G a35
  have m36 := PySem.W.mg_of X G a36
  have m37 := PySem.W.mg_of X G a37
  have m38 := PySem.W.mg_of X G a38
  have m39 := PySem.W.mg_of X G a39
  have m40 := PySem.W.mg_of X G a40
  have m41 := PySem.W.mg_of X G a41
  have clGoers : Cls K (He.ga K "Goers") := ⟨pgGoers, hdGoers, poGoers, saGoers⟩
  have mGoers := PySem.W.mg_of X G aaGoers
  have TGoers : Txt_Goers K (He.ga K "Goers") := ⟨clGoers, nGoers_most, nGoers_table, nGoers_reaches⟩
  have clTable : Cls K (He.ga K "Table") := ⟨pgTable, hdTable, poTable, saTable⟩
  have mTable := PySem.W.mg_of X G aaTable
  have TTable : Txt_Table K (He.ga K "Table") := ⟨clTable, nTable_wide, nTable_sums, nTable_costs, nTable_befores⟩
  have mBadPlace := PySem.W.mg_of X G aaBadPlace
  have mBadText := PySem.W.mg_of X G aaBadText
  have mBadWidth := PySem.W.mg_of X G aaBadWidth
  have mBadWord := PySem.W.mg_of X G aaBadWord
  have mLineError := PySem.W.mg_of X G aaLineError
  have mTooLong := PySem.W.mg_of X G aaTooLong
  have crLineError : ClX.CRead K (He.ga K "LineError") (.type "type") := ⟨rdLineError, gaLineError⟩
  have oxBadPlace : OexC K (He.ga K "BadPlace") := ⟨⟨_, _, _, _, _, _, _, _, _, _, _, _, _, _, _, lkBadPlace, rvBadPlace⟩, saBadPlace, exBadPlace, tyBadPlace, kcBadPlace⟩
  refine ⟨PySem.W.fnOf "law" "law" (defArgs (topS 45)) (defBody (topS 45)) (defScope (topS 45)) .none kV42 dc42 pm42 an42 cd42 ct42, fun s v => .of_eq rfl, fun base _ _ tbs => ?_⟩
  have hTq : Cs.tq [((cdAt K (He.ga K "_law_right")), (He.tabOf K (cdAt K (He.ga K "_law_right"))), lamQ "_law_right")] = [((He.tabOf K (cdAt K (He.ga K "_law_right"))), lamQ "_law_right")] := rfl
  rw [hTq]
  have tb41 := tbs ((cdAt K (He.ga K "_law_right")), (He.tabOf K (cdAt K (He.ga K "_law_right"))), lamQ "_law_right") (by simp only [List.mem_cons, true_or, or_true])
  have mt41 : ((He.tabOf K (cdAt K (He.ga K "_law_right"))), lamQ "_law_right") ∈ ([((He.tabOf K (cdAt K (He.ga K "_law_right"))), lamQ "_law_right")] : List (Addr × Str)) := by simp only [List.mem_cons, true_or, or_true]
  have D0 : Df l.prog w K mg base [((He.tabOf K (cdAt K (He.ga K "_law_right"))), lamQ "_law_right")] 1 "sums_of" ["text"] spSums := ⟨_, _, g_sums_of (k := 0) F0 Btuple, m0, k0, b0⟩
  have D1 : Df l.prog w K mg base [((He.tabOf K (cdAt K (He.ga K "_law_right"))), lamQ "_law_right")] 1 "length_by" ["sums", "begin", "end"] spLenBy := ⟨_, _, g_length_by (k := 0) F1 , m1, k1, b1⟩
  have D2 : Mf l.prog w K mg base [((He.tabOf K (cdAt K (He.ga K "_law_right"))), lamQ "_law_right")] 2 (He.ga K "Table") "begins" ["self", "end"] (spBegins (He.ga K "Table")) := ⟨_, _, g_Table_begins (k := 1) F2 TTable (D1.mono (by decide : 1 ≤ 1)), clTable, ⟨a2, i2, k2⟩, b2⟩
  have D3 : Mf l.prog w K mg base [((He.tabOf K (cdAt K (He.ga K "_law_right"))), lamQ "_law_right")] 2 (He.ga K "Table") "square" ["self", "begin", "end"] (spSquare (He.ga K "Table")) := ⟨_, _, g_Table_square (k := 1) F3 TTable (D1.mono (by decide : 1 ≤ 1)), clTable, ⟨a3, i3, k3⟩, b3⟩
  have D4 : Mf l.prog w K mg base [((He.tabOf K (cdAt K (He.ga K "_law_right"))), lamQ "_law_right")] 1 (He.ga K "Table") "way" ["self", "place"] (spWay (He.ga K "Table")) := ⟨_, _, g_Table_way (k := 0) F4 TTable Breversed Btuple, clTable, ⟨a4, i4, k4⟩, b4⟩
  have D5 : Mf l.prog w K mg base [((He.tabOf K (cdAt K (He.ga K "_law_right"))), lamQ "_law_right")] 3 (He.ga K "Table") "last_start" ["self"] (spLast (He.ga K "Table")) := ⟨_, _, g_Table_last_start (k := 2) F5 TTable (D2.mono (by decide : 2 ≤ 2)) Blen Bmin, clTable, ⟨a5, i5, k5⟩, b5⟩
  have C_Table : Ck l.prog w K mg base [((He.tabOf K (cdAt K (He.ga K "_law_right"))), lamQ "_law_right")] 3 "Table" (He.ga K "Table") ["self", "width", "text"] (spInit (He.ga K "Table")) := ⟨_, _, g_Table___init__ (k := 2) F6 TTable (D0.mono (by decide : 1 ≤ 2)) (D2.mono (by decide : 2 ≤ 2)) (D3.mono (by decide : 2 ≤ 2)) Blen Bmin Brange, ⟨mkTable, a6, i6, kcTable⟩, mTable, b6⟩
  have D7 : Df l.prog w K mg base [((He.tabOf K (cdAt K (He.ga K "_law_right"))), lamQ "_law_right")] 5 "best_layout" ["width", "text"] spBest := ⟨_, _, g_best_layout (k := 3) F7 (D5.mono (by decide : 3 ≤ 3)) (D4.mono (by decide : 1 ≤ 3)) (C_Table.mono (by decide : 3 ≤ 3)) Blen, m7, k7, b7⟩
  have D8 : Mf l.prog w K mg base [((He.tabOf K (cdAt K (He.ga K "_law_right"))), lamQ "_law_right")] 1 (He.ga K "Goers") "room" ["self", "word"] (spRoom (He.ga K "Goers") (He.ga K "Table")) := ⟨_, _, g_Goers_room (k := 0) F8 TGoers, clGoers, ⟨a8, i8, k8⟩, b8⟩
  have D9 : Mf l.prog w K mg base [((He.tabOf K (cdAt K (He.ga K "_law_right"))), lamQ "_law_right")] 2 (He.ga K "Goers") "fitting" ["self", "word"] (spFitting (He.ga K "Goers") (He.ga K "Table")) := ⟨_, _, g_Goers_fitting (k := 1) F9 TGoers (D8.mono (by decide : 1 ≤ 1)), clGoers, ⟨a9, i9, k9⟩, b9⟩
  have D10 : Mf l.prog w K mg base [((He.tabOf K (cdAt K (He.ga K "_law_right"))), lamQ "_law_right")] 2 (He.ga K "Goers") "closed_cost_at" ["self", "place", "word"] (spCca (He.ga K "Goers") (He.ga K "Table")) := ⟨_, _, g_Goers_closed_cost_at (k := 1) F10 TTable TGoers (D8.mono (by decide : 1 ≤ 1)), clGoers, ⟨a10, i10, k10⟩, b10⟩
  have D11 : Mf l.prog w K mg base [((He.tabOf K (cdAt K (He.ga K "_law_right"))), lamQ "_law_right")] 3 (He.ga K "Goers") "closing_start" ["self", "word"] (spGStart LM.cls (He.ga K "Goers") (He.ga K "Table")) := ⟨_, _, g_Goers_closing_start (k := 2) F11 (D10.mono (by decide : 2 ≤ 2)) (D9.mono (by decide : 2 ≤ 2)) Bmin, clGoers, ⟨a11, i11, k11⟩, b11⟩
  have D12 : Mf l.prog w K mg base [((He.tabOf K (cdAt K (He.ga K "_law_right"))), lamQ "_law_right")] 3 (He.ga K "Goers") "open_start" ["self", "word"] (spGStart LM.opn (He.ga K "Goers") (He.ga K "Table")) := ⟨_, _, g_Goers_open_start (k := 2) F12 TTable TGoers (D9.mono (by decide : 2 ≤ 2)) Bmin, clGoers, ⟨a12, i12, k12⟩, b12⟩
  have D13 : Mf l.prog w K mg base [((He.tabOf K (cdAt K (He.ga K "_law_right"))), lamQ "_law_right")] 1 (He.ga K "Goers") "last_fitting" ["self", "place"] (spGLast LM.lfit (He.ga K "Goers") (He.ga K "Table")) := ⟨_, _, g_Goers_last_fitting (k := 0) F13 TGoers Bmin, clGoers, ⟨a13, i13, k13⟩, b13⟩
  have D14 : Mf l.prog w K mg base [((He.tabOf K (cdAt K (He.ga K "_law_right"))), lamQ "_law_right")] 2 (He.ga K "Goers") "last_closing" ["self", "place"] (spGLast LM.lclo (He.ga K "Goers") (He.ga K "Table")) := ⟨_, _, g_Goers_last_closing (k := 1) F14 TTable TGoers (D13.mono (by decide : 1 ≤ 1)) Bmin, clGoers, ⟨a14, i14, k14⟩, b14⟩
  have C_Goers : Ck l.prog w K mg base [((He.tabOf K (cdAt K (He.ga K "_law_right"))), lamQ "_law_right")] 5 "Goers" (He.ga K "Goers") ["self", "width", "text"] (spGInit (He.ga K "Goers") (He.ga K "Table")) := ⟨_, _, g_Goers___init__ (k := 3) F15 TGoers (D1.mono (by decide : 1 ≤ 3)) (D0.mono (by decide : 1 ≤ 3)) (C_Table.mono (by decide : 3 ≤ 3)) Blen Brange, ⟨mkGoers, a15, i15, kcGoers⟩, mGoers, b15⟩
  have D16 : Mf l.prog w K mg base [((He.tabOf K (cdAt K (He.ga K "_law_right"))), lamQ "_law_right")] 4 (He.ga K "Goers") "ranges" ["self", "is_closing"] (spRanges (He.ga K "Goers") (He.ga K "Table")) := ⟨_, _, g_Goers_ranges (k := 3) F16 TGoers (D11.mono (by decide : 3 ≤ 3)) (D14.mono (by decide : 2 ≤ 3)) (D13.mono (by decide : 1 ≤ 3)) (D12.mono (by decide : 3 ≤ 3)) Btuple, clGoers, ⟨a16, i16, k16⟩, b16⟩
  have D17 : Df l.prog w K mg base [((He.tabOf K (cdAt K (He.ga K "_law_right"))), lamQ "_law_right")] 7 "closing_starts" ["width", "text"] (spRgs LM.cls) := ⟨_, _, g_closing_starts (k := 5) F17 (D16.mono (by decide : 4 ≤ 5)) (C_Goers.mono (by decide : 5 ≤ 5)), m17, k17, b17⟩
  have D18 : Df l.prog w K mg base [((He.tabOf K (cdAt K (He.ga K "_law_right"))), lamQ "_law_right")] 7 "open_starts" ["width", "text"] (spRgs LM.opn) := ⟨_, _, g_open_starts (k := 5) F18 (D16.mono (by decide : 4 ≤ 5)) (C_Goers.mono (by decide : 5 ≤ 5)), m18, k18, b18⟩
  have D19 : Df l.prog w K mg base [((He.tabOf K (cdAt K (He.ga K "_law_right"))), lamQ "_law_right")] 8 "starts" ["width", "text"] spStarts := ⟨_, _, g_starts (k := 7) F19 (D17.mono (by decide : 7 ≤ 7)) (D18.mono (by decide : 7 ≤ 7)) Bsorted Btuple, m19, k19, b19⟩
  have D20 : Df l.prog w K mg base [((He.tabOf K (cdAt K (He.ga K "_law_right"))), lamQ "_law_right")] 1 "_law_pot" ["_law_script", "_law_k"] (spPot K) := ⟨_, _, g_pot (k := 0) F20 Blen Babs Bint, m20, k20, b20⟩
  have D21 : Df l.prog w K mg base [((He.tabOf K (cdAt K (He.ga K "_law_right"))), lamQ "_law_right")] 1 "_law_take" ["_law_pot_here", "_law_many"] spTake := ⟨_, _, g_take (k := 0) F21 , m21, k21, b21⟩
  have D22 : Df l.prog w K mg base [((He.tabOf K (cdAt K (He.ga K "_law_right"))), lamQ "_law_right")] 2 "_law_of" ["_law_pot_here", "_law_some"] spOfI := ⟨_, _, g_ofI (k := 0) F22 (D21.mono (by decide : 1 ≤ 1)) Blen, m22, k22, b22⟩
  have D23 : Df l.prog w K mg base [((He.tabOf K (cdAt K (He.ga K "_law_right"))), lamQ "_law_right")] 3 "_law_drawn" ["_law_pot_here", "_law_most", "_law_many"] spDrawn := ⟨_, _, g__law_drawn (k := 2) F23 (D22.mono (by decide : 2 ≤ 2)) (D21.mono (by decide : 1 ≤ 2)) Bmax Brange Btuple, m23, k23, b23⟩
  have D24 : Df l.prog w K mg base [((He.tabOf K (cdAt K (He.ga K "_law_right"))), lamQ "_law_right")] 10 "all_ends" ["width", "text"] spAllEnds := ⟨_, _, g_all_ends (k := 8) F24 (D7.mono (by decide : 5 ≤ 8)) (D19.mono (by decide : 8 ≤ 8)) (D4.mono (by decide : 1 ≤ 8)) (C_Table.mono (by decide : 3 ≤ 8)), m24, k24, b24⟩
  have D25 : Df l.prog w K mg base [((He.tabOf K (cdAt K (He.ga K "_law_right"))), lamQ "_law_right")] 11 "counted_states" ["width", "text"] spCounted := ⟨_, _, g_counted_states (k := 10) F25 (D24.mono (by decide : 10 ≤ 10)) Blen, m25, k25, b25⟩
  have D26 : Df l.prog w K mg base [((He.tabOf K (cdAt K (He.ga K "_law_right"))), lamQ "_law_right")] 12 "states" ["width", "text"] spStates := ⟨_, _, g_states (k := 11) F26 (D25.mono (by decide : 11 ≤ 11)) VALWAYS VNEVER VSOMETIMES Btuple, m26, k26, b26⟩
  have Z_BadPlace : Rz l.prog w K mg base 1 "BadPlace" (He.ga K "BadPlace") "value" := ⟨_, _, _, oxBadPlace, a27, i27, init_BadPlace (k := 0) F27 mLineError crLineError hkLineError noBadPlace, b27, mBadPlace⟩
  have D28 : Df l.prog w K mg base [((He.tabOf K (cdAt K (He.ga K "_law_right"))), lamQ "_law_right")] 1 "is_integer" ["value"] spIsI := ⟨_, _, g_is_integer (k := 0) F28 Bbool Bint Bisinstance, m28, k28, b28⟩
  have D29 : Df l.prog w K mg base [((He.tabOf K (cdAt K (He.ga K "_law_right"))), lamQ "_law_right")] 3 "check_place" ["text", "place"] (spCheckE (He.ga K "BadPlace")) := ⟨_, _, g_check_place (k := 1) F29 (Z_BadPlace.mono (by decide : 1 ≤ 1)) (D28.mono (by decide : 1 ≤ 1)) Blen, m29, k29, b29⟩
  have D30 : Df l.prog w K mg base [((He.tabOf K (cdAt K (He.ga K "_law_right"))), lamQ "_law_right")] 13 "state_of" ["width", "text", "place"] (spStateE (He.ga K "BadPlace")) := ⟨_, _, g_state_of (k := 12) F30 (D29.mono (by decide : 3 ≤ 12)) (D26.mono (by decide : 12 ≤ 12)), m30, k30, b30⟩
  have D31 : Df l.prog w K mg base [((He.tabOf K (cdAt K (He.ga K "_law_right"))), lamQ "_law_right")] 9 "short_futures" ["width", "text"] spShort := ⟨_, _, g_short_futures (k := 7) F31 (D7.mono (by decide : 5 ≤ 7)) (D17.mono (by decide : 7 ≤ 7)) (D18.mono (by decide : 7 ≤ 7)) (D4.mono (by decide : 1 ≤ 7)) (C_Table.mono (by decide : 3 ≤ 7)), m31, k31, b31⟩
  have D32 : Df l.prog w K mg base [((He.tabOf K (cdAt K (He.ga K "_law_right"))), lamQ "_law_right")] 10 "two_futures" ["width", "text", "place"] (spTwoE (He.ga K "BadPlace")) := ⟨_, _, g_two_futures (k := 9) F32 (D29.mono (by decide : 3 ≤ 9)) (D31.mono (by decide : 9 ≤ 9)), m32, k32, b32⟩
  have D33 : Df l.prog w K mg base [((He.tabOf K (cdAt K (He.ga K "_law_right"))), lamQ "_law_right")] 6 "ends_line" ["width", "text", "place", "future"] spEndsLine := ⟨_, _, g_ends_line (k := 5) F33 (D7.mono (by decide : 5 ≤ 5)), m33, k33, b33⟩
  have D34 : Df l.prog w K mg base [((He.tabOf K (cdAt K (He.ga K "_law_right"))), lamQ "_law_right")] 2 "is_between" ["value", "least", "most"] spBtw := ⟨_, _, g_is_between (k := 1) F34 (D28.mono (by decide : 1 ≤ 1)), m34, k34, b34⟩
  have D35 : Df l.prog w K mg base [((He.tabOf K (cdAt K (He.ga K "_law_right"))), lamQ "_law_right")] 3 "are_words" ["width", "value"] spAreW := ⟨_, _, g_are_words (k := 2) F35 (D34.mono (by decide : 2 ≤ 2)) Ball Bisinstance Btuple, m35, k35, b35⟩
  have D36 : Df l.prog w K mg base [((He.tabOf K (cdAt K (He.ga K "_law_right"))), lamQ "_law_right")] 4 "is_text" ["width", "value"] spIsT := ⟨_, _, g_is_text (k := 3) F36 (D35.mono (by decide : 3 ≤ 3)) VMOST_WORDS Blen, m36, k36, b36⟩
  have D37 : Df l.prog w K mg base [((He.tabOf K (cdAt K (He.ga K "_law_right"))), lamQ "_law_right")] 7 "shows_open" ["width", "text", "place", "value"] (spShowsE (He.ga K "BadPlace")) := ⟨_, _, g_shows_open (k := 6) F37 (D29.mono (by decide : 3 ≤ 6)) (D33.mono (by decide : 6 ≤ 6)) (D36.mono (by decide : 4 ≤ 6)) VPAIR Ball Bisinstance Blen Btuple, m37, k37, b37⟩
  have D38 : GvL l.prog w K mg base [((He.tabOf K (cdAt K (He.ga K "_law_right"))), lamQ "_law_right")] 0 "_law_met" "_law_ask" (tgMet (He.ga K "BadPlace")) := g__law_met (k := 0) F38 m38 k38 b38 mLineError mBadPlace mBadText mBadWidth mBadWord mTooLong Bisinstance BValueError x_BadPlace n_BadPlace e_BadPlace k_BadPlace_BadPlace k_BadPlace_VE t_BadPlace_BadText_BadWidth_BadWord_TooLong
  have D39 : Df l.prog w K mg base [((He.tabOf K (cdAt K (He.ga K "_law_right"))), lamQ "_law_right")] 1 "_law_is_place" ["_law_thing", "_law_row"] spIsP := ⟨_, _, g__law_is_place (k := 0) F39 Bbool Bint Bisinstance Blen, m39, k39, b39⟩
  have D40 : Df l.prog w K mg base [((He.tabOf K (cdAt K (He.ga K "_law_right"))), lamQ "_law_right")] 2 "_law_of" ["_law_pot_here", "_law_some"] spOfD := ⟨_, _, g__law_ofD (k := 1) F40 (D21.mono (by decide : 1 ≤ 1)) Blen, m40, k40, b40⟩
  have D41 : Df l.prog w K mg base [((He.tabOf K (cdAt K (He.ga K "_law_right"))), lamQ "_law_right")] 17 "_law_right" ["_law_pot_here", "_law_most", "_law_row"] spRight := ⟨_, _, g__law_right (k := 13) F41 (c0 := (cdAt K (He.ga K "_law_right"))) (P0 := (He.tabOf K (cdAt K (He.ga K "_law_right")))) rfl tb41 mt41 hu41 (D38.mono (by decide : 0 ≤ 15)) (D39.mono (by decide : 1 ≤ 13)) (D40.mono (by decide : 2 ≤ 13)) (D37.mono (by decide : 7 ≤ 13)) (D30.mono (by decide : 13 ≤ 13)) (D32.mono (by decide : 10 ≤ 13)) Blen Blist Brange Brepr, m41, k41, b41⟩
  exact g_law (k := 17) F42 (D23.mono (by decide : 3 ≤ 17)) (D20.mono (by decide : 1 ≤ 17)) (D41.mono (by decide : 17 ≤ 17)) (D21.mono (by decide : 1 ≤ 17)) Blen Bmax Bmin Brange
def nmL0 : List Str := ["__name__", "LineError", "TooLong", "BadPlace", "BadWidth", "BadWord", "BadText", "MOST_WORDS", "is_integer", "is_between", "are_words", "is_text", "sums_of", "length_by", "Table"]
def nmL1 : List Str := ["best_layout", "Goers", "closing_starts", "open_starts", "starts", "ALWAYS", "NEVER", "SOMETIMES", "PAIR", "check_place", "all_ends", "counted_states", "states", "state_of", "short_futures"]
def nmL2 : List Str := ["two_futures", "ends_line", "shows_open", "_law_pot", "_law_take", "_law_of", "_law_drawn", "_law_met", "_law_is_place", "_law_right"]
def nmL : List Str := nmL0 ++ nmL1 ++ nmL2
theorem ob_eq (s : PySem.W.SharedT) : obQ fnL xsL mkL s = (hookQ fnL xsL mkL).obs s.abs := obQ_eq _ _ _ s
set_option maxHeartbeats 0 in
theorem run (w : World) : HandSHeadRun.RunEq (PySem.W.OpenLaw.row PySem.Challenge.rw_settledlines_k26_values_that_are_no_plac) (PySem.W.view (PySem.W.OpenLaw.row PySem.Challenge.rw_settledlines_k26_values_that_are_no_plac).prog [45]) (hookQ fnL xsL mkL) (obQ fnL xsL mkL) 20000 nmL w := by
  intro os
  kernel_rfl
end K26
open PySem PySem.W PySem.Calls PyProof.Rows
set_option maxHeartbeats 0 in
theorem PySem.Challenge.cw_settledlines_k26_values_that_are_no_plac_holds : PySem.Challenge.rw_settledlines_k26_values_that_are_no_plac.Holds := by
  w_on; o_law
  refine HandSHeadRun.head_any (r := OpenLaw.row PySem.Challenge.rw_settledlines_k26_values_that_are_no_plac) (q := view (OpenLaw.row PySem.Challenge.rw_settledlines_k26_values_that_are_no_plac).prog [45]) (H := QL.hookQ K26.fnL K26.xsL K26.mkL) (ob := QL.obQ K26.fnL K26.xsL K26.mkL) (M := 20000) (loose := K26.nmL) (d := HandSHeadRun.topDef (OpenLaw.row PySem.Challenge.rw_settledlines_k26_values_that_are_no_plac).prog 45) (kwd := []) K26.ob_eq
    (by kernel_rfl) (fun s => by kernel_rfl) K26.run (by kernel_rfl) (by kernel_rfl) (by kernel_rfl) (by rfl) (by first | assumption | decide +kernel) (by decide +kernel) ⟨rfl, rfl, rfl, rfl, rfl, by decide +kernel⟩ ?hw ?hc
  case hw => w_witness2
  case hc =>
    refine QL.walk_gE (l := PySem.Challenge.rw_settledlines_k26_values_that_are_no_plac) (n := 63) (k := 18) (x := "_law_script") (sp := fun K => K26.spLaw K) rfl (by decide) (by kernel_rfl) ⟨rfl, by decide, by decide⟩ ?F (fun K a ns hl => ⟨a, ns, rfl, hl, rfl⟩)
    intro w mg fa h Y G hmg0
    obtain ⟨K, KX, c⟩ := Y
    have hmg : mg ("law" : PySem.Str) = some (.ref fa) := by
      have e : (HandSHeadRun.topDef (OpenLaw.row PySem.Challenge.rw_settledlines_k26_values_that_are_no_plac).prog 45).name = ("law" : PySem.Str) := by kernel_rfl
      rw [← e]
      exact hmg0
    obtain ⟨cs, h1, fd, h2, h3⟩ := K26.head_ok (l := PySem.Challenge.rw_settledlines_k26_values_that_are_no_plac) (w := w) KX G hmg c
    exact ⟨K, cs, fd, KX, h1, h2, h3⟩
