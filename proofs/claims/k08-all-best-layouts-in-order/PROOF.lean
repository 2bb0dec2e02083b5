import PyProof.Rows.All
import HandS.ForMost
import HandS.Lambda
import HandS.TupAny
import HandS.Wide
import HandS.Exc
import HandS.WordsExc
import HandS.TupMul
import HandS.IsInst
import HandS.Dict
import PyProof.ReprRoads
import HandS.Star
import HandS.Zip
import KE.KTupSum
import HandS.RevTup
import PyProof.ListNew
import PyProof.TupleOfGen
import KE.KDictZip
import HandS.EndTab
import KE.KNest
import KE.KNestM
import HandS.Rev
import KE.DataMinMax
import KE.SortData
import HandS.Style
import KE.KRevSl
import HandS.Conv
import HandS.DictComp
import HandS.SetBool
import HandS.Strs
import HandS.Set
import HandS.SetFor
import HandS.More
import PyProof.ReprLen
import PyProof.FitsInt
import PyProof.Rows.StrJoinMade
import PyProof.Rows.StrDigitsNeg
import HandS.SortKw
import HandS.Iter
import HandS.Deep
import KE.GoesEnum
import HandS.TupLe
import HandS.MethStar
import HandS.ExcField
import HandS.ExcIs
import HandS.ExcValue
import KE.KIsAll
import HandS.ExcInit
import HandS.ClsMeth
import HandS.Defaults
import HandS.Head0
import HandS.Head1
import HandS.Head2
import HandS.HeadHook1
import HandS.HeadHook4
import HandS.GenList
import Wide.BridgeG
import HandS.GenCall
import PySem.Challenge.RW_settledlines_k08_all_best_layouts_in_ord
set_option Elab.async false
set_option linter.all false
set_option maxRecDepth 100000
set_option maxHeartbeats 4000000
/-! QA: data without heap: what a value stands for (Rp), what a thing that one name alone holds stands for (Ow), a frame's slots (OwE), what a step leaves (Frm). -/
namespace QL
open PySem PySem.Spec PyProof.Rows L2

abbrev D := PyData
def kD : Key → D
  | .inl i => .int i
  | .inr x => .str x

mutual
/-- the value v stands for the data d, read in the heap part F that never changes -/
inductive Rp (F : Hp) : V → D → Prop
  | non : Rp F .non .none
  | bl (b : Bool) : Rp F (.bl b) (.bool b)
  | int (i : Int) : Rp F (.int i) (.int i)
  | str (x : Str) : Rp F (.str x) (.str x)
  | lst {a : Addr} {xs : List V} {ds : List D} : F a = some (.lst xs) → RpA F xs ds → Rp F (.ref a) (.list ds)
  | tup {a : Addr} {xs : List V} {ds : List D} : Rd F a (.tup xs) → RpA F xs ds → Rp F (.ref a) (.tuple ds)
  | dic {a : Addr} {kvs : List (Key × V)} {ds : List (D × D)} : Rd F a (.dK kvs) → RpK F kvs ds → Rp F (.ref a) (.dict ds)
inductive RpA (F : Hp) : List V → List D → Prop
  | nil : RpA F [] []
  | cons {v : V} {vs : List V} {d : D} {ds : List D} : Rp F v d → RpA F vs ds → RpA F (v :: vs) (d :: ds)
inductive RpK (F : Hp) : List (Key × V) → List (D × D) → Prop
  | nil : RpK F [] []
  | cons {k : Key} {v : V} {vs : List (Key × V)} {d : D} {ds : List (D × D)} : Rp F v d → RpK F vs ds → RpK F ((k, v) :: vs) ((kD k, d) :: ds)
end

theorem rd_mono {F F' : Hp} (s : Same F F') {a : Addr} {u : HO} (h : Rd F a u) : Rd F' a u := by
  rcases h with h | ⟨o, h⟩
  · exact .inl (s _ _ h)
  · exact .inr ⟨o, s _ _ h⟩
mutual
theorem Rp.mono {F F' : Hp} (s : Same F F') : ∀ {v : V} {d : D}, Rp F v d → Rp F' v d
  | _, _, .non => .non
  | _, _, .bl b => .bl b
  | _, _, .int i => .int i
  | _, _, .str x => .str x
  | _, _, .lst h r => .lst (s _ _ h) (RpA.mono s r)
  | _, _, .tup h r => .tup (rd_mono s h) (RpA.mono s r)
  | _, _, .dic h r => .dic (rd_mono s h) (RpK.mono s r)
theorem RpA.mono {F F' : Hp} (s : Same F F') : ∀ {v : List V} {d : List D}, RpA F v d → RpA F' v d
  | _, _, .nil => .nil
  | _, _, .cons h r => .cons (Rp.mono s h) (RpA.mono s r)
theorem RpK.mono {F F' : Hp} (s : Same F F') : ∀ {v : List (Key × V)} {d : List (D × D)}, RpK F v d → RpK F' v d
  | _, _, .nil => .nil
  | _, _, .cons h r => .cons (Rp.mono s h) (RpK.mono s r)
end

/-- what a name of a frame, or a field of an object that one name alone holds, stands for -/
inductive T
  | va (d : D)
  | lst (a : Addr) (ds : List D)
  | dic (a : Addr) (kvs : List (Key × D))
  | fdc (a : Addr) (kvs : List (Key × D))
  | ins (a C : Addr) (fs : List (Str × T))
  | hole (a : Addr)
  | ob (a : Option Addr) (φ : Hp → Hp → List Addr → V → Prop)

def T.addr : T → Option Addr
  | .va _ => none
  | .lst a _ => some a
  | .dic a _ => some a
  | .fdc a _ => some a
  | .ins a _ _ => some a
  | .hole a => some a
  | .ob a _ => a

/-- what stands there is no table of code objects -/
def Held (H : Hp) (a : Addr) : Prop := ∃ o, H a = some o ∧ ∀ ps, o ≠ .tbl ps
theorem Held.ne {H : Hp} {a : Addr} (h : Held H a) : H a ≠ none := by
  obtain ⟨o, e, _⟩ := h
  rw [e]; exact fun z => nomatch z
/-- a thing of another kind stays when its own objects and what is frozen stay -/
structure Stab (a : Option Addr) (φ : Hp → Hp → List Addr → V → Prop) : Prop where
  stay : ∀ F H F' H' O v, φ F H O v → Same F F' → (∀ b ∈ O, H' b = H b) → φ F' H' O v
  held : ∀ F H O v, φ F H O v → ∀ b ∈ O, Held H b
  at_ : ∀ F H O v b, φ F H O v → a = some b → v = .ref b

inductive RpT (F : Hp) : List (Key × V) → List (Key × D) → Prop
  | nil : RpT F [] []
  | cons {k : Key} {v : V} {vs : List (Key × V)} {d : D} {ds : List (Key × D)} : Rp F v d → RpT F vs ds → RpT F ((k, v) :: vs) ((k, d) :: ds)
theorem RpT.mono {F F' : Hp} (s : Same F F') : ∀ {v : List (Key × V)} {d : List (Key × D)}, RpT F v d → RpT F' v d
  | _, _, .nil => .nil
  | _, _, .cons h r => .cons (h.mono s) (RpT.mono s r)

mutual
inductive Ow (F H : Hp) : List Addr → V → T → Prop
  | va {v : V} {d : D} : Rp F v d → Ow F H [] v (.va d)
  | lst {a : Addr} {xs : List V} {ds : List D} : H a = some (.lst xs) → RpA F xs ds → Ow F H [a] (.ref a) (.lst a ds)
  | dic {a : Addr} {kvs : List (Key × V)} {ds : List (Key × D)} : H a = some (.dK kvs) → RpT F kvs ds → Ow F H [a] (.ref a) (.dic a ds)
  | fdc {a : Addr} {o : Obj} {kvs : List (Key × V)} {ds : List (Key × D)} : F a = some (.frz o (.dK kvs)) → RpT F kvs ds → Ow F H [] (.ref a) (.fdc a ds)
  | ins {a dx C : Addr} {vs : List (Str × V)} {fs : List (Str × T)} {O : List Addr} : H a = some (.ins C dx vs) → H dx = some (.own a) → OwF F H O vs fs → Ow F H (a :: dx :: O) (.ref a) (.ins a C fs)
  | hole {a : Addr} : Ow F H [] (.ref a) (.hole a)
  | ob {a : Option Addr} {φ : Hp → Hp → List Addr → V → Prop} {O : List Addr} {v : V} : φ F H O v → Stab a φ → Ow F H O v (.ob a φ)
inductive OwF (F H : Hp) : List Addr → List (Str × V) → List (Str × T) → Prop
  | nil : OwF F H [] [] []
  | cons {n : Str} {v : V} {t : T} {vs : List (Str × V)} {ts : List (Str × T)} {O1 O2 : List Addr} : Ow F H O1 v t → OwF F H O2 vs ts → OwF F H (O1 ++ O2) ((n, v) :: vs) ((n, t) :: ts)
end

mutual
theorem Ow.stay {F H F' H' : Hp} (s : Same F F') : ∀ {O : List Addr} {v : V} {t : T}, Ow F H O v t → (∀ a ∈ O, H' a = H a) → Ow F' H' O v t
  | _, _, _, .va r, _ => .va (r.mono s)
  | _, _, _, .lst h r, k => .lst ((k _ (List.mem_singleton.mpr rfl)).trans h) (r.mono s)
  | _, _, _, .dic h r, k => .dic ((k _ (List.mem_singleton.mpr rfl)).trans h) (r.mono s)
  | _, _, _, .fdc h r, k => .fdc (s _ _ h) (r.mono s)
  | _, _, _, .ins h1 h2 r, k => .ins ((k _ List.mem_cons_self).trans h1) ((k _ (List.mem_cons_of_mem _ List.mem_cons_self)).trans h2)
      (OwF.stay s r fun a ha => k a (List.mem_cons_of_mem _ (List.mem_cons_of_mem _ ha)))
  | _, _, _, .hole, _ => .hole
  | _, _, _, .ob h st, k => .ob (st.stay _ _ _ _ _ _ h s k) st
theorem OwF.stay {F H F' H' : Hp} (s : Same F F') : ∀ {O : List Addr} {v : List (Str × V)} {t : List (Str × T)}, OwF F H O v t → (∀ a ∈ O, H' a = H a) → OwF F' H' O v t
  | _, _, _, .nil, _ => .nil
  | _, _, _, .cons h r, k => .cons (Ow.stay s h fun a ha => k a (List.mem_append_left _ ha)) (OwF.stay s r fun a ha => k a (List.mem_append_right _ ha))
end
mutual
theorem Ow.held {F H : Hp} : ∀ {O : List Addr} {v : V} {t : T}, Ow F H O v t → ∀ a ∈ O, Held H a
  | _, _, _, .va r, a, ha => nomatch ha
  | _, _, _, .lst h r, a, ha => by rw [List.mem_singleton.mp ha]; exact ⟨_, h, fun _ z => nomatch z⟩
  | _, _, _, .dic h r, a, ha => by rw [List.mem_singleton.mp ha]; exact ⟨_, h, fun _ z => nomatch z⟩
  | _, _, _, .fdc h r, a, ha => nomatch ha
  | _, _, _, .ins h1 h2 r, a, ha => by
    rcases List.mem_cons.mp ha with rfl | ha
    · exact ⟨_, h1, fun _ z => nomatch z⟩
    rcases List.mem_cons.mp ha with rfl | ha
    · exact ⟨_, h2, fun _ z => nomatch z⟩
    · exact OwF.held r a ha
  | _, _, _, .hole, a, ha => nomatch ha
  | _, _, _, .ob h st, a, ha => st.held _ _ _ _ h a ha
theorem OwF.held {F H : Hp} : ∀ {O : List Addr} {v : List (Str × V)} {t : List (Str × T)}, OwF F H O v t → ∀ a ∈ O, Held H a
  | _, _, _, .nil, a, ha => nomatch ha
  | _, _, _, .cons h r, a, ha => (List.mem_append.mp ha).elim (Ow.held h a) (OwF.held r a)
end
theorem Ow.there {F H : Hp} {O : List Addr} {v : V} {t : T} (h : Ow F H O v t) (a : Addr) (ha : a ∈ O) : H a ≠ none := (h.held a ha).ne
theorem OwF.there {F H : Hp} {O : List Addr} {v : List (Str × V)} {t : List (Str × T)} (h : OwF F H O v t) (a : Addr) (ha : a ∈ O) : H a ≠ none := (h.held a ha).ne
theorem Ow.ref {F H : Hp} {O : List Addr} {v : V} {t : T} {a : Addr} (h : Ow F H O v t) (e : t.addr = some a) : v = .ref a := by
  cases h with
  | va r => cases e
  | lst h r => cases e; rfl
  | dic h r => cases e; rfl
  | fdc h r => cases e; rfl
  | ins h1 h2 r => cases e; rfl
  | hole => cases e; rfl
  | ob h st => exact st.at_ _ _ _ _ _ h e

abbrev Env := List (Option T)
inductive OwE (F H : Hp) : List Addr → L2.St → Env → Prop
  | nil : OwE F H [] [] []
  | un {O : List Addr} {σ : L2.St} {e : Env} {x : Option V} : OwE F H O σ e → OwE F H O (x :: σ) (none :: e)
  | so {O1 O2 : List Addr} {σ : L2.St} {e : Env} {v : V} {t : T} : Ow F H O1 v t → OwE F H O2 σ e → OwE F H (O1 ++ O2) (some v :: σ) (some t :: e)
theorem OwE.stay {F H F' H' : Hp} (s : Same F F') : ∀ {O : List Addr} {σ : L2.St} {e : Env}, OwE F H O σ e → (∀ a ∈ O, H' a = H a) → OwE F' H' O σ e
  | _, _, _, .nil, _ => .nil
  | _, _, _, .un r, k => .un (OwE.stay s r k)
  | _, _, _, .so h r, k => .so (h.stay s fun a ha => k a (List.mem_append_left _ ha)) (OwE.stay s r fun a ha => k a (List.mem_append_right _ ha))
theorem OwE.held {F H : Hp} : ∀ {O : List Addr} {σ : L2.St} {e : Env}, OwE F H O σ e → ∀ a ∈ O, Held H a
  | _, _, _, .nil, a, ha => nomatch ha
  | _, _, _, .un r, a, ha => OwE.held r a ha
  | _, _, _, .so h r, a, ha => (List.mem_append.mp ha).elim (Ow.held h a) (OwE.held r a)
theorem OwE.there {F H : Hp} {O : List Addr} {σ : L2.St} {e : Env} (h : OwE F H O σ e) (a : Addr) (ha : a ∈ O) : H a ≠ none := (h.held a ha).ne
theorem OwE.len {F H : Hp} : ∀ {O : List Addr} {σ : L2.St} {e : Env}, OwE F H O σ e → σ.length = e.length
  | _, _, _, .nil => rfl
  | _, _, _, .un r => congrArg (· + 1) (OwE.len r)
  | _, _, _, .so _ r => congrArg (· + 1) (OwE.len r)

/-! ### places within a thing -/
def getT : List Str → T → Option T
  | [], t => some t
  | f :: p, .ins _ _ fs => match fs.lookup f with
    | some t => getT p t
    | none => none
  | _ :: _, _ => none
/-- the first field of that name, replaced -/
def repF (f : Str) (u : T) : List (Str × T) → List (Str × T)
  | [] => []
  | (n, t) :: r => if f == n then (n, u) :: r else (n, t) :: repF f u r
theorem repF_hit {f n : Str} {u t : T} {r : List (Str × T)} (h : (f == n) = true) : repF f u ((n, t) :: r) = (n, u) :: r := by unfold repF; rw [if_pos h]
theorem repF_miss {f n : Str} {u t : T} {r : List (Str × T)} (h : (f == n) = false) : repF f u ((n, t) :: r) = (n, t) :: repF f u r := by
  conv => lhs; unfold repF
  rw [if_neg (by rw [h]; exact Bool.false_ne_true)]
def setT : List Str → T → T → T
  | [], u, _ => u
  | f :: p, u, .ins a C fs => match fs.lookup f with
    | some t => .ins a C (repF f (setT p u t) fs)
    | none => .ins a C fs
  | _ :: _, _, t => t
def getP (i : Nat) (p : List Str) (env : Env) : Option T := match env[i]? with
  | some (some t) => getT p t
  | _ => none
def setO (p : List Str) (u : T) : Option T → Option T
  | some t => some (setT p u t)
  | none => none
def setP : Nat → List Str → T → Env → Env
  | _, _, _, [] => []
  | 0, p, u, o :: e => setO p u o :: e
  | i + 1, p, u, o :: e => o :: setP i p u e
theorem setP_eq {p : List Str} {u t : T} : ∀ {i : Nat} {env : Env}, env[i]? = some (some t) → setP i p u env = env.set i (some (setT p u t))
  | _, [], h => nomatch h
  | 0, o :: e, h => by cases h; rfl
  | i + 1, o :: e, h => congrArg (o :: ·) (setP_eq (i := i) (env := e) h)

/-- a part of a thing is taken out, and another one put there -/
def Hung (F H : Hp) (O : List Addr) (w : V) (u : T) (R : Hp → Hp → List Addr → T → Prop) : Prop :=
  ∃ Oj O', Ow F H Oj w u ∧ O.Perm (Oj ++ O') ∧ ∀ F' H' Oj' u', Same F F' → (∀ a ∈ O', H' a = H a) → Ow F' H' Oj' w u' → ∃ O'', R F' H' O'' u' ∧ O''.Perm (Oj' ++ O')

theorem perm_mid {α : Type} {A B C E : List α} (h : B.Perm (C ++ E)) : (A ++ B).Perm (C ++ (A ++ E)) :=
  (h.append_left A).trans (by rw [← List.append_assoc, ← List.append_assoc]; exact (List.perm_append_comm).append_right E)

theorem OwF.focus {F H : Hp} {f : Str} : ∀ {fs : List (Str × T)} {vs : List (Str × V)} {O : List Addr} {t : T}, OwF F H O vs fs → fs.lookup f = some t →
    ∃ w, Hung F H O w t (fun F' H' O'' u' => OwF F' H' O'' vs (repF f u' fs))
  | [], _, _, _, _, e => nomatch e
  | (n, t0) :: fs, _, _, t, .cons (O1 := O1) (O2 := O2) h r, e => by
    rw [List.lookup_cons] at e
    cases hb : f == n with
    | true =>
      rw [hb] at e
      cases e
      refine ⟨_, O1, O2, h, List.Perm.refl _, fun F' H' Oj' u' s k h' => ⟨Oj' ++ O2, ?_, List.Perm.refl _⟩⟩
      show OwF _ _ _ _ (repF f u' ((n, t0) :: fs))
      rw [repF_hit hb]
      exact .cons h' (r.stay s k)
    | false =>
      rw [hb] at e
      obtain ⟨w, Oj, O', h1, h2, h3⟩ := OwF.focus r e
      refine ⟨w, Oj, O1 ++ O', h1, perm_mid h2, fun F' H' Oj' u' s k h' => ?_⟩
      obtain ⟨O'', q1, q2⟩ := h3 F' H' Oj' u' s (fun a ha => k a (List.mem_append_right _ ha)) h'
      refine ⟨O1 ++ O'', ?_, perm_mid q2⟩
      show OwF _ _ _ _ (repF f u' ((n, t0) :: fs))
      rw [repF_miss hb]
      exact .cons (h.stay s fun a ha => k a (List.mem_append_left _ ha)) q1

theorem Ow.focus {F H : Hp} : ∀ {p : List Str} {t u : T} {O : List Addr} {v : V}, Ow F H O v t → getT p t = some u →
    ∃ w, Hung F H O w u (fun F' H' O'' u' => Ow F' H' O'' v (setT p u' t)) ∧ (p = [] → w = v)
  | [], t, u, O, v, h, e => by
    cases e
    exact ⟨v, ⟨O, [], h, by rw [List.append_nil], fun F' H' Oj' u' _ _ h' => ⟨Oj', h', by rw [List.append_nil]⟩⟩, fun _ => rfl⟩
  | f :: p, t, u, O, v, h, e => by
    cases t with
    | ins a C fs =>
      cases h with
      | ins h1 h2 r =>
        rename_i dx vs Of
        unfold getT at e
        cases hl : fs.lookup f with
        | none => rw [hl] at e; cases e
        | some t1 =>
          rw [hl] at e
          obtain ⟨w1, Oj1, O1', g1, g2, g3⟩ := OwF.focus r hl
          obtain ⟨w, ⟨Oj, O', k1, k2, k3⟩, _⟩ := Ow.focus (p := p) g1 e
          refine ⟨w, ⟨Oj, a :: dx :: (O' ++ O1'), k1, ?_, fun F' H' Oj' u' s k h' => ?_⟩, fun z => nomatch z⟩
          · have e1 : Of.Perm (Oj ++ (O' ++ O1')) := g2.trans (by rw [← List.append_assoc]; exact k2.append_right O1')
            exact perm_mid (A := [a, dx]) e1
          · obtain ⟨O2, q1, q2⟩ := k3 F' H' Oj' u' s (fun b hb => k b (List.mem_cons_of_mem _ (List.mem_cons_of_mem _ (List.mem_append_left _ hb)))) h'
            obtain ⟨O3, q3, q4⟩ := g3 F' H' O2 _ s (fun b hb => k b (List.mem_cons_of_mem _ (List.mem_cons_of_mem _ (List.mem_append_right _ hb)))) q1
            refine ⟨a :: dx :: O3, ?_, ?_⟩
            · unfold setT
              rw [hl]
              exact .ins ((k _ List.mem_cons_self).trans h1) ((k _ (List.mem_cons_of_mem _ List.mem_cons_self)).trans h2) q3
            · have e1 : O3.Perm (Oj' ++ (O' ++ O1')) := q4.trans (by rw [← List.append_assoc]; exact q2.append_right O1')
              exact perm_mid (A := [a, dx]) e1
    | va d => cases e
    | lst a ds => cases e
    | dic a ds => cases e
    | fdc a ds => cases e
    | hole a => cases e
    | ob a φ => cases e

theorem OwE.focusI {F H : Hp} : ∀ {env : Env} {σ : L2.St} {O : List Addr} {i : Nat} {t : T}, OwE F H O σ env → env[i]? = some (some t) →
    ∃ w, σ[i]? = some (some w) ∧ Hung F H O w t (fun F' H' O'' u' => OwE F' H' O'' σ (env.set i (some u')))
  | _, _, _, _, _, .nil, e => nomatch e
  | _, _, _, 0, t, .un r, e => by cases e
  | _, _, _, i + 1, t, .un r, e => by
    obtain ⟨w, g, Oj, O', h1, h2, h3⟩ := OwE.focusI r (i := i) e
    refine ⟨w, g, Oj, O', h1, h2, fun F' H' Oj' u' s k h' => ?_⟩
    obtain ⟨O'', q1, q2⟩ := h3 F' H' Oj' u' s k h'
    exact ⟨O'', .un q1, q2⟩
  | _, _, _, 0, t, .so (O1 := O1) (O2 := O2) h r, e => by
    cases e
    refine ⟨_, rfl, O1, O2, h, List.Perm.refl _, fun F' H' Oj' u' s k h' => ⟨Oj' ++ O2, .so h' (r.stay s k), List.Perm.refl _⟩⟩
  | _, _, _, i + 1, t, .so (O1 := O1) (O2 := O2) h r, e => by
    obtain ⟨w, g, Oj, O', h1, h2, h3⟩ := OwE.focusI r (i := i) e
    refine ⟨w, g, Oj, O1 ++ O', h1, perm_mid h2, fun F' H' Oj' u' s k h' => ?_⟩
    obtain ⟨O'', q1, q2⟩ := h3 F' H' Oj' u' s (fun a ha => k a (List.mem_append_right _ ha)) h'
    exact ⟨O1 ++ O'', .so (h.stay s fun a ha => k a (List.mem_append_left _ ha)) q1, perm_mid q2⟩

theorem OwE.focus {F H : Hp} {env : Env} {σ : L2.St} {O : List Addr} {i : Nat} {p : List Str} {u : T} (h : OwE F H O σ env) (e : getP i p env = some u) :
    ∃ w, Hung F H O w u (fun F' H' O'' u' => OwE F' H' O'' σ (setP i p u' env)) ∧ (p = [] → σ[i]? = some (some w)) := by
  unfold getP at e
  cases hi : env[i]? with
  | none => rw [hi] at e; cases e
  | some o =>
    cases o with
    | none => rw [hi] at e; cases e
    | some t =>
      rw [hi] at e
      obtain ⟨w0, g0, Oj0, O0', h1, h2, h3⟩ := OwE.focusI h hi
      obtain ⟨w, ⟨Oj, O', k1, k2, k3⟩, k4⟩ := h1.focus e
      refine ⟨w, ⟨Oj, O' ++ O0', k1, h2.trans (by rw [← List.append_assoc]; exact k2.append_right O0'), fun F' H' Oj' u' s k h' => ?_⟩, fun z => by rw [k4 z]; exact g0⟩
      obtain ⟨O2, q1, q2⟩ := k3 F' H' Oj' u' s (fun b hb => k b (List.mem_append_left _ hb)) h'
      obtain ⟨O3, q3, q4⟩ := h3 F' H' O2 _ s (fun b hb => k b (List.mem_append_right _ hb)) q1
      refine ⟨O3, ?_, q4.trans (by rw [← List.append_assoc]; exact q2.append_right O0')⟩
      show OwE F' H' O3 σ (setP i p u' env)
      rw [setP_eq hi]
      exact q3

/-! ### the state -/
/-- the table at p tells the code object at c -/
def Told (H : Hp) (p c : Addr) : Prop := ∃ (ps : Array Value) (pos : Pos), H p = some (.tbl ps) ∧ codeAmong pos ps.toList = some (.ref c)
theorem Told.code {H : Hp} {p c : Addr} {q : Str} (t : Told H p c) (s : LamX.TabS H p q) : H c = some (LamX.CodeO c q) := by
  obtain ⟨ps, pos, h1, h2⟩ := t
  obtain ⟨ps', g1, _, g3⟩ := s
  rw [h1] at g1
  cases g1
  obtain ⟨c', e1, e2⟩ := g3 pos _ h2
  cases e1
  exact e2
/-- the tables grow alone -/
def TabM (Tq : List (Addr × Str)) (H0 H : Hp) : Prop := ∀ p ∈ Tq, LamX.TabS H0 p.1 p.2 → LamX.TabS H p.1 p.2 ∧ ∀ c, Told H0 p.1 c → Told H p.1 c
theorem TabM.refl {Tq : List (Addr × Str)} (H : Hp) : TabM Tq H H := fun _ _ h => ⟨h, fun _ z => z⟩
theorem TabM.trans {Tq : List (Addr × Str)} {H0 H1 H2 : Hp} (a : TabM Tq H0 H1) (b : TabM Tq H1 H2) : TabM Tq H0 H2 := fun p m t => ⟨(b p m (a p m t).1).1, fun c z => (b p m (a p m t).1).2 c ((a p m t).2 c z)⟩
/-- what a step leaves -/
structure Frm (Tq : List (Addr × Str)) (H0 F0 : Hp) (O0 : List Addr) (H F : Hp) (O : List Addr) : Prop where
  fz : Same F0 F
  out : ∀ a o, H0 a = some o → (∀ ps, o ≠ .tbl ps) → a ∉ O0 → H a = some o
  al : ∀ a, H0 a ≠ none → H a ≠ none
  newF : ∀ a, F a ≠ none → F0 a ≠ none ∨ H0 a = none ∨ a ∈ O0
  newO : ∀ a ∈ O, a ∈ O0 ∨ H0 a = none
  tb : TabM Tq H0 H
theorem Frm.refl {Tq : List (Addr × Str)} (H F : Hp) (O : List Addr) : Frm Tq H F O H F O := ⟨Same.refl _, fun _ _ h _ _ => h, fun _ h => h, fun _ h => .inl h, fun _ h => .inl h, TabM.refl _⟩
/-- one object is written: no table, no code object of a table -/
theorem tab_upd {Tq : List (Addr × Str)} {H : Hp} {a : Addr} {x : HO} (h : ∀ o, H a = some o → (∀ ps, o ≠ .tbl ps) ∧ ∀ q, o ≠ LamX.CodeO a q) : TabM Tq H (upd H a x) := fun p m t => by
  obtain ⟨ps, h1, h2, h3⟩ := t
  have k : upd H a x p.1 = H p.1 := upd_ne fun z => by rw [z] at h1; exact (h _ h1).1 _ rfl
  refine ⟨⟨ps, k.trans h1, h2, fun pos cv hc => ?_⟩, fun c ⟨ps', pos, g1, g2⟩ => ⟨ps', pos, k.trans g1, g2⟩⟩
  obtain ⟨c, e1, e2⟩ := h3 pos cv hc
  exact ⟨c, e1, by rw [upd_ne fun z => by subst z; exact (h _ e2).2 _ rfl]; exact e2⟩
theorem tab_own {Tq : List (Addr × Str)} {H : Hp} {a : Addr} {o x : HO} (h : H a = some o) (nt : ∀ ps, o ≠ .tbl ps := by intro _ z; nomatch z) (nc : ∀ q, o ≠ LamX.CodeO a q := by intro _ z; nomatch z) : TabM Tq H (upd H a x) := tab_upd fun o' e => by rw [h] at e; cases e; exact ⟨nt, nc⟩
theorem tab_new {Tq : List (Addr × Str)} {H : Hp} {a : Addr} {x : HO} (h : H a = none) : TabM Tq H (upd H a x) := tab_upd fun o e => by rw [h] at e; cases e
theorem tab_same {Tq : List (Addr × Str)} {H H' : Hp} (s : Same H H') : TabM Tq H H' := fun p m t => ⟨t.ext s, fun c ⟨ps, pos, g1, g2⟩ => ⟨ps, pos, s _ _ g1, g2⟩⟩
/-- the tables: no part of what is frozen or held -/
structure TabZ (Tq : List (Addr × Str)) (H F : Hp) (O : List Addr) : Prop where
  tabs : ∀ p ∈ Tq, p.2 ≠ "()" → LamX.TabS H p.1 p.2
  tn : ∀ p ∈ Tq, p.2 ≠ "()" → F p.1 = none
  to : ∀ p ∈ Tq, p.2 ≠ "()" → p.1 ∉ O
  em : ∀ p ∈ Tq, p.2 = "()" → Rd F p.1 (.tup [])
theorem Frm.trans {Tq : List (Addr × Str)} {H0 F0 H1 F1 H2 F2 : Hp} {O0 O1 O2 : List Addr} (a : Frm Tq H0 F0 O0 H1 F1 O1) (b : Frm Tq H1 F1 O1 H2 F2 O2) : Frm Tq H0 F0 O0 H2 F2 O2 where
  fz := a.fz.trans b.fz
  out := fun c o h nt n => b.out c o (a.out c o h nt n) nt fun z => (a.newO c z).elim n fun q => by rw [q] at h; cases h
  tb := a.tb.trans b.tb
  al := fun c h => b.al c (a.al c h)
  newF := fun c h => by
    rcases b.newF c h with z | z | z
    · exact a.newF c z
    · refine .inr (.inl ?_)
      cases q : H0 c with
      | none => rfl
      | some o => exact absurd z (a.al c (by rw [q]; exact fun z => nomatch z))
    · exact (a.newO c z).elim (fun q => .inr (.inr q)) fun q => .inr (.inl q)
  newO := fun c h => by
    rcases b.newO c h with z | z
    · exact a.newO c z
    · refine .inr ?_
      cases q : H0 c with
      | none => rfl
      | some o => exact absurd z (a.al c (by rw [q]; exact fun z => nomatch z))
/-- only the list of the held objects is written otherwise -/
theorem Frm.perm {Tq : List (Addr × Str)} {H0 F0 H F : Hp} {O0 O0' O O' : List Addr} (a : Frm Tq H0 F0 O0 H F O) (h0 : ∀ b, b ∈ O0 ↔ b ∈ O0') (h : ∀ b ∈ O', b ∈ O) : Frm Tq H0 F0 O0' H F O' :=
  ⟨a.fz, fun c o e nt n => a.out c o e nt fun z => n ((h0 c).mp z), a.al, fun c e => (a.newF c e).imp_right (·.imp_right (h0 c).mp), fun c e => (a.newO c (h c e)).imp_left (h0 c).mp, a.tb⟩
/-- a step of a part, the other held objects aside -/
theorem Frm.frame {Tq : List (Addr × Str)} {H0 F0 H F : Hp} {O0 O R : List Addr} (a : Frm Tq H0 F0 O0 H F O) : Frm Tq H0 F0 (O0 ++ R) H F (O ++ R) where
  fz := a.fz
  out := fun c o e nt n => a.out c o e nt fun z => n (List.mem_append_left _ z)
  tb := a.tb
  al := a.al
  newF := fun c e => (a.newF c e).imp_right (·.imp_right (List.mem_append_left _))
  newO := fun c e => (List.mem_append.mp e).elim (fun z => (a.newO c z).imp_left (List.mem_append_left _)) fun z => .inl (List.mem_append_right _ z)
/-- the state at a def's entry; Tq: the tables of code objects that are known -/
structure Zb (Tq : List (Addr × Str)) where
  H : Hp
  F : Hp
  O : List Addr
  tb : TabZ Tq H F O
/-- F never changes; O are the objects that are held by one name alone; Z: the entry -/
structure Bas {Tq : List (Addr × Str)} (Z : Zb Tq) (F H : Hp) (O : List Addr) : Prop where
  sub : Same F H
  nd : O.Nodup
  dis : ∀ a ∈ O, F a = none
  abs : Frm Tq Z.H Z.F Z.O H F O
/-- the other held objects stand as they were -/
theorem Frm.rest {Tq : List (Addr × Str)} {H0 F0 H F : Hp} {O0 O R : List Addr} (a : Frm Tq H0 F0 O0 H F O) (nd : (O0 ++ R).Nodup) (ex : ∀ b ∈ R, Held H0 b) : ∀ b ∈ R, H b = H0 b := fun b hb => by
  obtain ⟨o, q, nt⟩ := ex b hb
  rw [q]
  exact a.out b o q nt fun z => (List.nodup_append.mp nd).2.2 b z b hb rfl
theorem Bas.frame {Tq : List (Addr × Str)} {Z Z' : Zb Tq} {H0 F0 H F : Hp} {O0 O R : List Addr} (a : Frm Tq H0 F0 O0 H F O) (b0 : Bas Z F0 H0 (O0 ++ R)) (b : Bas Z' F H O) (ex : ∀ c ∈ R, Held H0 c) : Bas Z F H (O ++ R) := by
  refine ⟨b.sub, List.nodup_append.mpr ⟨b.nd, (List.nodup_append.mp b0.nd).2.1, fun x hx y hy e => ?_⟩, fun c hc => ?_, b0.abs.trans a.frame⟩
  · subst e
    rcases a.newO x hx with z | z
    · exact (List.nodup_append.mp b0.nd).2.2 x z x hy rfl
    · exact (ex x hy).ne z
  · rcases List.mem_append.mp hc with z | z
    · exact b.dis c z
    · cases q : F c with
      | none => rfl
      | some o =>
        rcases a.newF c (by rw [q]; exact fun z => nomatch z) with r | r | r
        · exact absurd (b0.dis c (List.mem_append_right _ z)) r
        · exact absurd r (ex c z).ne
        · exact absurd rfl ((List.nodup_append.mp b0.nd).2.2 c r c z)
theorem Bas.perm {Tq : List (Addr × Str)} {Z : Zb Tq} {F H : Hp} {O O' : List Addr} (b : Bas Z F H O) (p : O.Perm O') : Bas Z F H O' := ⟨b.sub, p.nodup b.nd, fun a ha => b.dis a (p.mem_iff.mpr ha), b.abs.perm (fun _ => Iff.rfl) fun c hc => p.mem_iff.mpr hc⟩
theorem Bas.left {Tq : List (Addr × Str)} {Z : Zb Tq} {F H : Hp} {O R : List Addr} (b : Bas Z F H (O ++ R)) : Bas Z F H O := ⟨b.sub, (List.nodup_append.mp b.nd).1, fun a ha => b.dis a (List.mem_append_left _ ha), b.abs.perm (fun _ => Iff.rfl) fun c hc => List.mem_append_left _ hc⟩
theorem Bas.right {Tq : List (Addr × Str)} {Z : Zb Tq} {F H : Hp} {O R : List Addr} (b : Bas Z F H (O ++ R)) : Bas Z F H R := ⟨b.sub, (List.nodup_append.mp b.nd).2.1, fun a ha => b.dis a (List.mem_append_right _ ha), b.abs.perm (fun _ => Iff.rfl) fun c hc => List.mem_append_right _ hc⟩
theorem Bas.tabs {F H : Hp} {O : List Addr} {Tq : List (Addr × Str)} {Z : Zb Tq} (b : Bas Z F H O) : TabZ Tq H F O :=
  have no : ∀ p ∈ Tq, p.2 ≠ "()" → Z.H p.1 ≠ none := fun p hp ne z => by
    obtain ⟨ps, h, _⟩ := Z.tb.tabs p hp ne
    rw [z] at h
    cases h
  ⟨fun p hp ne => (b.abs.tb p hp (Z.tb.tabs p hp ne)).1, fun p hp ne => by
    cases q : F p.1 with
    | none => rfl
    | some x =>
      rcases b.abs.newF p.1 (by rw [q]; exact fun z => nomatch z) with y | y | y
      · exact absurd (Z.tb.tn p hp ne) y
      · exact absurd y (no p hp ne)
      · exact absurd y (Z.tb.to p hp ne), fun p hp ne z => (b.abs.newO p.1 z).elim (Z.tb.to p hp ne) (no p hp ne), fun p hp e => rd_mono b.abs.fz (Z.tb.em p hp e)⟩
theorem Bas.entry {F H : Hp} {O : List Addr} {Tq : List (Addr × Str)} {Z : Zb Tq} (b : Bas Z F H O) : Bas ⟨H, F, O, b.tabs⟩ F H O := ⟨b.sub, b.nd, b.dis, Frm.refl _ _ _⟩
end QL

/-! QB: what an expression gives, over data: WE (a result), WA (an argument), WAs, WT (a test); WS, WSs (statements). -/
namespace QL
open PySem PySem.Spec PyProof.Rows L2

/-- a result: a thing of its own, or what stands at a place of a name (an object that this name holds) -/
inductive R
  | t (t : T)
  | bor (a : Addr) (i : Nat) (p : List Str)
/-- an argument -/
inductive A
  | va (d : D)
  | bor (a : Addr) (i : Nat) (p : List Str)

def frzT : T → Option D
  | .va d => some d
  | .lst _ ds => some (.list ds)
  | .dic _ kvs => some (.dict (kvs.map fun p => (kD p.1, p.2)))
  | .fdc _ kvs => some (.dict (kvs.map fun p => (kD p.1, p.2)))
  | _ => none
def toA (r : R) (k : A → Prop) : Prop := match r with
  | .bor a i p => k (.bor a i p)
  | .t t => match frzT t with
    | some d => k (.va d)
    | none => False

def StR (F H : Hp) (O : List Addr) (σ : L2.St) (env : Env) (v : V) : R → Prop
  | .t t => ∃ O1 O2, O = O1 ++ O2 ∧ OwE F H O1 σ env ∧ Ow F H O2 v t
  | .bor a _ _ => OwE F H O σ env ∧ v = .ref a
def StA (F : Hp) (v : V) : A → Prop
  | .va d => Rp F v d
  | .bor a _ _ => v = .ref a
theorem StA.mono {F F' : Hp} (s : Same F F') {v : V} {a : A} (h : StA F v a) : StA F' v a := by
  cases a with
  | va d => exact Rp.mono s h
  | bor a i p => exact h
inductive StAs (F : Hp) : List V → List A → Prop
  | nil : StAs F [] []
  | cons {v : V} {vs : List V} {a : A} {as : List A} : StA F v a → StAs F vs as → StAs F (v :: vs) (a :: as)
theorem StAs.mono {F F' : Hp} (s : Same F F') : ∀ {v : List V} {a : List A}, StAs F v a → StAs F' v a
  | _, _, .nil => .nil
  | _, _, .cons h r => .cons (h.mono s) (StAs.mono s r)

/-! ### freezing -/
def frzF (F H : Hp) (O : List Addr) : Hp := fun a => if a ∈ O then H a else F a
theorem frzF_in {F H : Hp} {O : List Addr} {a : Addr} (h : a ∈ O) : frzF F H O a = H a := by unfold frzF; rw [if_pos h]
theorem frzF_out {F H : Hp} {O : List Addr} {a : Addr} (h : a ∉ O) : frzF F H O a = F a := by unfold frzF; rw [if_neg h]
theorem frzF_from {F H : Hp} {O : List Addr} (d : ∀ a ∈ O, F a = none) : Same F (frzF F H O) := fun b o e => by
  by_cases h : b ∈ O
  · rw [d b h] at e; cases e
  · rw [frzF_out h]; exact e
theorem frzF_to {F H : Hp} {O : List Addr} (s : Same F H) : Same (frzF F H O) H := fun b o e => by
  by_cases h : b ∈ O
  · rw [frzF_in h] at e; exact e
  · rw [frzF_out h] at e; exact s b o e
theorem RpT.rpk {F : Hp} : ∀ {vs : List (Key × V)} {ds : List (Key × D)}, RpT F vs ds → RpK F vs (ds.map fun p => (kD p.1, p.2))
  | _, _, .nil => .nil
  | _, _, .cons h r => .cons h r.rpk
theorem Ow.frz {F H F' : Hp} {O : List Addr} {v : V} {t : T} {d : D} (h : Ow F H O v t) (s : Same F F') (k : ∀ a ∈ O, F' a = H a) (f : frzT t = some d) : Rp F' v d := by
  cases h with
  | va r => cases f; exact r.mono s
  | lst h r => cases f; exact .lst ((k _ (List.mem_singleton.mpr rfl)).trans h) (r.mono s)
  | dic h r => cases f; exact .dic (.inl ((k _ (List.mem_singleton.mpr rfl)).trans h)) (r.rpk.mono s)
  | fdc h r => cases f; exact .dic (.inr ⟨_, s _ _ h⟩) (r.rpk.mono s)
  | ins h1 h2 r => cases f
  | hole => cases f
  | ob h st => cases f
/-- a part of what is held is held no more: it never changes from now on -/
theorem Bas.freeze {Tq : List (Addr × Str)} {Z : Zb Tq} {F H : Hp} {O1 O2 : List Addr} (b : Bas Z F H (O1 ++ O2)) : Bas Z (frzF F H O2) H O1 ∧ Same F (frzF F H O2) ∧ (∀ a ∈ O2, frzF F H O2 a = H a) ∧ Frm Tq H F (O1 ++ O2) H (frzF F H O2) O1 := by
  have s : Same F (frzF F H O2) := frzF_from b.right.dis
  have fr : Frm Tq H F (O1 ++ O2) H (frzF F H O2) O1 := ⟨s, fun _ _ h _ _ => h, fun _ h => h, fun a h => by
    by_cases q : a ∈ O2
    · exact .inr (.inr (List.mem_append_right _ q))
    · rw [frzF_out q] at h
      exact .inl h, fun a ha => .inl (List.mem_append_left _ ha), TabM.refl _⟩
  refine ⟨⟨frzF_to b.sub, b.left.nd, fun a ha => ?_, b.abs.trans fr⟩, s, fun a ha => frzF_in ha, fr⟩
  rw [frzF_out fun z => (List.nodup_append.mp b.nd).2.2 a ha a z rfl]
  exact b.left.dis a ha

/-! ### expressions -/
def Post {Tq : List (Addr × Str)} (Z : Zb Tq) (σ : L2.St) (H0 F0 : Hp) (O0 : List Addr) (P : R → Env → Prop) : VK := fun v H => ∃ F O r env, Bas Z F H O ∧ StR F H O σ env v r ∧ Frm Tq H0 F0 O0 H F O ∧ P r env
def PostA {Tq : List (Addr × Str)} (Z : Zb Tq) (σ : L2.St) (H0 F0 : Hp) (O0 : List Addr) (P : A → Env → Prop) : VK := fun v H => ∃ F O a env, Bas Z F H O ∧ OwE F H O σ env ∧ StA F v a ∧ Frm Tq H0 F0 O0 H F O ∧ P a env
def PostAs {Tq : List (Addr × Str)} (Z : Zb Tq) (σ : L2.St) (H0 F0 : Hp) (O0 : List Addr) (P : List A → Env → Prop) : List V → Hp → Prop := fun vs H => ∃ F O as env, Bas Z F H O ∧ OwE F H O σ env ∧ StAs F vs as ∧ Frm Tq H0 F0 O0 H F O ∧ P as env
def PostT {Tq : List (Addr × Str)} (Z : Zb Tq) (σ : L2.St) (H0 F0 : Hp) (O0 : List Addr) (P : Bool → Env → Prop) : Bool → Hp → Prop := fun b H => ∃ F O env, Bas Z F H O ∧ OwE F H O σ env ∧ Frm Tq H0 F0 O0 H F O ∧ P b env

def WE {Tq : List (Addr × Str)} (Z : Zb Tq) (X : Cx) (e : Expr) (env : Env) (P : R → Env → Prop) : Prop :=
  ∀ (pins : List (Addr × Obj)) (s : Shared) (σ : L2.St) (H F : Hp) (O : List Addr), Inv X pins σ H s → Bas Z F H O → OwE F H O σ env →
    wpAny (model X.prog X.w) X.A (eval e X.env) (EP X pins σ (Post Z σ H F O P)) X.xe s
def WA {Tq : List (Addr × Str)} (Z : Zb Tq) (X : Cx) (e : Expr) (env : Env) (P : A → Env → Prop) : Prop := WE Z X e env fun r env' => toA r fun a => P a env'
def WT {Tq : List (Addr × Str)} (Z : Zb Tq) (X : Cx) (e : Expr) (env : Env) (P : Bool → Env → Prop) : Prop :=
  ∀ (pins : List (Addr × Obj)) (s : Shared) (σ : L2.St) (H F : Hp) (O : List Addr), Inv X pins σ H s → Bas Z F H O → OwE F H O σ env →
    wpAny (model X.prog X.w) X.A (isTrue e X.env (eval e X.env)) (TP X pins σ (PostT Z σ H F O P)) X.xe s
/-- a test, whatever its value is taken from -/
def WW {Tq : List (Addr × Str)} (Z : Zb Tq) (X : Cx) (e : Expr) (env : Env) (P : Bool → Env → Prop) : Prop :=
  ∀ (whole : Sem Value) (pins : List (Addr × Obj)) (s : Shared) (σ : L2.St) (H F : Hp) (O : List Addr), Inv X pins σ H s → Bas Z F H O → OwE F H O σ env →
    wpAny (model X.prog X.w) X.A (isTrue e X.env whole) (TP X pins σ (PostT Z σ H F O P)) X.xe s
theorem WW.t {Tq : List (Addr × Str)} {Z : Zb Tq} {X : Cx} {e : Expr} {env : Env} {P : Bool → Env → Prop} (h : WW Z X e env P) : WT Z X e env P := h _

section
variable {Tq : List (Addr × Str)} {Z : Zb Tq} {X : Cx} {e a b : Expr} {env : Env} {pins : List (Addr × Obj)} {s : Shared} {σ : L2.St} {H F : Hp} {O : List Addr}
theorem EP.imp {Q Q' : VK} (h : ∀ v H', Q v H' → Q' v H') : ∀ u s', EP X pins σ Q u s' → EP X pins σ Q' u s' := fun _ _ ⟨v, H', I, r, q⟩ => ⟨v, H', I, r, h v H' q⟩
theorem Post.toA {H0 F0 : Hp} {O0 : List Addr} {P : A → Env → Prop} {v : V} (h : Post Z σ H0 F0 O0 (fun r env' => QL.toA r fun a => P a env') v H) : PostA Z σ H0 F0 O0 P v H := by
  obtain ⟨F, O, r, env, b, st, fr, p⟩ := h
  cases r with
  | bor a i pp => exact ⟨F, O, .bor a i pp, env, b, st.1, st.2, fr, p⟩
  | t t =>
    obtain ⟨O1, O2, rfl, e, o⟩ := st
    cases hf : frzT t with
    | none => unfold QL.toA at p; simp only [hf] at p
    | some d =>
      unfold QL.toA at p
      simp only [hf] at p
      obtain ⟨b', s, k, fr'⟩ := b.freeze
      exact ⟨_, O1, .va d, env, b', e.stay s fun _ _ => rfl, o.frz s k hf, fr.trans fr', p⟩
theorem Post.imp {H0 F0 : Hp} {O0 : List Addr} {P P' : R → Env → Prop} (hp : ∀ r env, P r env → P' r env) {v : V} (h : Post Z σ H0 F0 O0 P v H) : Post Z σ H0 F0 O0 P' v H := by
  obtain ⟨F, O, r, env, b, st, fr, p⟩ := h
  exact ⟨F, O, r, env, b, st, fr, hp _ _ p⟩
theorem Post.from {H0 F0 H1 F1 : Hp} {O0 O1 : List Addr} {P : R → Env → Prop} (fr : Frm Tq H0 F0 O0 H1 F1 O1) {v : V} (h : Post Z σ H1 F1 O1 P v H) : Post Z σ H0 F0 O0 P v H := by
  obtain ⟨F, O, r, env, b, st, fr', p⟩ := h
  exact ⟨F, O, r, env, b, st, fr.trans fr', p⟩
theorem PostA.from {H0 F0 H1 F1 : Hp} {O0 O1 : List Addr} {P : A → Env → Prop} (fr : Frm Tq H0 F0 O0 H1 F1 O1) {v : V} (h : PostA Z σ H1 F1 O1 P v H) : PostA Z σ H0 F0 O0 P v H := by
  obtain ⟨F, O, r, env, b, e, st, fr', p⟩ := h
  exact ⟨F, O, r, env, b, e, st, fr.trans fr', p⟩
theorem PostT.from {H0 F0 H1 F1 : Hp} {O0 O1 : List Addr} {P : Bool → Env → Prop} (fr : Frm Tq H0 F0 O0 H1 F1 O1) {v : Bool} (h : PostT Z σ H1 F1 O1 P v H) : PostT Z σ H0 F0 O0 P v H := by
  obtain ⟨F, O, r, b, e, fr', p⟩ := h
  exact ⟨F, O, r, b, e, fr.trans fr', p⟩
theorem WE.imp {P P' : R → Env → Prop} (h : WE Z X e env P) (hp : ∀ r env, P r env → P' r env) : WE Z X e env P' := fun pins s σ H F O I b o => thn (h pins s σ H F O I b o) (EP.imp fun _ _ => Post.imp hp)
theorem WT.imp {P P' : Bool → Env → Prop} (h : WT Z X e env P) (hp : ∀ r env, P r env → P' r env) : WT Z X e env P' := fun pins s σ H F O I b o =>
  thn (h pins s σ H F O I b o) fun _ _ ⟨H', I', F, O, r, b, e, fr, p⟩ => ⟨H', I', F, O, r, b, e, fr, hp _ _ p⟩
theorem WA.run {P : A → Env → Prop} (h : WA Z X e env P) (I : Inv X pins σ H s) (b : Bas Z F H O) (o : OwE F H O σ env) :
    wpAny (model X.prog X.w) X.A (eval e X.env) (EP X pins σ (PostA Z σ H F O P)) X.xe s := thn (h pins s σ H F O I b o) (EP.imp fun _ _ => Post.toA)

/-- readings of the hand layer made of these -/
def tE {Tq : List (Addr × Str)} (Z : Zb Tq) (X : Cx) (e : Expr) : TE := fun σ H Q => ∃ env F O P, Bas Z F H O ∧ OwE F H O σ env ∧ WE Z X e env P ∧ ∀ v H', Post Z σ H F O P v H' → Q v H'
def tA {Tq : List (Addr × Str)} (Z : Zb Tq) (X : Cx) (e : Expr) : TE := fun σ H Q => ∃ env F O P, Bas Z F H O ∧ OwE F H O σ env ∧ WA Z X e env P ∧ ∀ v H', PostA Z σ H F O P v H' → Q v H'
def tT {Tq : List (Addr × Str)} (Z : Zb Tq) (X : Cx) (e : Expr) : TT := fun σ H Q => ∃ env F O P, Bas Z F H O ∧ OwE F H O σ env ∧ WT Z X e env P ∧ ∀ v H', PostT Z σ H F O P v H' → Q v H'
theorem pe_E : PE X e (tE Z X e) := ⟨fun pins s σ H Q I ⟨env, F, O, P, b, o, w, q⟩ => thn (w pins s σ H F O I b o) (EP.imp q)⟩
theorem pe_A : PE X e (tA Z X e) := ⟨fun pins s σ H Q I ⟨env, F, O, P, b, o, w, q⟩ => thn (w.run I b o) (EP.imp q)⟩
theorem pt_T : PT X e (tT Z X e) := ⟨fun pins s σ H Q I ⟨env, F, O, P, b, o, w, q⟩ => thn (w pins s σ H F O I b o) fun _ _ ⟨H', I', p⟩ => ⟨H', I', q _ _ p⟩⟩
/-- from the hand layer -/
theorem we_of {t : TE} {P : R → Env → Prop} (h : PE X e t) (w : ∀ σ H F O, Bas Z F H O → OwE F H O σ env → t σ H (Post Z σ H F O P)) : WE Z X e env P := fun pins s σ H F O I b o => h.run pins s σ H _ I (w σ H F O b o)
theorem wt_of {t : TT} {P : Bool → Env → Prop} (h : PT X e t) (w : ∀ σ H F O, Bas Z F H O → OwE F H O σ env → t σ H (PostT Z σ H F O P)) : WT Z X e env P := fun pins s σ H F O I b o => h.run pins s σ H _ I (w σ H F O b o)

/-! ### arguments -/
def WAs {Tq : List (Addr × Str)} (Z : Zb Tq) (X : Cx) : List Expr → Env → (List A → Env → Prop) → Prop
  | [], env, P => P [] env
  | e :: es, env, P => (starEach (e :: es) X.env = (false, eval e X.env) :: starEach es X.env) ∧ WA Z X e env fun a env1 => WAs Z X es env1 fun as env2 => P (a :: as) env2
def tAs {Tq : List (Addr × Str)} (Z : Zb Tq) (X : Cx) (es : List Expr) : TA := fun σ H Q => ∃ env F O P, Bas Z F H O ∧ OwE F H O σ env ∧ WAs Z X es env P ∧ ∀ v H', PostAs Z σ H F O P v H' → Q v H'
theorem pa_As : ∀ {es : List Expr}, PA X es (tAs Z X es)
  | [] => ⟨fun pos pins s σ H Q I ⟨env, F, O, P, b, o, w, q⟩ => pa_nil.run pos pins s σ H Q I (q [] H ⟨F, O, [], env, b, o, .nil, Frm.refl _ _ _, w⟩)⟩
  | e :: es => ⟨fun pos pins s σ H Q I ⟨env, F, O, P, b, o, w, q⟩ => by
    have hp := pa_cons (X := X) (pe_A (Z := Z) (e := e)) (pa_As (es := es)) w.1
    refine hp.run pos pins s σ H Q I ⟨env, F, O, _, b, o, w.2, ?_⟩
    rintro v1 H1 ⟨F1, O1, a1, env1, b1, o1, st1, fr1, w1⟩
    refine ⟨env1, F1, O1, _, b1, o1, w1, ?_⟩
    rintro vs H2 ⟨F2, O2, as, env2, b2, o2, st2, fr2, w2⟩
    exact q _ _ ⟨F2, O2, a1 :: as, env2, b2, o2, .cons (st1.mono fr2.fz) st2, fr1.trans fr2, w2⟩⟩
/-- the same with named arguments -/
def WKs {Tq : List (Addr × Str)} (Z : Zb Tq) (X : Cx) : List Keyword → Env → (List A → Env → Prop) → Prop
  | [], env, P => P [] env
  | k :: ks, env, P => WA Z X k.value env fun a env1 => WKs Z X ks env1 fun as env2 => P (a :: as) env2
def tKs {Tq : List (Addr × Str)} (Z : Zb Tq) (X : Cx) (es : List Keyword) : TA := fun σ H Q => ∃ env F O P, Bas Z F H O ∧ OwE F H O σ env ∧ WKs Z X es env P ∧ ∀ v H', PostAs Z σ H F O P v H' → Q v H'
theorem pk_Ks : ∀ {es : List Keyword}, PK X es (tKs Z X es)
  | [] => ⟨fun pos pins s σ H Q I ⟨env, F, O, P, b, o, w, q⟩ => pk_nil.run pos pins s σ H Q I (q [] H ⟨F, O, [], env, b, o, .nil, Frm.refl _ _ _, w⟩)⟩
  | ⟨nm, e, kp⟩ :: es => ⟨fun pos pins s σ H Q I ⟨env, F, O, P, b, o, w, q⟩ => by
    have hp := pk_cons (X := X) (nm := nm) (kpos := kp) (pe_A (Z := Z) (e := e)) (pk_Ks (es := es))
    refine hp.run pos pins s σ H Q I ⟨env, F, O, _, b, o, w, ?_⟩
    rintro v1 H1 ⟨F1, O1, a1, env1, b1, o1, st1, fr1, w1⟩
    refine ⟨env1, F1, O1, _, b1, o1, w1, ?_⟩
    rintro vs H2 ⟨F2, O2, as, env2, b2, o2, st2, fr2, w2⟩
    exact q _ _ ⟨F2, O2, a1 :: as, env2, b2, o2, .cons (st1.mono fr2.fz) st2, fr1.trans fr2, w2⟩⟩

/-! ### what an argument is seen as -/
inductive Vw (F H : Hp) : V → D → Prop
  | pure {v : V} {d : D} : Rp F v d → Vw F H v d
  | lst {a : Addr} {xs : List V} {ds : List D} : H a = some (.lst xs) → RpA F xs ds → Vw F H (.ref a) (.list ds)
  | dic {a : Addr} {kvs : List (Key × V)} {ds : List (D × D)} : H a = some (.dK kvs) → RpK F kvs ds → Vw F H (.ref a) (.dict ds)
theorem Vw.rp {v : V} {d : D} (h : Vw F H v d) (s : Same F H) : Rp H v d := by
  cases h with
  | pure r => exact r.mono s
  | lst h r => exact .lst h (r.mono s)
  | dic h r => exact .dic (.inl h) (r.mono s)
def View (a : A) (env : Env) (k : D → Prop) : Prop := match a with
  | .va d => () = () ∧ k d
  | .bor a i p => match getP i p env with
    | some (.lst a' ds) => a' = a ∧ k (.list ds)
    | some (.dic a' kvs) => a' = a ∧ k (.dict (kvs.map fun p => (kD p.1, p.2)))
    | some (.fdc a' kvs) => a' = a ∧ k (.dict (kvs.map fun p => (kD p.1, p.2)))
    | _ => False
theorem View.vw {v : V} {a : A} {k : D → Prop} (h : View a env k) (o : OwE F H O σ env) (st : StA F v a) : ∃ d, Vw F H v d ∧ k d := by
  cases a with
  | va d => exact ⟨d, .pure st, h.2⟩
  | bor a i p =>
    unfold View at h
    simp only at h
    cases hg : getP i p env with
    | none => rw [hg] at h; exact h.elim
    | some u =>
      rw [hg] at h
      obtain ⟨w, ⟨Oj, O', h1, _, _⟩, _⟩ := o.focus hg
      have st : v = .ref a := st
      subst st
      cases h1 with
      | va r => exact h.elim
      | lst h1 r => obtain ⟨rfl, h⟩ := h; exact ⟨_, .lst h1 r, h⟩
      | dic h1 r => obtain ⟨rfl, h⟩ := h; exact ⟨_, .dic h1 r.rpk, h⟩
      | fdc h1 r => obtain ⟨rfl, h⟩ := h; exact ⟨_, .pure (.dic (.inr ⟨_, h1⟩) r.rpk), h⟩
      | ins h1 h2 r => exact h.elim
      | hole => exact h.elim
      | ob h1 st => exact h.elim

/-! ### something new is made; all that was there stays -/
def NewV (F H : Hp) (k : T → Prop) : VK := fun v H' => ∃ F' O' t, Same F F' ∧ Same H H' ∧ Same F' H' ∧ (∀ a, F' a ≠ none → F a ≠ none ∨ H a = none) ∧ O'.Nodup ∧ (∀ a ∈ O', H a = none ∧ F' a = none) ∧ Ow F' H' O' v t ∧ k t
theorem NewV.val {k : T → Prop} {v : V} {d : D} (b : Same F H) (r : Rp F v d) (h : k (.va d)) : NewV F H k v H :=
  ⟨F, [], _, Same.refl _, Same.refl _, b, fun _ z => .inl z, List.nodup_nil, fun _ z => (nomatch z), .va r, h⟩
theorem same_new {H : Hp} {p : Addr} {o : HO} (h : H p = none) : Same H (upd H p o) := fun b x e => by rw [upd_ne (ne_of_none e h)]; exact e
theorem same_upd2 {F H : Hp} (s : Same F H) {p : Addr} {o : HO} : Same (upd F p o) (upd H p o) := fun b x e => by
  by_cases h : b = p
  · subst h; rw [upd_same] at e ⊢; exact e
  · rw [upd_ne h] at e ⊢; exact s b x e
theorem NewV.lst {k : T → Prop} {p : Addr} {xs : List V} {ds : List D} (b : Same F H) (r : RpA F xs ds) (n : H p = none) (h : k (.lst p ds)) : NewV F H k (.ref p) (upd H p (.lst xs)) := by
  refine ⟨F, [p], .lst p ds, Same.refl _, same_new n, b.trans (same_new n), fun _ z => .inl z, List.nodup_cons.mpr ⟨fun z => (nomatch z), List.nodup_nil⟩, fun a ha => ?_, .lst upd_same r, h⟩
  rw [List.mem_singleton.mp ha]
  exact ⟨n, b.free n⟩
theorem NewV.tup {k : T → Prop} {p : Addr} {xs : List V} {ds : List D} (b : Same F H) (r : RpA F xs ds) (n : H p = none) (h : k (.va (.tuple ds))) : NewV F H k (.ref p) (upd H p (.tup xs)) := by
  have nf : F p = none := b.free n
  refine ⟨upd F p (.tup xs), [], .va (.tuple ds), same_new nf, same_new n, same_upd2 b, fun a z => ?_, List.nodup_nil, fun _ z => (nomatch z), .va (.tup (.inl upd_same) (r.mono (same_new nf))), h⟩
  by_cases e : a = p
  · subst e; exact .inr n
  · rw [upd_ne e] at z; exact .inl z
theorem NewV.post {k : T → Prop} {v : V} {H' : Hp} {P : R → Env → Prop} (h : NewV F H k v H') (b : Bas Z F H O) (o : OwE F H O σ env) (hp : ∀ t, k t → P (.t t) env) : Post Z σ H F O P v H' := by
  obtain ⟨F', O', t, s1, s2, s3, nf, nd, no, ow, p⟩ := h
  have keep : ∀ a ∈ O, H' a = H a := fun a ha => by
    cases q : H a with
    | none => exact absurd q (o.there a ha)
    | some x => exact s2 a x q
  have fr : Frm Tq H F O H' F' (O ++ O') := ⟨s1, fun a x e _ _ => s2 a x e, (fun a e => by
      cases q : H a with
      | none => exact absurd q e
      | some x => rw [s2 a x q]; exact fun z => nomatch z), fun a e => (nf a e).imp_right .inl, fun a ha => (List.mem_append.mp ha).imp_right fun z => (no a z).1, tab_same s2⟩
  refine ⟨F', O ++ O', .t t, env, ⟨s3, List.nodup_append.mpr ⟨b.nd, nd, fun x hx y hy e => ?_⟩, fun a ha => ?_, b.abs.trans fr⟩, ⟨O, O', rfl, o.stay s1 keep, ow⟩, fr, hp t p⟩
  · subst e; exact o.there x hx (no x hy).1
  · rcases List.mem_append.mp ha with ha | ha
    · cases q : F' a with
      | none => rfl
      | some x =>
        rcases nf a (by rw [q]; exact fun z => nomatch z) with z | z
        · exact absurd (b.dis a ha) z
        · exact absurd z (o.there a ha)
    · exact (no a ha).2
end
end QL

/-! QC: rules of expressions. -/
namespace QL
open PySem PySem.Spec PyProof.Rows L2

/-! ### lists of data -/
section
variable {F H : Hp}
theorem RpA.len : ∀ {vs : List V} {ds : List D}, RpA F vs ds → vs.length = ds.length
  | _, _, .nil => rfl
  | _, _, .cons _ r => congrArg (· + 1) r.len
theorem RpA.app : ∀ {vs us : List V} {ds es : List D}, RpA F vs ds → RpA F us es → RpA F (vs ++ us) (ds ++ es)
  | _, _, _, _, .nil, r => r
  | _, _, _, _, .cons h r, r' => .cons h (r.app r')
theorem RpA.get : ∀ {vs : List V} {ds : List D} {i : Nat} {v : V}, RpA F vs ds → vs[i]? = some v → ∃ d, ds[i]? = some d ∧ Rp F v d
  | _, _, _, _, .nil, e => nomatch e
  | _, _, 0, _, .cons h r, e => by cases e; exact ⟨_, rfl, h⟩
  | _, _, i + 1, _, .cons h r, e => r.get (i := i) e
theorem RpA.get' : ∀ {vs : List V} {ds : List D} {i : Nat} {d : D}, RpA F vs ds → ds[i]? = some d → ∃ v, vs[i]? = some v ∧ Rp F v d
  | _, _, _, _, .nil, e => nomatch e
  | _, _, 0, _, .cons h r, e => by cases e; exact ⟨_, rfl, h⟩
  | _, _, i + 1, _, .cons h r, e => r.get' (i := i) e
theorem RpA.take : ∀ {vs : List V} {ds : List D} (n : Nat), RpA F vs ds → RpA F (vs.take n) (ds.take n)
  | _, _, 0, _ => .nil
  | _, _, _ + 1, .nil => .nil
  | _, _, n + 1, .cons h r => .cons h (r.take n)
theorem RpA.drop : ∀ {vs : List V} {ds : List D} (n : Nat), RpA F vs ds → RpA F (vs.drop n) (ds.drop n)
  | _, _, 0, r => r
  | _, _, _ + 1, .nil => .nil
  | _, _, n + 1, .cons _ r => r.drop n
theorem RpA.set {v : V} {d : D} (h : Rp F v d) : ∀ {vs : List V} {ds : List D} (i : Nat), RpA F vs ds → RpA F (vs.set i v) (ds.set i d)
  | _, _, _, .nil => .nil
  | _, _, 0, .cons _ r => .cons h r
  | _, _, i + 1, .cons q r => .cons q (r.set h i)
theorem RpA.rep {vs : List V} {ds : List D} (r : RpA F vs ds) : ∀ k : Nat, RpA F (List.replicate k vs).flatten (List.replicate k ds).flatten
  | 0 => .nil
  | k + 1 => by rw [List.replicate_succ, List.replicate_succ, List.flatten_cons, List.flatten_cons]; exact r.app (r.rep k)
theorem RpA.rev {vs : List V} {ds : List D} (r : RpA F vs ds) : RpA F vs.reverse ds.reverse := by
  induction vs generalizing ds with
  | nil => cases r; exact .nil
  | cons v vs ih => cases r with
    | cons h r => rw [List.reverse_cons, List.reverse_cons]; exact (ih r).app (.cons h .nil)
theorem RpA.ints : ∀ {ns : List Int} {vs : List V}, RpA F vs (ns.map PyData.int) → vs = ns.map V.int
  | [], _, .nil => rfl
  | n :: ns, _, .cons h r => by cases h; rw [r.ints]; rfl
theorem RpA.bls : ∀ {ns : List Bool} {vs : List V}, RpA F vs (ns.map PyData.bool) → vs = ns.map V.bl
  | [], _, .nil => rfl
  | n :: ns, _, .cons h r => by cases h; rw [r.bls]; rfl
theorem Vw.int {v : V} {i : Int} (h : Vw F H v (.int i)) : v = .int i := by cases h with | pure r => cases r; rfl
theorem Vw.str {v : V} {i : Str} (h : Vw F H v (.str i)) : v = .str i := by cases h with | pure r => cases r; rfl
theorem Vw.bl {v : V} {i : Bool} (h : Vw F H v (.bool i)) : v = .bl i := by cases h with | pure r => cases r; rfl
theorem Vw.non {v : V} (h : Vw F H v .none) : v = .non := by cases h with | pure r => cases r; rfl
theorem Vw.tup {v : V} {ds : List D} (h : Vw F H v (.tuple ds)) : ∃ a xs, v = .ref a ∧ Rd F a (.tup xs) ∧ RpA F xs ds := by
  cases h with | pure r => cases r with | tup h r => exact ⟨_, _, rfl, h, r⟩
theorem Vw.lst' {v : V} {ds : List D} (h : Vw F H v (.list ds)) (s : Same F H) : ∃ a xs, v = .ref a ∧ H a = some (.lst xs) ∧ RpA F xs ds := by
  cases h with
  | pure r => cases r with | lst h r => exact ⟨_, _, rfl, s _ _ h, r⟩
  | lst h r => exact ⟨_, _, rfl, h, r⟩
end

/-! ### names, constants, displays -/
section
variable {Tq : List (Addr × Str)} {Z : Zb Tq} {X : Cx} {e a b c : Expr} {es : List Expr} {env : Env} {pos : Pos} {P : R → Env → Prop}

def varR (env : Env) (i : Nat) (k : R → Prop) : Prop := match env[i]? with
  | some (some (.va d)) => k (.t (.va d))
  | some (some t) => match t.addr with
    | some a => k (.bor a i [])
    | none => False
  | _ => False
theorem w_var (i : Nat) {x : Str} (h : varR env i fun r => P r env) (hN : X.N[i]? = some x := by rfl) (hv : Vis X.env.scope x := by first | exact Or.inl rfl | exact Or.inr (Or.inl rfl) | exact Or.inr (Or.inr rfl))
    (hd : (x == ("__debug__" : Str)) = false := by decide) (hcd : (x == ("__classdict__" : Str)) = false := by decide) : WE Z X (.Name x pos) env P := we_of (pe_var hN hv hd hcd) fun σ H F O b o => by
  unfold varR at h
  cases hi : env[i]? with
  | none => rw [hi] at h; exact h.elim
  | some q =>
    cases q with
    | none => rw [hi] at h; exact h.elim
    | some t =>
      rw [hi] at h
      obtain ⟨w, hw, Oj, O', h1, h2, h3⟩ := o.focusI hi
      refine ⟨w, hw, ?_⟩
      have owned : ∀ a, t.addr = some a → P (.bor a i []) env → Post Z σ H F O P w H := fun a ha p => ⟨F, O, .bor a i [], env, b, ⟨o, h1.ref ha⟩, Frm.refl _ _ _, p⟩
      cases t with
      | va d =>
        cases h1 with
        | va r => exact ⟨F, O, .t _, env, b, ⟨O, [], (List.append_nil O).symm, o, .va r⟩, Frm.refl _ _ _, h⟩
      | lst a ds => exact owned a rfl h
      | dic a ds => exact owned a rfl h
      | fdc a ds => exact owned a rfl h
      | ins a C fs => exact owned a rfl h
      | hole a => exact owned a rfl h
      | ob a φ =>
        cases a with
        | none => exact h.elim
        | some a => exact owned a rfl h
theorem post_val {σ : L2.St} {H F : Hp} {O : List Addr} {v : V} {d : D} (b : Bas Z F H O) (o : OwE F H O σ env) (r : Rp F v d) (h : P (.t (.va d)) env) : Post Z σ H F O P v H :=
  ⟨F, O, .t _, env, b, ⟨O, [], (List.append_nil O).symm, o, .va r⟩, Frm.refl _ _ _, h⟩
theorem w_int {i : Int} {j : Nat} (h : P (.t (.va (.int i))) env) : WE Z X (.Constant (.int i) j pos) env P := we_of pe_int fun σ H F O b o => post_val b o (.int i) h
theorem w_bl {i : Bool} {j : Nat} (h : P (.t (.va (.bool i))) env) : WE Z X (.Constant (.bool i) j pos) env P := we_of pe_bl fun σ H F O b o => post_val b o (.bl i) h
/-- what stands in a display: what a name held is from then on frozen there -/
def absorb : List A → Env → (List D → Env → Prop) → Prop
  | [], env, k => k [] env
  | .va d :: as, env, k => absorb as env fun ds env' => k (d :: ds) env'
  | .bor a i p :: as, env, k => match getP i p env with
    | some t => t.addr = some a ∧ match frzT t with
      | some d => absorb as (setP i p (.va d) env) fun ds env' => k (d :: ds) env'
      | none => False
    | none => False
theorem absorb_ok {Tq : List (Addr × Str)} {Z : Zb Tq} {σ : L2.St} {H : Hp} : ∀ {as : List A} {vs : List V} {F : Hp} {O : List Addr} {env : Env} {k : List D → Env → Prop}, StAs F vs as → Bas Z F H O → OwE F H O σ env → absorb as env k →
    ∃ F' O' ds env', Bas Z F' H O' ∧ OwE F' H O' σ env' ∧ RpA F' vs ds ∧ Frm Tq H F O H F' O' ∧ k ds env'
  | [], _, F, O, env, k, .nil, b, o, h => ⟨F, O, [], env, b, o, .nil, Frm.refl _ _ _, h⟩
  | .va d :: as, _, F, O, env, k, .cons st r, b, o, h => by
    obtain ⟨F', O', ds, env', b', o', r', fr, q⟩ := absorb_ok r b o h
    exact ⟨F', O', d :: ds, env', b', o', .cons (Rp.mono fr.fz st) r', fr, q⟩
  | .bor a i p :: as, _, F, O, env, k, .cons st r, b, o, h => by
    unfold absorb at h
    cases hg : getP i p env with
    | none => rw [hg] at h; exact h.elim
    | some t =>
      rw [hg] at h
      obtain ⟨ha, h⟩ := h
      cases hf : frzT t with
      | none => rw [hf] at h; exact h.elim
      | some d =>
        rw [hf] at h
        obtain ⟨w, ⟨Oj, O', h1, h2, h3⟩, _⟩ := o.focus hg
        have hw := h1.ref ha
        have st : _ = V.ref a := st
        subst st hw
        have b2 : Bas Z F H (O' ++ Oj) := b.perm (h2.trans List.perm_append_comm)
        obtain ⟨b3, s3, k3, fr3⟩ := b2.freeze
        have rp := h1.frz s3 k3 hf
        obtain ⟨O'', q1, q2⟩ := h3 _ H [] (.va d) s3 (fun _ _ => rfl) (.va rp)
        have b4 : Bas Z (frzF F H Oj) H O'' := b3.perm q2.symm
        have fr4 : Frm Tq H F O H (frzF F H Oj) O'' := fr3.perm (fun c => (h2.trans List.perm_append_comm).symm.mem_iff) fun c hc => q2.mem_iff.mp hc
        obtain ⟨F5, O5, ds, env5, b5, o5, r5, fr5, q5⟩ := absorb_ok (r.mono s3) b4 q1 h
        exact ⟨F5, O5, d :: ds, env5, b5, o5, .cons (rp.mono fr5.fz) r5, fr4.trans fr5, q5⟩
theorem w_tup {x1 : _} (h : WAs Z X es env fun as env1 => absorb as env1 fun ds env2 => ds.length ≤ sizeLine ∧ P (.t (.va (.tuple ds))) env2) : WE Z X (.Tuple es x1 pos) env P :=
  we_of (pe_tup pa_As) fun σ H F O b o => ⟨env, F, O, _, b, o, h, fun vs H1 ⟨F1, O1, as, env1, b1, o1, st1, fr1, h1⟩ => by
    obtain ⟨F2, O2, ds, env2, b2, o2, r2, fr2, z, q⟩ := absorb_ok st1 b1 o1 h1
    refine ⟨by rw [r2.len]; exact z, fun p hp => ?_⟩
    exact ((NewV.tup b2.sub r2 hp (k := fun t => t = .va (.tuple ds)) rfl).post b2 o2 (fun t e => by subst e; exact q)).from (fr1.trans fr2)⟩
theorem w_lst (h : WAs Z X es env fun as env1 => absorb as env1 fun ds env2 => ds.length ≤ sizeLine ∧ ∀ p, P (.t (.lst p ds)) env2) : WE Z X (.List es pos) env P :=
  we_of (pe_lst pa_As) fun σ H F O b o => ⟨env, F, O, _, b, o, h, fun vs H1 ⟨F1, O1, as, env1, b1, o1, st1, fr1, h1⟩ => by
    obtain ⟨F2, O2, ds, env2, b2, o2, r2, fr2, z, q⟩ := absorb_ok st1 b1 o1 h1
    refine ⟨by rw [r2.len]; exact z, fun p hp => ?_⟩
    exact ((NewV.lst b2.sub r2 hp (k := fun t => t = .lst p ds) rfl).post b2 o2 (fun t e => by subst e; exact q p)).from (fr1.trans fr2)⟩

/-! ### operators -/
def DOp (X : Cx) (f : Value → Value → Sem Value) (g : D → D → (T → Prop) → Prop) : Prop :=
  ∀ (pins : List (Addr × Obj)) (s : Shared) (σ : L2.St) (H F : Hp) (v1 v2 : V) (u1 u2 : Value) (d1 d2 : D) (k : T → Prop), Inv X pins σ H s → Same F H → Vw F H v1 d1 → Vw F H v2 d2 → RelV v1 u1 → RelV v2 u2 → g d1 d2 k →
    wpAny (model X.prog X.w) X.A (f u1 u2) (EP X pins σ (NewV F H k)) X.xe s
def rD (g : D → D → (T → Prop) → Prop) : R2 := fun x y H Q => ∃ F d1 d2 k, Same F H ∧ Vw F H x d1 ∧ Vw F H y d2 ∧ g d1 d2 k ∧ ∀ v H', NewV F H k v H' → Q v H'
theorem DOp.r {f : Value → Value → Sem Value} {g : D → D → (T → Prop) → Prop} (h : DOp X f g) : OpR X f (rD g) := fun pins s σ H x y v u Q I rx ry ⟨F, d1, d2, k, sF, h1, h2, hg, q⟩ =>
  thn (h pins s σ H F x y v u d1 d2 k I sF h1 h2 rx ry hg) (EP.imp q)
/-- two arguments, then an operation by values -/
def W2 {Tq : List (Addr × Str)} (Z : Zb Tq) (X : Cx) (a b : Expr) (env : Env) (k : D → D → Env → Prop) : Prop := WA Z X a env fun a1 e1 => WA Z X b e1 fun a2 e2 => View a1 e2 fun d1 => View a2 e2 fun d2 => k d1 d2 e2
theorem w2_run {g : D → D → (T → Prop) → Prop} {σ : L2.St} {H F : Hp} {O : List Addr} (b0 : Bas Z F H O) (o : OwE F H O σ env) (h : W2 Z X a b env fun d1 d2 e2 => g d1 d2 fun t => P (.t t) e2) :
    tOp (rD g) (tA Z X a) (tA Z X b) σ H (Post Z σ H F O P) := by
  refine ⟨env, F, O, _, b0, o, h, fun v1 H1 ⟨F1, O1, a1, env1, b1, o1, st1, fr1, h1⟩ => ?_⟩
  refine ⟨env1, F1, O1, _, b1, o1, h1, fun v2 H2 ⟨F2, O2, a2, env2, b2, o2, st2, fr2, h2⟩ => ?_⟩
  obtain ⟨d1, w1, h3⟩ := View.vw h2 o2 (st1.mono fr2.fz)
  obtain ⟨d2, w2, h4⟩ := View.vw h3 o2 st2
  exact ⟨F2, d1, d2, _, b2.sub, w1, w2, h4, fun v H' n => (n.post b2 o2 fun t q => q).from (fr1.trans fr2)⟩
theorem w_bin {op : Operator} {g : D → D → (T → Prop) → Prop} (ho : DOp X (binaryOp op) g) (h : W2 Z X a b env fun d1 d2 e2 => g d1 d2 fun t => P (.t t) e2) : WE Z X (.BinOp a op b pos) env P :=
  we_of (pe_op ho.r pe_A pe_A) fun σ H F O b0 o => w2_run b0 o h
theorem w_cmp {op : CmpOp} {g : D → D → (T → Prop) → Prop} (ho : DOp X (compareOp op) g) (h : W2 Z X a b env fun d1 d2 e2 => g d1 d2 fun t => P (.t t) e2) (hm : behindInMarks op b = false := by first | exact nomark _ | rfl) :
    WE Z X (.Compare a [op] [b] pos) env P := we_of (pe_cmpR ho.r pe_A pe_A hm) fun σ H F O b0 o => w2_run b0 o h
theorem post_bool {σ : L2.St} {H F0 H0 : Hp} {O0 : List Addr} {K : Bool → Env → Prop} {v : V} (h : Post Z σ H0 F0 O0 (fun r e1 => ∃ k, r = .t (.va (.bool k)) ∧ K k e1) v H) : ∃ k F O env, v = .bl k ∧ Bas Z F H O ∧ OwE F H O σ env ∧ Frm Tq H0 F0 O0 H F O ∧ K k env := by
  obtain ⟨F1, O1, r, env1, b1, st, fr1, k, e1, h1⟩ := h
  subst e1
  obtain ⟨O1', O2, rfl, o1, ow⟩ := st
  cases ow with
  | va r =>
    cases r with
    | bl k =>
      rw [List.append_nil] at b1 fr1
      exact ⟨k, F1, O1', env1, rfl, b1, o1, fr1, h1⟩
theorem wt_cmp {op : CmpOp} {g : D → D → (T → Prop) → Prop} {P : Bool → Env → Prop} (ho : DOp X (compareOp op) g) (h : W2 Z X a b env fun d1 d2 e2 => g d1 d2 fun t => ∃ k, t = .va (.bool k) ∧ P k e2) (hm : behindInMarks op b = false := by first | exact nomark _ | rfl) :
    WT Z X (.Compare a [op] [b] pos) env P := wt_of (pt_cmpR ho.r pe_A pe_A hm) fun σ H F O b0 o => by
  refine ⟨env, F, O, _, b0, o, h, fun v1 H1 ⟨F1, O1, a1, env1, b1, o1, st1, fr1, h1⟩ => ?_⟩
  refine ⟨env1, F1, O1, _, b1, o1, h1, fun v2 H2 ⟨F2, O2, a2, env2, b2, o2, st2, fr2, h2⟩ => ?_⟩
  obtain ⟨d1, w1, h3⟩ := View.vw h2 o2 (st1.mono fr2.fz)
  obtain ⟨d2, w2, h4⟩ := View.vw h3 o2 st2
  refine ⟨F2, d1, d2, _, b2.sub, w1, w2, h4, fun v H' n => ?_⟩
  obtain ⟨k, F3, O3, env3, rfl, b3, o3, fr3, p⟩ := post_bool (K := P) (n.post b2 o2 (P := fun r e1 => ∃ k, r = .t (.va (.bool k)) ∧ P k e1) fun t ⟨k, e, q⟩ => ⟨k, by rw [e], q⟩)
  exact ⟨k, rfl, F3, O3, env3, b3, o3, (fr1.trans fr2).trans fr3, p⟩

/-! #### the operations -/
def intD (C : Int → Int → Prop) (f : Int → Int → Int) (d1 d2 : D) (k : T → Prop) : Prop := match d1, d2 with
  | .int i, .int j => C i j ∧ k (.va (.int (f i j)))
  | _, _ => False
theorem dop_int {f : Value → Value → Sem Value} {C : Int → Int → Prop} {g : Int → Int → Int} (h : OpR X f (rI C fun i j => .int (g i j))) : DOp X f (intD C g) := by
  intro pins s σ H F v1 v2 u1 u2 d1 d2 k I sF w1 w2 r1 r2 hg
  cases d1 with
  | int i =>
    cases d2 with
    | int j =>
      cases w1.int
      cases w2.int
      exact h pins s σ H _ _ u1 u2 _ I r1 r2 ⟨i, j, rfl, rfl, hg.1, NewV.val sF (.int _) hg.2⟩
    | _ => exact hg.elim
  | _ => exact hg.elim
def subD : D → D → (T → Prop) → Prop := fun d1 d2 k => match d1, d2 with
  | .int i, .int j => k (.va (.int (i - j)))
  | _, _ => False
theorem dop_sub : DOp X (binaryOp .Sub) subD := by
  intro pins s σ H F v1 v2 u1 u2 d1 d2 k I sF w1 w2 r1 r2 hg
  cases d1 with
  | int i =>
    cases d2 with
    | int j =>
      cases w1.int
      cases w2.int
      exact op_sub pins s σ H _ _ u1 u2 _ I r1 r2 ⟨i, j, rfl, rfl, NewV.val sF (.int _) hg⟩
    | _ => exact hg.elim
  | _ => exact hg.elim
def addD : D → D → (T → Prop) → Prop := fun d1 d2 k => match d1, d2 with
  | .int i, .int j => k (.va (.int (i + j)))
  | .int i, .bool j => k (.va (.int (i + b2i j)))
  | .str x, .str y => x.length + y.length ≤ sizeLine ∧ k (.va (.str (x ++ y)))
  | .tuple xs, .tuple ys => xs.length + ys.length ≤ sizeLine ∧ k (.va (.tuple (xs ++ ys)))
  | .list xs, .list ys => xs.length + ys.length ≤ sizeLine ∧ ∀ p, k (.lst p (xs ++ ys))
  | _, _ => False
theorem dop_add : DOp X (binaryOp .Add) addD := by
  intro pins s σ H F v1 v2 u1 u2 d1 d2 k I sF w1 w2 r1 r2 hg
  cases d1 with
  | int i =>
    cases d2 with
    | int j =>
      cases w1.int
      cases w2.int
      exact op_add pins s σ H _ _ u1 u2 _ I r1 r2 ⟨i, j, rfl, rfl, NewV.val sF (.int _) hg⟩
    | bool j =>
      cases w1.int
      cases w2.bl
      exact op_add_ib pins s σ H _ _ u1 u2 _ I r1 r2 ⟨i, j, rfl, rfl, NewV.val sF (.int _) hg⟩
    | _ => exact hg.elim
  | str i =>
    cases d2 with
    | str j =>
      cases w1.str
      cases w2.str
      exact op_add_str pins s σ H _ _ u1 u2 _ I r1 r2 ⟨i, j, rfl, rfl, hg.1, NewV.val sF (.str _) hg.2⟩
    | _ => exact hg.elim
  | tuple xs =>
    cases d2 with
    | tuple ys =>
      obtain ⟨a, vs, rfl, h1, q1⟩ := w1.tup
      obtain ⟨b, us, rfl, h2, q2⟩ := w2.tup
      refine op_catA pins s σ H _ _ u1 u2 _ I r1 r2 ⟨a, b, vs, us, rfl, rfl, .inl (rd_mono sF h1), .inl (rd_mono sF h2), by rw [q1.len, q2.len]; exact hg.1, fun e => ?_, fun _ e => ?_, fun _ _ p hp => ?_⟩
      · subst e
        cases q1
        exact NewV.val sF (.tup h2 q2) hg.2
      · subst e
        cases q2
        refine NewV.val sF (.tup h1 ?_) hg.2
        rw [List.append_nil]
        exact q1
      · exact NewV.tup sF (q1.app q2) hp hg.2
    | _ => exact hg.elim
  | list xs =>
    cases d2 with
    | list ys =>
      obtain ⟨a, vs, rfl, h1, q1⟩ := w1.lst' sF
      obtain ⟨b, us, rfl, h2, q2⟩ := w2.lst' sF
      exact op_cat pins s σ H _ _ u1 u2 _ I r1 r2 ⟨a, b, vs, us, rfl, rfl, h1, h2, by rw [q1.len, q2.len]; exact hg.1, fun p hp => NewV.lst sF (q1.app q2) hp (hg.2 p)⟩
    | _ => exact hg.elim
  | _ => exact hg.elim
/-- * : one factor below 2^64, or both small enough -/
def CMulQ (i j : Int) : Prop := CMul i j ∨ CMulW i j
theorem CMulQ.ok {i j : Int} (h : CMulQ i j) : IntMulOk i j := h.elim CMul.ok CMulW.ok
theorem cmul_l {i j : Int} (h1 : -18446744073709551616 < i) (h2 : i < 18446744073709551616) : CMulQ i j := .inl (.inl ⟨h1, h2⟩)
theorem cmul_r {i j : Int} (h1 : -18446744073709551616 < j) (h2 : j < 18446744073709551616) : CMulQ i j := .inl (.inr ⟨h1, h2⟩)
def mulD : D → D → (T → Prop) → Prop := fun d1 d2 k => match d1, d2 with
  | .int i, .int j => CMulQ i j ∧ k (.va (.int (i * j)))
  | .list xs, .int n => (-(2 ^ 63) ≤ n ∧ n < 2 ^ 63 ∧ xs.length * n.toNat ≤ sizeLine) ∧ ∀ p, k (.lst p (List.replicate n.toNat xs).flatten)
  | _, _ => False
theorem dop_mul : DOp X (binaryOp .Mult) mulD := by
  intro pins s σ H F v1 v2 u1 u2 d1 d2 k I sF w1 w2 r1 r2 hg
  cases d1 with
  | int i =>
    cases d2 with
    | int j =>
      cases w1.int
      cases w2.int
      exact (opI (C := CMulQ) (g := fun i j => i * j) fun _ _ _ _ _ _ _ hc q => mul_int q hc.ok) pins s σ H _ _ u1 u2 _ I r1 r2 ⟨i, j, rfl, rfl, hg.1, NewV.val sF (.int _) hg.2⟩
    | _ => exact hg.elim
  | list xs =>
    cases d2 with
    | int n =>
      cases w2.int
      obtain ⟨a, vs, rfl, h1, q1⟩ := w1.lst' sF
      exact op_rep pins s σ H _ _ u1 u2 _ I r1 r2 ⟨a, n, vs, rfl, rfl, h1, hg.1.1, hg.1.2.1, by rw [q1.len]; exact hg.1.2.2, fun p hp => NewV.lst sF (q1.rep _) hp (hg.2 p)⟩
    | _ => exact hg.elim
  | _ => exact hg.elim
def CPowQ (i j : Int) : Prop := CPow i j ∨ (0 ≤ j ∧ (Builtin.Int.intBits i : Int) * j ≤ 2 ^ 27)
theorem dop_pow : DOp X (binaryOp .Pow) (intD CPowQ fun i j => i ^ j.toNat) := dop_int (opI fun i j _ _ _ _ _ hc q => hc.elim (fun h => pow_int_small h.1 h.2.1 h.2.2 q) fun h => pow_int h.1 h.2 q)
theorem dop_mod : DOp X (binaryOp .Mod) (intD (fun _ j => 0 < j) fun i j => i % j) := dop_int op_mod
def CDivQ (_ j : Int) : Prop := 0 < j ∧ j < 18446744073709551616
theorem cdivq {i j : Int} (h : CDivQ i j) : CDivW i j := wide_div (b := 64) h.1 (by have := h.1; have := h.2; omega) (by decide) (by decide)
theorem dop_fdiv : DOp X (binaryOp .FloorDiv) (intD CDivQ fun i j => i / j) := dop_int (opI fun i j _ _ _ _ _ hc q => by
  have h1 : (0 : Int) < j := hc.1
  exact floordiv_int (by omega) (by rw [Int.fdiv_eq_ediv_of_nonneg i (by omega)]; exact q) (.inl (PyProof.noPylong_of_log2 (cdivq hc).2)))

/-! #### comparisons -/
def cmpI (f : Int → Int → Bool) : D → D → (T → Prop) → Prop := fun d1 d2 k => match d1, d2 with
  | .int i, .int j => k (.va (.bool (f i j)))
  | _, _ => False
theorem dop_cmpI {op : Value → Value → Sem Value} {f : Int → Int → Bool} (h : OpR X op (rI0 fun i j => .bl (f i j))) : DOp X op (cmpI f) := by
  intro pins s σ H F v1 v2 u1 u2 d1 d2 k I sF w1 w2 r1 r2 hg
  cases d1 with
  | int i =>
    cases d2 with
    | int j =>
      cases w1.int
      cases w2.int
      exact h pins s σ H _ _ u1 u2 _ I r1 r2 ⟨i, j, rfl, rfl, NewV.val sF (.bl _) hg⟩
    | _ => exact hg.elim
  | _ => exact hg.elim
theorem dop_lt : DOp X (compareOp .Lt) (cmpI fun i j => decide (i < j)) := dop_cmpI op_lt
theorem dop_le : DOp X (compareOp .LtE) (cmpI fun i j => decide (i ≤ j)) := dop_cmpI op_le
theorem dop_gt : DOp X (compareOp .Gt) (cmpI fun i j => decide (j < i)) := dop_cmpI op_gt
theorem dop_ge : DOp X (compareOp .GtE) (cmpI fun i j => decide (j ≤ i)) := dop_cmpI op_ge
/-- == of data without dicts -/
def eqD : D → D → (T → Prop) → Prop := fun d1 d2 k => match d1, d2 with
  | .int i, .int j => k (.va (.bool (decide (i = j))))
  | .str i, .str j => k (.va (.bool (decide (i = j))))
  | d1, d2 => SeqAt.shaped d1 = true ∧ SeqAt.shaped d2 = true ∧ k (.va (.bool (PyData.eqv d1 d2)))
def neD : D → D → (T → Prop) → Prop := fun d1 d2 k => match d1, d2 with
  | .int i, .int j => k (.va (.bool (!decide (i = j))))
  | .str i, .str j => k (.va (.bool (!decide (i = j))))
  | d1, d2 => SeqAt.shaped d1 = true ∧ SeqAt.shaped d2 = true ∧ k (.va (.bool (!PyData.eqv d1 d2)))
mutual
theorem Rp.reads {pins : List (Addr × Obj)} {σ : L2.St} {H : Hp} {s : Shared} (I : Inv X pins σ H s) : ∀ {v : V} {d : D} {u : Value}, Rp H v d → RelV v u → d.hasDict = false → ∃ as, Reads s.heap u d as
  | _, _, _, .non, r, _ => by cases r; exact ⟨_, .none⟩
  | _, _, _, .bl b, r, _ => by cases r; exact ⟨_, .bool b⟩
  | _, _, _, .int i, r, _ => by obtain ⟨t, rfl⟩ := r; exact ⟨_, .int i t⟩
  | _, _, _, .str i, r, _ => by obtain ⟨t, rfl⟩ := r; exact ⟨_, .str i t⟩
  | _, _, _, .lst h q, r, hd => by
    cases r
    obtain ⟨its, rv, ⟨o, n, ho, hc, _, hs⟩, _⟩ := I.list (SqL.of h)
    obtain ⟨as, hr⟩ := RpA.reads I q rv (by simpa [PyData.hasDict] using hd)
    exact ⟨_, .list ho hc hs hr⟩
  | _, _, _, .tup h q, r, hd => by
    cases r
    obtain ⟨its, rv, ⟨o, ho, hc, n, hs⟩, _⟩ := I.tuple (.inl h)
    obtain ⟨as, hr⟩ := RpA.reads I q rv (by simpa [PyData.hasDict] using hd)
    exact ⟨_, .tuple ho hc hs hr⟩
  | _, _, _, .dic h q, r, hd => by simp [PyData.hasDict] at hd
theorem RpA.reads {pins : List (Addr × Obj)} {σ : L2.St} {H : Hp} {s : Shared} (I : Inv X pins σ H s) : ∀ {vs : List V} {ds : List D} {us : List Value}, RpA H vs ds → Vals vs us → PyData.hasDictAll ds = false → ∃ as, ReadsAll s.heap us ds as
  | _, _, _, .nil, r, _ => by cases r; exact ⟨_, .nil⟩
  | _, _, _, .cons h q, r, hd => by
    cases r with
    | cons r1 r2 =>
      rw [PyData.hasDictAll, Bool.or_eq_false_iff] at hd
      obtain ⟨as, q1⟩ := Rp.reads I h r1 hd.1
      obtain ⟨bs, q2⟩ := RpA.reads I q r2 hd.2
      exact ⟨_, .cons q1 q2⟩
end
theorem shaped_noDict {d : D} (h : SeqAt.shaped d = true) : d.hasDict = false := by
  unfold SeqAt.shaped at h
  rw [Bool.and_eq_true] at h
  exact PyData.hasDict_of_canLay d h.1
theorem eqD_gen {F : Hp} (hu : X.A.units + 64 < cLine) {pins : List (Addr × Obj)} {s : Shared} {σ : L2.St} {H : Hp} {v1 v2 : V} {u1 u2 : Value} {d1 d2 : D} {k : T → Prop} (I : Inv X pins σ H s) (sF : Same F H) (w1 : Vw F H v1 d1) (w2 : Vw F H v2 d2)
    (r1 : RelV v1 u1) (r2 : RelV v2 u2) (h1 : SeqAt.shaped d1 = true) (h2 : SeqAt.shaped d2 = true) (q : k (.va (.bool (PyData.eqv d1 d2)))) : wpAny (model X.prog X.w) X.A (compareOp .Eq u1 u2) (EP X pins σ (NewV F H k)) X.xe s := by
  obtain ⟨as, q1⟩ := (w1.rp sF).reads I r1 (shaped_noDict h1)
  obtain ⟨bs, q2⟩ := (w2.rp sF).reads I r2 (shaped_noDict h2)
  exact SeqAt.compareEq_shaped q1 q2 h1 h2 hu ⟨.bl _, H, I, rfl, NewV.val sF (.bl _) q⟩
theorem neD_gen {F : Hp} (hu : X.A.units + 64 < cLine) {pins : List (Addr × Obj)} {s : Shared} {σ : L2.St} {H : Hp} {v1 v2 : V} {u1 u2 : Value} {d1 d2 : D} {k : T → Prop} (I : Inv X pins σ H s) (sF : Same F H) (w1 : Vw F H v1 d1) (w2 : Vw F H v2 d2)
    (r1 : RelV v1 u1) (r2 : RelV v2 u2) (h1 : SeqAt.shaped d1 = true) (h2 : SeqAt.shaped d2 = true) (q : k (.va (.bool (!PyData.eqv d1 d2)))) : wpAny (model X.prog X.w) X.A (compareOp .NotEq u1 u2) (EP X pins σ (NewV F H k)) X.xe s := by
  obtain ⟨as, q1⟩ := (w1.rp sF).reads I r1 (shaped_noDict h1)
  obtain ⟨bs, q2⟩ := (w2.rp sF).reads I r2 (shaped_noDict h2)
  exact SeqAt.compareNe_shaped q1 q2 h1 h2 hu ⟨.bl _, H, I, rfl, NewV.val sF (.bl _) q⟩
theorem dop_eq (hu : X.A.units + 64 < cLine) : DOp X (compareOp .Eq) eqD := by
  intro pins s σ H F v1 v2 u1 u2 d1 d2 k I sF w1 w2 r1 r2 hg
  unfold eqD at hg
  split at hg
  · cases w1.int
    cases w2.int
    refine op_eq pins s σ H _ _ u1 u2 _ I r1 r2 ⟨rfl, NewV.val sF (.bl _) ?_⟩
    rw [dec_int, ← Bool.beq_eq_decide_eq] at *
    exact hg
  · cases w1.str
    cases w2.str
    refine op_eq pins s σ H _ _ u1 u2 _ I r1 r2 ⟨rfl, NewV.val sF (.bl _) ?_⟩
    rw [dec_str, ← Bool.beq_eq_decide_eq] at *
    exact hg
  · exact eqD_gen hu I sF w1 w2 r1 r2 hg.1 hg.2.1 hg.2.2
theorem dop_ne (hu : X.A.units + 64 < cLine) : DOp X (compareOp .NotEq) neD := by
  intro pins s σ H F v1 v2 u1 u2 d1 d2 k I sF w1 w2 r1 r2 hg
  unfold neD at hg
  split at hg
  · cases w1.int
    cases w2.int
    refine op_ne pins s σ H _ _ u1 u2 _ I r1 r2 ⟨rfl, NewV.val sF (.bl _) ?_⟩
    rw [dec_int, ← Bool.beq_eq_decide_eq] at *
    exact hg
  · cases w1.str
    cases w2.str
    refine op_ne pins s σ H _ _ u1 u2 _ I r1 r2 ⟨rfl, NewV.val sF (.bl _) ?_⟩
    rw [dec_str, ← Bool.beq_eq_decide_eq] at *
    exact hg
  · exact neD_gen hu I sF w1 w2 r1 r2 hg.1 hg.2.1 hg.2.2
/-- -a -/
def W1 {Tq : List (Addr × Str)} (Z : Zb Tq) (X : Cx) (a : Expr) (env : Env) (k : D → Env → Prop) : Prop := WA Z X a env fun a1 e1 => View a1 e1 fun d1 => k d1 e1
def negD (d : D) (k : T → Prop) : Prop := match d with
  | .int i => k (.va (.int (-i)))
  | _ => False
theorem w_neg (h : W1 Z X a env fun d e => negD d fun t => P (.t t) e) : WE Z X (.UnaryOp .USub a pos) env P :=
  we_of (pe_un un_neg pe_A) fun σ H F O b0 o => ⟨env, F, O, _, b0, o, h, fun v1 H1 ⟨F1, O1, a1, env1, b1, o1, st1, fr1, h1⟩ => by
    obtain ⟨d1, w1, h3⟩ := View.vw h1 o1 st1
    cases d1 with
    | int i =>
      cases w1.int
      exact ⟨i, rfl, (post_val b1 o1 (.int _) h3).from fr1⟩
    | _ => exact h3.elim⟩

/-! ### tests: and, or, not; conditional expressions -/
variable {PT : Bool → Env → Prop} {rest : List Expr}
theorem ww_and1 (h : WT Z X a env PT) : WW Z X (.BoolOp .And [a] pos) env PT := fun wh pins s σ H F O I b0 o => (pw_and1 (pt_T (e := a))).run wh pins s σ H _ I ⟨env, F, O, _, b0, o, h, fun _ _ q => q⟩
theorem ww_or1 (h : WT Z X a env PT) : WW Z X (.BoolOp .Or [a] pos) env PT := fun wh pins s σ H F O I b0 o => (pw_or1 (pt_T (e := a))).run wh pins s σ H _ I ⟨env, F, O, _, b0, o, h, fun _ _ q => q⟩
theorem pw_W {e : Expr} : PW X e (fun σ H Q => ∃ env F O P, Bas Z F H O ∧ OwE F H O σ env ∧ WW Z X e env P ∧ ∀ v H', PostT Z σ H F O P v H' → Q v H') :=
  ⟨fun wh pins s σ H Q I ⟨env, F, O, P, b, o, w, q⟩ => thn (w wh pins s σ H F O I b o) fun _ _ ⟨H', I', p⟩ => ⟨H', I', q _ _ p⟩⟩
theorem ww_and (h : WT Z X a env fun k e1 => (k = true → WW Z X (.BoolOp .And (b :: rest) pos) e1 PT) ∧ (k = false → PT false e1)) : WW Z X (.BoolOp .And (a :: b :: rest) pos) env PT := fun wh pins s σ H F O I b0 o =>
  (pw_and (pt_T (e := a)) pw_W).run wh pins s σ H _ I ⟨env, F, O, _, b0, o, h, fun k H1 ⟨F1, O1, env1, b1, o1, fr1, h1⟩ => by
    cases k with
    | true => exact iteT ⟨env1, F1, O1, _, b1, o1, h1.1 rfl, fun _ _ q => q.from fr1⟩
    | false => exact iteF ⟨F1, O1, env1, b1, o1, fr1, h1.2 rfl⟩⟩
theorem ww_or (h : WT Z X a env fun k e1 => (k = false → WW Z X (.BoolOp .Or (b :: rest) pos) e1 PT) ∧ (k = true → PT true e1)) : WW Z X (.BoolOp .Or (a :: b :: rest) pos) env PT := fun wh pins s σ H F O I b0 o =>
  (pw_or (pt_T (e := a)) pw_W).run wh pins s σ H _ I ⟨env, F, O, _, b0, o, h, fun k H1 ⟨F1, O1, env1, b1, o1, fr1, h1⟩ => by
    cases k with
    | false => exact iteF ⟨env1, F1, O1, _, b1, o1, h1.1 rfl, fun _ _ q => q.from fr1⟩
    | true => exact iteT ⟨F1, O1, env1, b1, o1, fr1, h1.2 rfl⟩⟩
/-- a value that is a bool, as a test -/
theorem wt_val (h : WE Z X e env fun r e1 => ∃ k, r = .t (.va (.bool k)) ∧ PT k e1) (he : ∀ whole, isTrue e X.env whole = (do let v ← whole; standAt e.pos; holding [v] (truthy v)) := by intro _; rfl) : WT Z X e env PT :=
  wt_of (pt_val (pe_E (e := e)) he) fun σ H F O b0 o => ⟨env, F, O, _, b0, o, h, fun v H1 ⟨F1, O1, r, env1, b1, st, fr1, k, e1, h1⟩ => by
    subst e1
    obtain ⟨O1', O2, rfl, o1, ow⟩ := st
    cases ow with
    | va r =>
      cases r with
      | bl k =>
        rw [List.append_nil] at b1 fr1
        exact ⟨k, rfl, F1, O1', env1, b1, o1, fr1, h1⟩⟩
theorem w_ifExp (h : WT Z X c env fun k e1 => (k = true → WE Z X a e1 P) ∧ (k = false → WE Z X b e1 P)) : WE Z X (.IfExp c a b pos) env P :=
  we_of (pe_ifExp (pt_T (e := c)) (pe_E (e := a)) (pe_E (e := b))) fun σ H F O b0 o => ⟨env, F, O, _, b0, o, h, fun k H1 ⟨F1, O1, env1, b1, o1, fr1, h1⟩ => by
    cases k with
    | true => exact iteT ⟨env1, F1, O1, _, b1, o1, h1.1 rfl, fun _ _ q => q.from fr1⟩
    | false => exact iteF ⟨env1, F1, O1, _, b1, o1, h1.2 rfl, fun _ _ q => q.from fr1⟩⟩
end
end QL

/-! QD: statements; defs. -/
namespace QL
open PySem PySem.Spec PyProof.Rows L2

/-! ### slots stored -/
theorem OwE.set {F H : Hp} : ∀ {O : List Addr} {σ : L2.St} {e : Env} {O2 : List Addr} {v : V} {t : T} (i : Nat), OwE F H O σ e → Ow F H O2 v t → i < e.length →
    ∃ O' Od, OwE F H O' (σ.set i (some v)) (e.set i (some t)) ∧ (O2 ++ O).Perm (O' ++ Od)
  | _, _, _, _, _, _, _, .nil, _, h => nomatch h
  | _, _, _, O2, v, t, 0, .un (O := O) r, w, _ => ⟨O2 ++ O, [], .so w r, by rw [List.append_nil]⟩
  | _, _, _, O2, v, t, i + 1, .un (O := O) r, w, h => by
    obtain ⟨O', Od, h1, h2⟩ := OwE.set i r w (Nat.lt_of_succ_lt_succ h)
    exact ⟨O', Od, .un h1, h2⟩
  | _, _, _, O2, v, t, 0, .so (O1 := Oa) (O2 := Ob) _ r, w, _ => ⟨O2 ++ Ob, Oa, .so w r, by rw [List.append_assoc]; exact (List.perm_append_comm (l₁ := Oa) (l₂ := Ob)).append_left O2⟩
  | _, _, _, O2, v, t, i + 1, .so (O1 := Oa) (O2 := Ob) q r, w, h => by
    obtain ⟨O', Od, h1, h2⟩ := OwE.set i r w (Nat.lt_of_succ_lt_succ h)
    refine ⟨Oa ++ O', Od, .so q h1, ?_⟩
    rw [List.append_assoc]
    refine List.Perm.trans ?_ (h2.append_left Oa)
    rw [← List.append_assoc, ← List.append_assoc]
    exact List.perm_append_comm.append_right Ob
theorem OwE.drop {F H : Hp} : ∀ {O : List Addr} {σ : L2.St} {e : Env} (i : Nat), OwE F H O σ e → ∃ O' Od, OwE F H O' σ (e.set i none) ∧ O.Perm (O' ++ Od)
  | _, _, _, _, .nil => ⟨[], [], .nil, List.Perm.refl _⟩
  | _, _, _, 0, .un (O := O) r => ⟨O, [], .un r, by rw [List.append_nil]⟩
  | _, _, _, i + 1, .un r => by
    obtain ⟨O', Od, h1, h2⟩ := OwE.drop i r
    exact ⟨O', Od, .un h1, h2⟩
  | _, _, _, 0, .so (O1 := Oa) (O2 := Ob) _ r => ⟨Ob, Oa, .un r, List.perm_append_comm⟩
  | _, _, _, i + 1, .so (O1 := Oa) (O2 := Ob) q r => by
    obtain ⟨O', Od, h1, h2⟩ := OwE.drop i r
    exact ⟨Oa ++ O', Od, .so q h1, by rw [List.append_assoc]; exact h2.append_left Oa⟩
theorem Bas.dropP {Tq : List (Addr × Str)} {Z : Zb Tq} {F H : Hp} {O O' Od : List Addr} (b : Bas Z F H O) (p : O.Perm (O' ++ Od)) : Bas Z F H O' ∧ Frm Tq H F O H F O' :=
  ⟨(b.perm p).left, (Frm.refl H F O).perm (fun _ => Iff.rfl) fun c hc => p.mem_iff.mpr (List.mem_append_left _ hc)⟩

/-! ### statements -/
inductive Out
  | nx (e : Env)
  | ret (t : T) (e : Env)
  | bk (e : Env)
  | ct (e : Env)
def endsOf {Tq : List (Addr × Str)} (Z : Zb Tq) (H0 F0 : Hp) (O0 : List Addr) (P : Out → Prop) : Ends where
  nx := fun σ H => ∃ F O env, Bas Z F H O ∧ OwE F H O σ env ∧ Frm Tq H0 F0 O0 H F O ∧ P (.nx env)
  rt := fun v H => ∃ F O1 O2 σ t env, Bas Z F H (O1 ++ O2) ∧ OwE F H O1 σ env ∧ Ow F H O2 v t ∧ Frm Tq H0 F0 O0 H F (O1 ++ O2) ∧ P (.ret t env)
  bk := fun σ H => ∃ F O env, Bas Z F H O ∧ OwE F H O σ env ∧ Frm Tq H0 F0 O0 H F O ∧ P (.bk env)
  ct := fun σ H => ∃ F O env, Bas Z F H O ∧ OwE F H O σ env ∧ Frm Tq H0 F0 O0 H F O ∧ P (.ct env)
def WS {Tq : List (Addr × Str)} (Z : Zb Tq) (X : Cx) (st : Stmt) (env : Env) (P : Out → Prop) : Prop :=
  ∀ (pins : List (Addr × Obj)) (s : Shared) (σ : L2.St) (H F : Hp) (O : List Addr), Inv X pins σ H s → Bas Z F H O → OwE F H O σ env →
    wpAny (model X.prog X.w) X.A (exec st X.env) (SP X pins (endsOf Z H F O P)) X.xe s
def WSs {Tq : List (Addr × Str)} (Z : Zb Tq) (X : Cx) (st : List Stmt) (env : Env) (P : Out → Prop) : Prop :=
  ∀ (pins : List (Addr × Obj)) (s : Shared) (σ : L2.St) (H F : Hp) (O : List Addr), Inv X pins σ H s → Bas Z F H O → OwE F H O σ env →
    wpAny (model X.prog X.w) X.A (execs st X.env) (SP X pins (endsOf Z H F O P)) X.xe s
/-- what is wanted, weaker -/
structure EndsLe (D D' : Ends) : Prop where
  nx : ∀ σ H, D.nx σ H → D'.nx σ H
  rt : ∀ v H, D.rt v H → D'.rt v H
  bk : ∀ σ H, D.bk σ H → D'.bk σ H
  ct : ∀ σ H, D.ct σ H → D'.ct σ H
theorem EndsLe.refl (D : Ends) : EndsLe D D := ⟨fun _ _ h => h, fun _ _ h => h, fun _ _ h => h, fun _ _ h => h⟩
theorem SP.le {X : Cx} {pins : List (Addr × Obj)} {D D' : Ends} (l : EndsLe D D') : ∀ f s', SP X pins D f s' → SP X pins D' f s'
  | .next, _, ⟨σ, H, I, q⟩ => ⟨σ, H, I, l.nx _ _ q⟩
  | .brk, _, ⟨σ, H, I, q⟩ => ⟨σ, H, I, l.bk _ _ q⟩
  | .cont, _, ⟨σ, H, I, q⟩ => ⟨σ, H, I, l.ct _ _ q⟩
  | .ret _, _, ⟨v, σ, H, I, r, q⟩ => ⟨v, σ, H, I, r, l.rt _ _ q⟩
theorem endsOf.from {Tq : List (Addr × Str)} {Z : Zb Tq} {H0 F0 H1 F1 : Hp} {O0 O1 : List Addr} {P P' : Out → Prop} (fr : Frm Tq H0 F0 O0 H1 F1 O1) (hp : ∀ o, P o → P' o) : EndsLe (endsOf Z H1 F1 O1 P) (endsOf Z H0 F0 O0 P') :=
  ⟨fun _ _ ⟨F, O, env, b, o, f, p⟩ => ⟨F, O, env, b, o, fr.trans f, hp _ p⟩, fun _ _ ⟨F, O, O2, σ, t, env, b, o, w, f, p⟩ => ⟨F, O, O2, σ, t, env, b, o, w, fr.trans f, hp _ p⟩,
    fun _ _ ⟨F, O, env, b, o, f, p⟩ => ⟨F, O, env, b, o, fr.trans f, hp _ p⟩, fun _ _ ⟨F, O, env, b, o, f, p⟩ => ⟨F, O, env, b, o, fr.trans f, hp _ p⟩⟩
def tS {Tq : List (Addr × Str)} (Z : Zb Tq) (X : Cx) (st : Stmt) : TS := fun D σ H => ∃ env F O P, Bas Z F H O ∧ OwE F H O σ env ∧ WS Z X st env P ∧ EndsLe (endsOf Z H F O P) D
def tSs {Tq : List (Addr × Str)} (Z : Zb Tq) (X : Cx) (st : List Stmt) : TS := fun D σ H => ∃ env F O P, Bas Z F H O ∧ OwE F H O σ env ∧ WSs Z X st env P ∧ EndsLe (endsOf Z H F O P) D
section
variable {Tq : List (Addr × Str)} {Z : Zb Tq} {X : Cx} {e a b c : Expr} {es : List Expr} {env : Env} {pos : Pos} {P : Out → Prop} {st : Stmt} {rest body els : List Stmt}
theorem ps_S : PS X st (tS Z X st) := ⟨fun pins s σ H D I ⟨env, F, O, P, b, o, w, l⟩ => thn (w pins s σ H F O I b o) (SP.le l)⟩
theorem pss_S : PSs X rest (tSs Z X rest) := ⟨fun pins s σ H D I ⟨env, F, O, P, b, o, w, l⟩ => thn (w pins s σ H F O I b o) (SP.le l)⟩
theorem ws_of {t : TS} (h : PS X st t) (w : ∀ σ H F O, Bas Z F H O → OwE F H O σ env → t (endsOf Z H F O P) σ H) : WS Z X st env P := fun pins s σ H F O I b o => h.run pins s σ H _ I (w σ H F O b o)
theorem WS.imp {P' : Out → Prop} (h : WS Z X st env P) (hp : ∀ o, P o → P' o) : WS Z X st env P' := fun pins s σ H F O I b o => thn (h pins s σ H F O I b o) (SP.le (endsOf.from (Frm.refl _ _ _) hp))
theorem WSs.imp {P' : Out → Prop} (h : WSs Z X rest env P) (hp : ∀ o, P o → P' o) : WSs Z X rest env P' := fun pins s σ H F O I b o => thn (h pins s σ H F O I b o) (SP.le (endsOf.from (Frm.refl _ _ _) hp))
theorem wss_nil (h : P (.nx env)) : WSs Z X [] env P := fun pins s σ H F O I b o => pss_nil.run pins s σ H _ I ⟨F, O, env, b, o, Frm.refl _ _ _, h⟩
/-- a statement, then the rest -/
def seqP {Tq : List (Addr × Str)} (Z : Zb Tq) (X : Cx) (rest : List Stmt) (P : Out → Prop) : Out → Prop
  | .nx e => WSs Z X rest e P
  | .ret t e => P (.ret t e)
  | .bk e => P (.bk e)
  | .ct e => P (.ct e)
theorem wss_cons (h : WS Z X st env (seqP Z X rest P)) : WSs Z X (st :: rest) env P := fun pins s σ H F O I b o =>
  (pss_cons (ps_S (Z := Z)) (pss_S (Z := Z))).run pins s σ H _ I ⟨env, F, O, _, b, o, h, ⟨fun σ' H' ⟨F', O', e', b', o', f', p⟩ => ⟨e', F', O', P, b', o', p, endsOf.from f' fun _ q => q⟩, fun _ _ q => q, fun _ _ q => q, fun _ _ q => q⟩⟩
theorem wss_one (h : WS Z X st env P) : WSs Z X [st] env P := fun pins s σ H F O I b o => (pss_one (ps_S (Z := Z))).run pins s σ H _ I ⟨env, F, O, _, b, o, h, EndsLe.refl _⟩
theorem ws_expr (h : WE Z X e env fun _ e1 => P (.nx e1)) (hs : swapsWith e none pos.line X.env = pure false := by rfl) : WS Z X (.Expr e pos) env P := ws_of (ps_expr (pe_E (Z := Z)) hs) fun σ H F O b o =>
  ⟨env, F, O, _, b, o, h, fun v H1 ⟨F1, O1, r, e1, b1, st, fr, p⟩ => by
    cases r with
    | bor a i q => exact ⟨F1, O1, e1, b1, st.1, fr, p⟩
    | t t =>
      obtain ⟨O2, O3, rfl, o2, _⟩ := st
      exact ⟨F1, O2, e1, b1.left, o2, fr.perm (fun _ => Iff.rfl) fun c hc => List.mem_append_left _ hc, p⟩⟩
/-- what is handed back: a thing of its own; what a name alone holds goes away with it -/
def retR (r : R) (env : Env) (k : T → Env → Prop) : Prop := match r with
  | .t t => k t env
  | .bor a i [] => match env[i]? with
    | some (some t) => t.addr = some a ∧ k t (env.set i none)
    | _ => False
  | .bor a i p => match getP i p env with
    | some t => t.addr = some a ∧ match frzT t with
      | some d => k (.va d) (setP i p (.va d) env)
      | none => False
    | none => False
theorem OwE.takeI {F H : Hp} : ∀ {O : List Addr} {σ : L2.St} {e : Env} {i : Nat} {t : T}, OwE F H O σ e → e[i]? = some (some t) → ∃ w O1 O2, OwE F H O1 σ (e.set i none) ∧ Ow F H O2 w t ∧ O.Perm (O1 ++ O2)
  | _, _, _, _, _, .nil, h => nomatch h
  | _, _, _, 0, t, .un r, h => by cases h
  | _, _, _, i + 1, t, .un (O := O) r, h => by
    obtain ⟨w, O1, O2, h1, h2, h3⟩ := OwE.takeI (i := i) r h
    exact ⟨w, O1, O2, .un h1, h2, h3⟩
  | _, _, _, 0, t, .so (O1 := Oa) (O2 := Ob) q r, h => by
    cases h
    exact ⟨_, Ob, Oa, .un r, q, List.perm_append_comm⟩
  | _, _, _, i + 1, t, .so (O1 := Oa) (O2 := Ob) q r, h => by
    obtain ⟨w, O1, O2, h1, h2, h3⟩ := OwE.takeI (i := i) r h
    exact ⟨w, Oa ++ O1, O2, .so q h1, h2, by rw [List.append_assoc]; exact h3.append_left Oa⟩
theorem retR_ok {σ : L2.St} {F H : Hp} {O : List Addr} {v : V} {r : R} {k : T → Env → Prop} (b : Bas Z F H O) (s : StR F H O σ env v r) (h : retR r env k) :
    ∃ F' O1 O2 t e', Bas Z F' H (O1 ++ O2) ∧ OwE F' H O1 σ e' ∧ Ow F' H O2 v t ∧ Frm Tq H F O H F' (O1 ++ O2) ∧ k t e' := by
  cases r with
  | t t =>
    obtain ⟨O1, O2, rfl, o, w⟩ := s
    exact ⟨F, O1, O2, t, env, b, o, w, Frm.refl _ _ _, h⟩
  | bor a i p =>
    obtain ⟨o, rfl⟩ := s
    cases p with
    | nil =>
      unfold retR at h
      simp only at h
      split at h
      · rename_i t e
        obtain ⟨w, O1, O2, h1, h2, h3⟩ := o.takeI e
        have hw := h2.ref h.1
        subst hw
        exact ⟨F, O1, O2, t, _, b.perm h3, h1, h2, (Frm.refl H F O).perm (fun _ => Iff.rfl) fun c hc => h3.mem_iff.mpr hc, h.2⟩
      · exact h.elim
    | cons f p =>
      unfold retR at h
      simp only at h
      cases hg : getP i (f :: p) env with
      | none => rw [hg] at h; exact h.elim
      | some t =>
        rw [hg] at h
        obtain ⟨ha, h⟩ := h
        cases hf : frzT t with
        | none => rw [hf] at h; exact h.elim
        | some d =>
          rw [hf] at h
          obtain ⟨F', O', ds, e', b', o', r', fr, q⟩ := absorb_ok (k := fun ds e' => ∃ d, ds = [d] ∧ k (.va d) e') (.cons (a := .bor a i (f :: p)) rfl .nil) b o (by
            unfold absorb; simp only [hg, hf]; exact ⟨ha, d, rfl, h⟩)
          obtain ⟨d, rfl, q⟩ := q
          cases r' with
          | cons r1 _ => exact ⟨F', O', [], .va d, e', by rw [List.append_nil]; exact b', o', .va r1, by rw [List.append_nil]; exact fr, q⟩
theorem ws_ret (h : WE Z X e env fun r e1 => retR r e1 fun t e2 => P (.ret t e2)) : WS Z X (.Return (some e) pos) env P := ws_of (ps_ret (pe_E (Z := Z))) fun σ H F O b o =>
  ⟨env, F, O, _, b, o, h, fun v H1 ⟨F1, O1, r, e1, b1, st, fr, p⟩ => by
    obtain ⟨F2, O2, O3, t, e2, b2, o2, w2, fr2, q⟩ := retR_ok b1 st p
    exact ⟨F2, O2, O3, σ, t, e2, b2, o2, w2, fr.trans fr2, q⟩⟩
theorem ws_if (h : WT Z X c env fun k e1 => (k = true → WSs Z X body e1 P) ∧ (k = false → WSs Z X els e1 P)) : WS Z X (.If c body els pos) env P :=
  ws_of (ps_if (pt_T (Z := Z)) (pss_S (Z := Z)) (pss_S (Z := Z))) fun σ H F O b o => ⟨env, F, O, _, b, o, h, fun k H1 ⟨F1, O1, e1, b1, o1, fr, p⟩ => by
    cases k with
    | true => exact iteT ⟨e1, F1, O1, P, b1, o1, p.1 rfl, endsOf.from fr fun _ q => q⟩
    | false => exact iteF ⟨e1, F1, O1, P, b1, o1, p.2 rfl, endsOf.from fr fun _ q => q⟩⟩
/-- x = e: a thing of its own, or what is frozen from then on -/
def storeR (r : R) (i : Nat) (env : Env) (k : Env → Prop) : Prop := i < env.length ∧ match r with
  | .t t => k (env.set i (some t))
  | .bor a j p => absorb [.bor a j p] env fun ds e => match ds with
    | [d] => i < e.length ∧ k (e.set i (some (.va d)))
    | _ => False
theorem storeR_ok {σ : L2.St} {F H : Hp} {O : List Addr} {v : V} {r : R} {i : Nat} {k : Env → Prop} (b : Bas Z F H O) (s : StR F H O σ env v r) (h : storeR r i env k) :
    ∃ F' O' e', Bas Z F' H O' ∧ OwE F' H O' (σ.set i (some v)) e' ∧ Frm Tq H F O H F' O' ∧ k e' := by
  obtain ⟨hi, h⟩ := h
  cases r with
  | t t =>
    obtain ⟨O1, O2, rfl, o, w⟩ := s
    obtain ⟨O', Od, h1, h2⟩ := o.set i w hi
    obtain ⟨b', fr⟩ := b.dropP (List.perm_append_comm.trans h2)
    exact ⟨F, O', _, b', h1, fr, h⟩
  | bor a j p =>
    obtain ⟨o, rfl⟩ := s
    obtain ⟨F', O1, ds, e1, b1, o1, r1, fr1, q⟩ := absorb_ok (.cons (a := .bor a j p) rfl .nil) b o h
    cases r1 with
    | cons r1 r2 =>
      cases r2
      obtain ⟨hi', q⟩ := q
      obtain ⟨O', Od, h1, h2⟩ := o1.set i (.va r1) hi'
      obtain ⟨b', fr⟩ := b1.dropP h2
      exact ⟨F', O', _, b', h1, fr1.trans fr, q⟩
theorem ws_set (i : Nat) {x : Str} {pos' : Pos} (h : WE Z X e env fun r e1 => storeR r i e1 fun e2 => P (.nx e2)) (hN : X.N.Nodup) (hi : X.N[i]? = some x := by rfl) (hx : Loc X.env.scope x := by first | exact Or.inl rfl | exact Or.inr rfl) (hs : swapsWith e (some (.Name x pos')) pos.line X.env = pure false := by rfl)
    (hf : X.fn x = true ∨ X.env.scope.names.lookup x = some .local := by first | exact .inl rfl | exact .inr rfl) : WS Z X (.Assign [.Name x pos'] e pos) env P :=
  ws_of (ps_set hN hi hx (pe_E (Z := Z)) hs hf) fun σ H F O b o => ⟨env, F, O, _, b, o, h, fun v H1 ⟨F1, O1, r, e1, b1, st, fr, p⟩ => by
    obtain ⟨F2, O2, e2, b2, o2, fr2, q⟩ := storeR_ok b1 st p
    exact ⟨F2, O2, e2, b2, o2, fr.trans fr2, q⟩⟩
/-- x op= e -/
theorem ws_aug (i : Nat) {x : Str} {pos' : Pos} {op : Operator} {g : D → D → (T → Prop) → Prop} (ho : DOp X (inplaceOp op) g)
    (h : ∃ d0, env[i]? = some (some (.va d0)) ∧ WA Z X e env fun a2 e2 => View a2 e2 fun d2 => i < e2.length ∧ g d0 d2 fun t => P (.nx (e2.set i (some t)))) (hN : X.N.Nodup) (hi : X.N[i]? = some x := by rfl) (hx : Loc X.env.scope x := by first | exact Or.inl rfl | exact Or.inr rfl)
    (hf : X.fn x = true ∨ X.env.scope.names.lookup x = some .local := by first | exact .inl rfl | exact .inr rfl) : WS Z X (.AugAssign (.Name x pos') op e pos) env P := by
  obtain ⟨d0, e0, h⟩ := h
  have hp : PIp X op (rD g) := fun pins s σ H x y v u Q I r1 r2 q => ho.r pins s σ H x y v u Q I r1 r2 q
  refine ws_of (ps_aug hN hi hx (pe_A (Z := Z)) hp hf) fun σ H F O b o => ?_
  obtain ⟨w, hw, Oj, O', h1, h2, h3⟩ := o.focusI e0
  cases h1 with
  | va r0 =>
    refine ⟨w, hw, env, F, O, _, b, o, h, fun v2 H2 ⟨F2, O2, a2, e2, b2, o2, st2, fr2, p⟩ => ?_⟩
    obtain ⟨d2, w2, hl, hg⟩ := View.vw p o2 st2
    refine ⟨F2, d0, d2, _, b2.sub, .pure (r0.mono fr2.fz), w2, hg, fun v3 H3 n => ?_⟩
    obtain ⟨F3, O3, r3, e3, b3, st3, fr3, t, er, e3e, q⟩ := n.post b2 o2 (P := fun r e => ∃ t, r = .t t ∧ e = e2 ∧ P (.nx (e2.set i (some t)))) fun t q => ⟨t, rfl, rfl, q⟩
    subst er e3e
    obtain ⟨F4, O4, e4, b4, o4, fr4, q4⟩ := storeR_ok (i := i) (k := fun e => P (.nx e)) b3 st3 ⟨hl, q⟩
    exact ⟨F4, O4, e4, b4, o4, (fr2.trans fr3).trans fr4, q4⟩

/-! ### while -/
def loopP (P : Out → Prop) (N : Env → Prop) : Out → Prop
  | .nx e => N e
  | .ct e => N e
  | .bk e => P (.nx e)
  | .ret t e => P (.ret t e)
theorem loop_le {H0 F0 H1 F1 : Hp} {O0 O1 : List Addr} (fr : Frm Tq H0 F0 O0 H1 F1 O1) {N : Env → Prop} {Nh : L2.St → Hp → Prop} (hn : ∀ σ H F O env, Bas Z F H O → OwE F H O σ env → Frm Tq H1 F1 O1 H F O → N env → Nh σ H) :
    EndsLe (endsOf Z H1 F1 O1 (loopP P N)) { endsOf Z H0 F0 O0 P with nx := Nh, ct := Nh, bk := (endsOf Z H0 F0 O0 P).nx } :=
  ⟨fun _ _ ⟨F, O, env, b, o, f, p⟩ => hn _ _ F O env b o f p, fun _ _ ⟨F, O, O2, σ, t, env, b, o, w, f, p⟩ => ⟨F, O, O2, σ, t, env, b, o, w, fr.trans f, p⟩,
    fun _ _ ⟨F, O, env, b, o, f, p⟩ => ⟨F, O, env, b, o, fr.trans f, p⟩, fun _ _ ⟨F, O, env, b, o, f, p⟩ => hn _ _ F O env b o f p⟩
theorem ws_while (I : Nat → Env → Prop) (m : Nat) (h0 : I m env) (hs : ∀ m env, I m env → WT Z X c env fun k e1 => (k = true → WSs Z X body e1 (loopP P fun e => ∃ m', m' < m ∧ I m' e)) ∧ (k = false → P (.nx e1)))
    (hp : PassesOwn (model X.prog X.w) X.A X.env X.xe) : WS Z X (.While c body [] pos) env P :=
  ws_of (ps_while hp (pt_T (Z := Z)) (pss_S (Z := Z))) fun σ0 H0 F0 O0 b0 o0 => by
    refine ⟨fun m σ H => ∃ F O env, Bas Z F H O ∧ OwE F H O σ env ∧ Frm Tq H0 F0 O0 H F O ∧ I m env, ⟨m, F0, O0, env, b0, o0, Frm.refl _ _ _, h0⟩, ?_⟩
    rintro m σ H ⟨F, O, env, b, o, fr, hI⟩
    refine ⟨env, F, O, _, b, o, hs m env hI, fun k H1 ⟨F1, O1, e1, b1, o1, fr1, p⟩ => ?_⟩
    cases k with
    | true =>
      refine iteT ⟨fun σ' H' => ∃ m', m' < m ∧ ∃ F O env, Bas Z F H' O ∧ OwE F H' O σ' env ∧ Frm Tq H0 F0 O0 H' F O ∧ I m' env, fun σ' H' ⟨m', hm, q⟩ => ⟨m', hm, q⟩, e1, F1, O1, _, b1, o1, p.1 rfl, ?_⟩
      refine loop_le (fr.trans fr1) ?_
      rintro σ2 H2 F2 O2 e2 b2 o2 f2 ⟨m', hm, q⟩
      exact ⟨m', hm, F2, O2, e2, b2, o2, (fr.trans fr1).trans f2, q⟩
    | false => exact iteF ⟨F1, O1, e1, b1, o1, fr.trans fr1, p.2 rfl⟩
end
end QL

/-! QE: targets, for, comprehensions. -/
namespace QL
open PySem PySem.Spec PyProof.Rows L2

theorem Bas.grow {Tq : List (Addr × Str)} {Z : Zb Tq} {F H F' H' : Hp} {O : List Addr} {σ : L2.St} {env : Env} (b : Bas Z F H O) (o : OwE F H O σ env) (s1 : Same F F') (s2 : Same H H') (s3 : Same F' H') (nf : ∀ a, F' a ≠ none → F a ≠ none ∨ H a = none) :
    Bas Z F' H' O ∧ OwE F' H' O σ env ∧ Frm Tq H F O H' F' O := by
  have keep : ∀ a ∈ O, H' a = H a := fun a ha => by
    cases q : H a with
    | none => exact absurd q (o.there a ha)
    | some x => exact s2 a x q
  have fr : Frm Tq H F O H' F' O := ⟨s1, fun a x e _ _ => s2 a x e, (fun a e => by
      cases q : H a with
      | none => exact absurd q e
      | some x => rw [s2 a x q]; exact fun z => nomatch z), fun a e => (nf a e).imp_right .inl, fun a ha => .inl ha, tab_same s2⟩
  refine ⟨⟨s3, b.nd, fun a ha => ?_, b.abs.trans fr⟩, o.stay s1 keep, fr⟩
  cases q : F' a with
  | none => rfl
  | some x =>
    rcases nf a (by rw [q]; exact fun z => nomatch z) with z | z
    · exact absurd (b.dis a ha) z
    · exact absurd z (o.there a ha)

/-! ### targets -/
theorem wipe_get {σ : L2.St} {i : Nat} : ∀ {vs : List Nat}, (wipe σ vs)[i]? = if i ∈ vs then (if i < σ.length then some none else none) else σ[i]?
  | [] => by simp [wipe]
  | v :: vs => by
    unfold wipe
    rw [List.getElem?_set, wipe_length, wipe_get (vs := vs)]
    by_cases e : v = i
    · subst e; simp
    · rw [if_neg e]
      have : (i ∈ v :: vs) ↔ i ∈ vs := by simp [Ne.symm e]
      simp only [this]
theorem wipe_set {σ : L2.St} {i : Nat} {x : Option V} {vs : List Nat} (h : i ∈ vs) : wipe (σ.set i x) vs = wipe σ vs := by
  apply List.ext_getElem?
  intro j
  rw [wipe_get, wipe_get, List.length_set]
  by_cases e : j ∈ vs
  · rw [if_pos e, if_pos e]
  · rw [if_neg e, if_neg e, List.getElem?_set_ne (fun z => e (by rw [← z]; exact h))]
theorem wipe_wipe {σ : L2.St} {vs : List Nat} : wipe (wipe σ vs) vs = wipe σ vs := by
  apply List.ext_getElem?
  intro j
  rw [wipe_get, wipe_get, wipe_length]
  by_cases e : j ∈ vs
  · rw [if_pos e, if_pos e]
  · rw [if_neg e, if_neg e]
def wipeE (env : Env) : List Nat → Env
  | [] => env
  | v :: vs => (wipeE env vs).set v none
theorem OwE.none_any {F H : Hp} : ∀ {O : List Addr} {σ σ' : L2.St} {e : Env}, OwE F H O σ e → σ'.length = σ.length → (∀ i : Nat, e[i]? ≠ some none → σ'[i]? = σ[i]?) → OwE F H O σ' e
  | _, _, [], _, .nil, _, _ => .nil
  | _, _, _ :: _, _, .nil, l, _ => nomatch l
  | _, _, [], _, .un r, l, _ => nomatch l
  | _, _, x :: σ', _, .un r, l, h => .un (r.none_any (Nat.succ.inj l) fun i hi => h (i + 1) hi)
  | _, _, [], _, .so q r, l, _ => nomatch l
  | _, _, x :: σ', _, .so q r, l, h => by
    have e : x = some _ := Option.some.inj (h 0 fun z => nomatch z)
    subst e
    exact .so q (r.none_any (Nat.succ.inj l) fun i hi => h (i + 1) hi)
theorem OwE.wipeO {F H : Hp} {O : List Addr} {σ : L2.St} {e : Env} (o : OwE F H O σ e) : ∀ vs : List Nat, ∃ O' Od, OwE F H O' σ (wipeE e vs) ∧ O.Perm (O' ++ Od)
  | [] => ⟨O, [], o, by rw [List.append_nil]⟩
  | v :: vs => by
    obtain ⟨O1, Od1, h1, h2⟩ := o.wipeO vs
    obtain ⟨O2, Od2, h3, h4⟩ := h1.drop v
    exact ⟨O2, Od2 ++ Od1, h3, by rw [← List.append_assoc]; exact h2.trans (h4.append_right Od1)⟩
theorem wipeE_get {env : Env} {i : Nat} : ∀ {vs : List Nat}, (wipeE env vs)[i]? = if i ∈ vs then (if i < env.length then some none else none) else env[i]?
  | [] => by simp [wipeE]
  | v :: vs => by
    have hl : ∀ ws : List Nat, (wipeE env ws).length = env.length := fun ws => by
      induction ws with
      | nil => rfl
      | cons w ws ih => unfold wipeE; rw [List.length_set, ih]
    unfold wipeE
    rw [List.getElem?_set, hl, wipeE_get (vs := vs)]
    by_cases e : v = i
    · subst e; simp
    · rw [if_neg e]
      have : (i ∈ v :: vs) ↔ i ∈ vs := by simp [Ne.symm e]
      simp only [this]
/-- the slots of a block's names: what stands there does not matter -/
theorem OwE.wiped {F H : Hp} {O : List Addr} {σ σ' : L2.St} {e : Env} {vs : List Nat} (o : OwE F H O σ (wipeE e vs)) (h : wipe σ' vs = wipe σ vs) : OwE F H O σ' (wipeE e vs) := by
  have hl : σ'.length = σ.length := by have := congrArg List.length h; rw [wipe_length, wipe_length] at this; exact this
  have hw : (wipeE e vs).length = e.length := by
    clear o h hl
    induction vs with
    | nil => rfl
    | cons w ws ih => unfold wipeE; rw [List.length_set, ih]
  refine o.none_any hl fun i hi => ?_
  have g := congrArg (fun l => l[i]?) h
  simp only [wipe_get] at g
  by_cases z : i ∈ vs
  · rw [wipeE_get, if_pos z] at hi
    by_cases y : i < e.length
    · rw [if_pos y] at hi; exact absurd rfl hi
    · have q := o.len
      rw [hw] at q
      rw [List.getElem?_eq_none (by omega), List.getElem?_eq_none (by omega)]
  · rw [if_neg z, if_neg z] at g
    exact g

abbrev TF := D → Env → (Env → Prop) → Prop
abbrev TFs := List D → Env → (Env → Prop) → Prop
/-- a target's store, over data; ix: its names' slots -/
def GOk {Tq : List (Addr × Str)} (Z : Zb Tq) (g : TG) (f : TF) (ix : List Nat) : Prop := ∀ (v : V) (d : D) (σ : L2.St) (H F : Hp) (O : List Addr) (env : Env) (k : Env → Prop) (Q : L2.St → Hp → Prop), Bas Z F H O → OwE F H O σ env → Rp F v d → f d env k →
  (∀ σ' O' e', Bas Z F H O' → OwE F H O' σ' e' → (∀ a ∈ O', a ∈ O) → (∀ vs : List Nat, (∀ i ∈ ix, i ∈ vs) → wipe σ' vs = wipe σ vs) → k e' → Q σ' H) → g v σ H Q
def GsOk {Tq : List (Addr × Str)} (Z : Zb Tq) (g : TGs) (f : TFs) (ix : List Nat) : Prop := ∀ (v : List V) (d : List D) (σ : L2.St) (H F : Hp) (O : List Addr) (env : Env) (k : Env → Prop) (Q : L2.St → Hp → Prop), Bas Z F H O → OwE F H O σ env → RpA F v d → f d env k →
  (∀ σ' O' e', Bas Z F H O' → OwE F H O' σ' e' → (∀ a ∈ O', a ∈ O) → (∀ vs : List Nat, (∀ i ∈ ix, i ∈ vs) → wipe σ' vs = wipe σ vs) → k e' → Q σ' H) → g v σ H Q
def fName (i : Nat) : TF := fun d env k => i < env.length ∧ k (env.set i (some (.va d)))
def fNil : TFs := fun ds env k => ds = [] ∧ k env
def fCons (f : TF) (fs : TFs) : TFs := fun ds env k => match ds with
  | d :: r => f d env fun e => fs r e k
  | [] => False
def fTup (n : Nat) (fs : TFs) : TF := fun d env k => match d with
  | .tuple ds => ds.length = n ∧ fs ds env k
  | _ => False
theorem gok_name {Tq : List (Addr × Str)} {Z : Zb Tq} (i : Nat) : GOk Z (gName i) (fName i) [i] := fun v d σ H F O env k Q b o r h q => by
  obtain ⟨O', Od, h1, h2⟩ := o.set i (.va r) h.1
  obtain ⟨b', fr⟩ := b.dropP h2
  exact q _ O' _ b' h1 (fun a ha => h2.mem_iff.mpr (List.mem_append_left _ ha)) (fun vs hv => wipe_set (hv i (List.mem_singleton.mpr rfl))) h.2
theorem gsok_nil {Tq : List (Addr × Str)} {Z : Zb Tq} : GsOk Z gNil fNil [] := fun v d σ H F O env k Q b o r h q => by
  obtain ⟨rfl, h⟩ := h
  cases r
  exact ⟨rfl, q σ O env b o (fun _ z => z) (fun _ _ => rfl) h⟩
theorem gsok_cons {Tq : List (Addr × Str)} {Z : Zb Tq} {g : TG} {gs : TGs} {f : TF} {fs : TFs} {ix ixs : List Nat} (h1 : GOk Z g f ix) (h2 : GsOk Z gs fs ixs) : GsOk Z (gCons g gs) (fCons f fs) (ix ++ ixs) := fun v d σ H F O env k Q b o r h q => by
  cases r with
  | nil => exact h.elim
  | cons r1 r2 =>
    refine ⟨_, _, rfl, h1 _ _ σ H F O env _ _ b o r1 h fun σ1 O1 e1 b1 o1 s1 w1 h => ?_⟩
    refine h2 _ _ σ1 H F O1 e1 k _ b1 o1 r2 h fun σ2 O2 e2 b2 o2 s2 w2 h => ?_
    exact q σ2 O2 e2 b2 o2 (fun a ha => s1 a (s2 a ha)) (fun vs hv => (w2 vs fun i hi => hv i (List.mem_append_right _ hi)).trans (w1 vs fun i hi => hv i (List.mem_append_left _ hi))) h
theorem gok_tup {Tq : List (Addr × Str)} {Z : Zb Tq} {K : PySem.W.Frag} {n : Nat} {gs : TGs} {fs : TFs} {ix : List Nat} (h1 : GsOk Z gs fs ix) : GOk Z (gTup K n gs) (fTup n fs) ix := fun v d σ H F O env k Q b o r h q => by
  cases d with
  | tuple ds =>
    cases r with
    | tup hF r =>
      exact ⟨_, _, rfl, .inl (rd_mono b.sub hF), by rw [r.len]; exact h.1, h1 _ _ σ H F O env k Q b o r h.2 q⟩
  | _ => exact h.elim

section
variable {Tq : List (Addr × Str)} {Z : Zb Tq} {X : Cx} {e a b c tg iter elt : Expr} {es : List Expr} {env : Env} {pos : Pos} {P : Out → Prop} {PR : R → Env → Prop} {body : List Stmt}

/-- target = e, e a tuple -/
theorem ws_asg {g : TG} {f : TF} {ix : List Nat} (hg : PG X tg g) (gk : GOk Z g f ix) (h : WE Z X e env fun r e1 => ∃ d, r = .t (.va d) ∧ f d e1 fun e2 => P (.nx e2)) (hs : swapsWithSole [tg] e pos.line X.env = pure false := by rfl) (hw : swappedStores [tg] e X.env = pure none := by rfl)
    (h1 : (assignEach [tg] X.env).map (·.2) = [assign tg X.env] := by rfl) : WS Z X (.Assign [tg] e pos) env P :=
  ws_of (ps_asg (pe_E (Z := Z)) hg hs hw h1) fun σ H F O b o => ⟨env, F, O, _, b, o, h, fun v H1 ⟨F1, O1, r, e1, b1, st, fr, d, er, p⟩ => by
    subst er
    obtain ⟨O2, O3, rfl, o1, w⟩ := st
    cases w with
    | va r =>
      rw [List.append_nil] at b1 fr
      refine gk v d σ H1 F1 O2 e1 _ _ b1 o1 r p fun σ2 O4 e2 b2 o2 s2 _ q => ⟨F1, O4, e2, b2, o2, fr.perm (fun _ => Iff.rfl) s2, q⟩⟩

/-! ### what is walked -/
def Gives (J : It) (ds : List D) (F1 : Hp) : Prop := ∀ (F' H' : Hp), Same F1 F' → Same F' H' → ∀ i : Nat,
  (∀ d, ds[i]? = some d → J.go i H' ∧ ∀ x H'', J.yld i H' x H'' → ∃ F'', Rp F'' x d ∧ Same F' F'' ∧ Same H' H'' ∧ Same F'' H'' ∧ ∀ a, F'' a ≠ none → F' a ≠ none ∨ H' a = none) ∧ (ds[i]? = none → J.stop i H')
def WI {Tq : List (Addr × Str)} (Z : Zb Tq) (X : Cx) (tg iter : Expr) (env : Env) (P : List D → Env → Prop) : Prop :=
  ∀ (pins : List (Addr × Obj)) (s : Shared) (σ : L2.St) (H F : Hp) (O : List Addr), Inv X pins σ H s → Bas Z F H O → OwE F H O σ env →
    wpAny (model X.prog X.w) X.A (eval iter X.env) (fun v s1 => wpAny (model X.prog X.w) X.A (pyIter v) (PIE X pins σ tg fun J H1 => ∃ F1 O1 ds e1, Bas Z F1 H1 O1 ∧ OwE F1 H1 O1 σ e1 ∧ Frm Tq H F O H1 F1 O1 ∧ Gives J ds F1 ∧ P ds e1) X.xe s1) X.xe s
def tI {Tq : List (Addr × Str)} (Z : Zb Tq) (X : Cx) (tg iter : Expr) : TI := fun σ H Rr => ∃ env F O P, Bas Z F H O ∧ OwE F H O σ env ∧ WI Z X tg iter env P ∧
  ∀ J H1 F1 O1 ds e1, Bas Z F1 H1 O1 → OwE F1 H1 O1 σ e1 → Frm Tq H F O H1 F1 O1 → Gives J ds F1 → P ds e1 → Rr J H1
theorem PIE.imp {pins : List (Addr × Obj)} {σ : L2.St} {R1 R2 : It → Hp → Prop} (h : ∀ J H1, R1 J H1 → R2 J H1) : ∀ v s, PIE X pins σ tg R1 v s → PIE X pins σ tg R2 v s := fun _ _ ⟨it, fp, tn, J, H', e, I, T, t0, f, q⟩ => ⟨it, fp, tn, J, H', e, I, T, t0, f, h _ _ q⟩
theorem pi_I : PI X tg iter (tI Z X tg iter) := ⟨fun pins s σ H Rr I ⟨env, F, O, P, b, o, w, q⟩ =>
  thn (w pins s σ H F O I b o) fun v s1 h => thn h (PIE.imp fun J H1 ⟨F1, O1, ds, e1, b1, o1, fr, g, p⟩ => q J H1 F1 O1 ds e1 b1 o1 fr g p)⟩
theorem wi_of {wi : TI} {P : List D → Env → Prop} (h : PI X tg iter wi) (w : ∀ σ H F O, Bas Z F H O → OwE F H O σ env → wi σ H fun J H1 => ∃ F1 O1 ds e1, Bas Z F1 H1 O1 ∧ OwE F1 H1 O1 σ e1 ∧ Frm Tq H F O H1 F1 O1 ∧ Gives J ds F1 ∧ P ds e1) : WI Z X tg iter env P :=
  fun pins s σ H F O I b o => h.run pins s σ H _ I (w σ H F O b o)
theorem gives_list {K : PySem.W.Frag} {a : Addr} {xs : List V} {ds : List D} {F : Hp} (h : F a = some (.lst xs)) (r : RpA F xs ds) : Gives (Itl K a) ds F := fun F' H' s1 s2 i => by
  have hq : SqL K H' a xs := SqL.of (s2 _ _ (s1 _ _ h))
  refine ⟨fun d hd => ?_, fun hn => ?_⟩
  · obtain ⟨v, hv, rv⟩ := r.get' hd
    refine ⟨⟨xs, v, hq, hv⟩, fun x H'' ⟨e, q⟩ => ?_⟩
    subst e
    have := (q xs hq).symm.trans hv
    cases this
    exact ⟨F', rv.mono s1, Same.refl _, Same.refl _, s2, fun _ z => .inl z⟩
  · exact ⟨xs, hq, by rw [r.len]; exact List.getElem?_eq_none_iff.mp hn⟩
theorem gives_tup {K : PySem.W.Frag} {a : Addr} {xs : List V} {ds : List D} {F : Hp} (h : Rd F a (.tup xs)) (r : RpA F xs ds) : Gives (Itt K a) ds F := fun F' H' s1 s2 i => by
  have hq : SqT K H' a xs := .inl (rd_mono s2 (rd_mono s1 h))
  refine ⟨fun d hd => ?_, fun hn => ?_⟩
  · obtain ⟨v, hv, rv⟩ := r.get' hd
    refine ⟨⟨xs, v, hq, hv⟩, fun x H'' ⟨e, q⟩ => ?_⟩
    subst e
    have := (q xs hq).symm.trans hv
    cases this
    exact ⟨F', rv.mono s1, Same.refl _, Same.refl _, s2, fun _ z => .inl z⟩
  · exact ⟨xs, hq, by rw [r.len]; exact List.getElem?_eq_none_iff.mp hn⟩
def tupOf (ds : List D) (k : List D → Prop) : Prop := match ds with
  | [.tuple xs] => k xs
  | _ => False
def lstOf (ds : List D) (k : List D → Prop) : Prop := match ds with
  | [.list xs] => k xs
  | _ => False
/-- for x in a tuple -/
theorem wi_tup {P : List D → Env → Prop} (h : WA Z X iter env fun a e1 => absorb [a] e1 fun ds e2 => tupOf ds fun xs => P xs e2) : WI Z X tg iter env P :=
  wi_of (pi_tup (pe_A (Z := Z))) fun σ H F O b o => ⟨env, F, O, _, b, o, h, fun v H1 ⟨F1, O1, a, e1, b1, o1, st, fr, p⟩ => by
    obtain ⟨F2, O2, ds, e2, b2, o2, r2, fr2, q⟩ := absorb_ok (.cons st .nil) b1 o1 p
    cases r2 with
    | cons r rr =>
      cases rr
      unfold tupOf at q
      split at q
      · rename_i xs e
        cases e
        cases r with
        | tup h1 r1 => exact ⟨_, rfl, ⟨_, .inl (rd_mono b2.sub h1)⟩, F2, O2, xs, e2, b2, o2, fr.trans fr2, gives_tup h1 r1, q⟩
      · exact q.elim⟩
/-- for x in a list -/
theorem wi_list {P : List D → Env → Prop} (h : WA Z X iter env fun a e1 => absorb [a] e1 fun ds e2 => lstOf ds fun xs => P xs e2) : WI Z X tg iter env P :=
  wi_of (pi_list (pe_A (Z := Z))) fun σ H F O b o => ⟨env, F, O, _, b, o, h, fun v H1 ⟨F1, O1, a, e1, b1, o1, st, fr, p⟩ => by
    obtain ⟨F2, O2, ds, e2, b2, o2, r2, fr2, q⟩ := absorb_ok (.cons st .nil) b1 o1 p
    cases r2 with
    | cons r rr =>
      cases rr
      unfold lstOf at q
      split at q
      · rename_i xs e
        cases e
        cases r with
        | lst h1 r1 => exact ⟨_, rfl, ⟨_, SqL.of (b2.sub _ _ h1)⟩, F2, O2, xs, e2, b2, o2, fr.trans fr2, gives_list h1 r1, q⟩
      · exact q.elim⟩
/-- range -/
def rangeD (lo : Int) (n : Nat) : List D := (List.range n).map fun (k : Nat) => PyData.int (lo + (k : Int))
theorem gives_range {lo : Int} {n : Nat} {F : Hp} : Gives (Itr lo n) (rangeD lo n) F := fun F' H' s1 s2 i => by
  refine ⟨fun d hd => ?_, fun hn => ?_⟩
  · unfold rangeD at hd
    rw [List.getElem?_map] at hd
    by_cases hi : i < n
    · rw [List.getElem?_range hi] at hd
      cases hd
      refine ⟨hi, fun x H'' ⟨e, q⟩ => ?_⟩
      subst e q
      exact ⟨F', .int _, Same.refl _, Same.refl _, s2, fun _ z => .inl z⟩
    · rw [List.getElem?_eq_none (by simpa using hi)] at hd
      cases hd
  · unfold rangeD at hn
    rw [List.getElem?_eq_none_iff, List.length_map, List.length_range] at hn
    exact hn
/-- several arguments, as they are seen at the end -/
def Views (as : List A) (env : Env) (k : List D → Prop) : Prop := match as with
  | [] => k []
  | a :: as => View a env fun d => Views as env fun ds => k (d :: ds)
inductive Vws (F H : Hp) : List V → List D → Prop
  | nil : Vws F H [] []
  | cons {v : V} {vs : List V} {d : D} {ds : List D} : Vw F H v d → Vws F H vs ds → Vws F H (v :: vs) (d :: ds)
theorem Views.vws {σ : L2.St} {F H : Hp} {O : List Addr} (o : OwE F H O σ env) : ∀ {as : List A} {vs : List V} {k : List D → Prop}, StAs F vs as → Views as env k → ∃ ds, Vws F H vs ds ∧ k ds
  | [], _, k, .nil, h => ⟨[], .nil, h⟩
  | a :: as, _, k, .cons st r, h => by
    obtain ⟨d, w, h⟩ := View.vw h o st
    obtain ⟨ds, ws, h⟩ := Views.vws o r h
    exact ⟨d :: ds, .cons w ws, h⟩
def rng1 (ds : List D) (k : List D → Prop) : Prop := match ds with
  | [.int j] => (-4611686018427387904 ≤ j ∧ j < 4611686018427387904) ∧ k (rangeD 0 j.toNat)
  | _ => False
theorem wi_range1 {P : List D → Env → Prop} {p : Pos} (hm : X.mg "range" = none) (h : WAs Z X [a] env fun as e1 => Views as e1 fun ds => rng1 ds fun xs => P xs e1) (hg : Gl X "range" := by rfl) : WI Z X tg (.Call (.Name "range" p) [a] [] pos) env P :=
  wi_of (pi_range1 hg hm (pa_As (Z := Z)) h.1) fun σ H F O b o => ⟨env, F, O, _, b, o, h, fun vs H1 ⟨F1, O1, as, e1, b1, o1, st, fr, p⟩ => by
    obtain ⟨ds, ws, q⟩ := Views.vws o1 st p
    unfold rng1 at q
    split at q
    · cases ws with
      | cons w ws =>
        cases ws
        cases w.int
        exact ⟨_, rfl, q.1.1, q.1.2, F1, O1, _, e1, b1, o1, fr, gives_range, q.2⟩
    · exact q.elim⟩
def rng2 (ds : List D) (k : List D → Prop) : Prop := match ds with
  | [.int i, .int j] => (-4611686018427387904 ≤ i ∧ i < 4611686018427387904 ∧ -4611686018427387904 ≤ j ∧ j < 4611686018427387904) ∧ k (rangeD i (j - i).toNat)
  | _ => False
theorem wi_range2 {P : List D → Env → Prop} {p : Pos} (hm : X.mg "range" = none) (h : WAs Z X [a, b] env fun as e1 => Views as e1 fun ds => rng2 ds fun xs => P xs e1) (hg : Gl X "range" := by rfl) (hs : starEach [a, b] X.env = [(false, eval a X.env), (false, eval b X.env)] := by rfl) (hs2 : starEach [b] X.env = [(false, eval b X.env)] := by rfl) : WI Z X tg (.Call (.Name "range" p) [a, b] [] pos) env P :=
  wi_of (pi_range2 hg hm (pa_As (Z := Z)) hs hs2) fun σ H F O b o => ⟨env, F, O, _, b, o, h, fun vs H1 ⟨F1, O1, as, e1, b1, o1, st, fr, p⟩ => by
    obtain ⟨ds, ws, q⟩ := Views.vws o1 st p
    unfold rng2 at q
    split at q
    · cases ws with
      | cons w ws =>
        cases ws with
        | cons w' ws =>
          cases ws
          cases w.int
          cases w'.int
          exact ⟨_, _, rfl, q.1, F1, O1, _, e1, b1, o1, fr, gives_range, q.2⟩
    · exact q.elim⟩

/-! ### for -/
def ForI {Tq : List (Addr × Str)} (Z : Zb Tq) (X : Cx) (f : TF) (body : List Stmt) (P : Out → Prop) (ds : List D) (e1 : Env) : Prop :=
  ∃ I : Nat → Env → Prop, I 0 e1 ∧ (∀ k d e, ds[k]? = some d → I k e → f d e fun e' => WSs Z X body e' (loopP P (I (k + 1)))) ∧ ∀ e, I ds.length e → P (.nx e)
theorem ws_for {g : TG} {f : TF} {ix : List Nat} (hp : PassesOwn (model X.prog X.w) X.A X.env X.xe) (hc : X.calm = true) (hg : PG X tg g) (gk : GOk Z g f ix) (h : WI Z X tg iter env (ForI Z X f body P)) (hs : ∀ x, foldedSetIterable iter X.env x = pure x := by intro _; rfl) :
    WS Z X (.For tg iter body [] pos) env P :=
  ws_of (ps_for hp hc (pi_I (Z := Z)) hg (pss_S (Z := Z)) hs) fun σ0 H0 F0 O0 b0 o0 => ⟨env, F0, O0, _, b0, o0, h, fun J H1 F1 O1 ds e1 b1 o1 fr1 gv ⟨I, i0, step, done⟩ => by
    refine ⟨fun i m σ H => m = ds.length - i ∧ i ≤ ds.length ∧ ∃ F O e, Bas Z F H O ∧ OwE F H O σ e ∧ Frm Tq H1 F1 O1 H F O ∧ I i e, ⟨_, rfl, Nat.zero_le _, F1, O1, e1, b1, o1, Frm.refl _ _ _, i0⟩, ?_⟩
    rintro i m σ H ⟨rfl, hi, F, O, e, b, o, fr, hI⟩
    obtain ⟨g1, g2⟩ := gv F H fr.fz b.sub i
    by_cases hlt : i < ds.length
    · obtain ⟨go, yl⟩ := g1 ds[i] (List.getElem?_eq_getElem hlt)
      refine .inr ⟨go, fun σ' H' => ∃ F O e, Bas Z F H' O ∧ OwE F H' O σ' e ∧ Frm Tq H1 F1 O1 H' F O ∧ I (i + 1) e, fun σ' H' q => ⟨ds.length - (i + 1), by omega, rfl, hlt, q⟩, fun x H' y => ?_⟩
      obtain ⟨F', rx, s1, s2, s3, nf⟩ := yl x H' y
      obtain ⟨b2, o2, fr2⟩ := b.grow o s1 s2 s3 nf
      refine gk x _ σ H' F' O e _ _ b2 o2 rx (step i _ e (List.getElem?_eq_getElem hlt) hI) fun σ3 O3 e3 b3 o3 s3 _ h3 => ?_
      have fr3 : Frm Tq H1 F1 O1 H' F' O3 := (fr.trans fr2).perm (fun _ => Iff.rfl) s3
      refine ⟨e3, F', O3, _, b3, o3, h3, loop_le (fr1.trans fr3) ?_⟩
      exact fun σ4 H4 F4 O4 e4 b4 o4 f4 q => ⟨F4, O4, e4, b4, o4, fr3.trans f4, q⟩
    · have e' : i = ds.length := by omega
      subst e'
      exact .inl ⟨g2 (List.getElem?_eq_none (Nat.le_refl _)), F, O, e, b, o, fr1.trans fr, done e hI⟩⟩

/-! ### comprehensions -/
/-- the contexts in which a comprehension's block may run -/
abbrev Blk (X : Cx) (scope : Scope) (k : Cx → Prop) : Prop := ∀ (s : Shared) (H : Hp) (C : Addr) (cl : List (Str × Addr)) (fp : List Addr), k (X.blk s H scope (compEnvC scope cl C X.env) fp)
def tAB {Tq : List (Addr × Str)} (Z : Zb Tq) (X : Cx) (scope : Scope) (e : Expr) : TE := fun σ H Q => ∃ env F O P, Bas Z F H O ∧ OwE F H O σ env ∧ (Blk X scope fun X' => WA Z X' e env P) ∧ ∀ v H', PostA Z σ H F O P v H' → Q v H'
def tTB {Tq : List (Addr × Str)} (Z : Zb Tq) (X : Cx) (scope : Scope) (e : Expr) : TT := fun σ H Q => ∃ env F O P, Bas Z F H O ∧ OwE F H O σ env ∧ (Blk X scope fun X' => WT Z X' e env P) ∧ ∀ v H', PostT Z σ H F O P v H' → Q v H'
theorem pe_AB {scope : Scope} (s : Shared) (H : Hp) (C : Addr) (cl : List (Str × Addr)) (fp : List Addr) : PE (X.blk s H scope (compEnvC scope cl C X.env) fp) elt (tAB Z X scope elt) :=
  ⟨fun pins s' σ H' Q I ⟨env, F, O, P, b, o, w, q⟩ => thn ((w s H C cl fp).run I b o) (EP.imp q)⟩
theorem pt_TB {scope : Scope} (s : Shared) (H : Hp) (C : Addr) (cl : List (Str × Addr)) (fp : List Addr) : PT (X.blk s H scope (compEnvC scope cl C X.env) fp) c (tTB Z X scope c) :=
  ⟨fun pins s' σ H' Q I ⟨env, F, O, P, b, o, w, q⟩ => thn (w s H C cl fp pins s' σ H' F O I b o) fun _ _ ⟨H2, I2, p⟩ => ⟨H2, I2, q _ _ p⟩⟩
/-- one turn's element -/
def ElI {Tq : List (Addr × Str)} (Z : Zb Tq) (X : Cx) (scope : Scope) (elt : Expr) (vs : List Nat) (I : List D → Env → Prop) (acc : List D) (e2 : Env) : Prop :=
  Blk X scope fun X' => WA Z X' elt e2 fun a e3 => absorb [a] e3 fun ds e4 => match ds with
    | [y] => acc.length < sizeLine ∧ I (acc ++ [y]) (wipeE e4 vs)
    | _ => False
structure LcI {Tq : List (Addr × Str)} (Z : Zb Tq) (X : Cx) (scope : Scope) (f : TF) (elt : Expr) (vs : List Nat) (T : Env → (Bool → Env → Prop) → Prop) (P : R → Env → Prop) (ds : List D) (e1 : Env) : Prop where
  ex : ∃ I : Nat → List D → Env → Prop, I 0 [] (wipeE e1 vs) ∧ (∀ k d acc e, ds[k]? = some d → I k acc e → f d e fun e' => T e' fun bb e2 => (bb = true → ElI Z X scope elt vs (I (k + 1)) acc e2) ∧ (bb = false → I (k + 1) acc (wipeE e2 vs))) ∧
    ∀ acc e, I ds.length acc e → ∀ p, P (.t (.lst p acc)) e
theorem lc_read {g : TG} {f : TF} {ix : List Nat} {scope : Scope} {vs : List Nat} {tt : TT} {T : Env → (Bool → Env → Prop) → Prop} (gk : GOk Z g f ix) (hix : ∀ i ∈ ix, i ∈ vs)
    (tk : ∀ σ H F O env k (Q : Bool → Hp → Prop), Bas Z F H O → OwE F H O σ env → T env k → (∀ bb H' F' O' e', Bas Z F' H' O' → OwE F' H' O' σ e' → Frm Tq H F O H' F' O' → k bb e' → Q bb H') → tt σ H Q)
    {σ0 : L2.St} {H0 F0 : Hp} {O0 : List Addr} (b0 : Bas Z F0 H0 O0) (o0 : OwE F0 H0 O0 σ0 env) (h : WI Z X tg iter env (LcI Z X scope f elt vs T PR)) :
    tLc (tI Z X tg iter) g tt (tAB Z X scope elt) vs σ0 H0 (Post Z σ0 H0 F0 O0 PR) := by
  refine ⟨env, F0, O0, _, b0, o0, h, fun J H1 F1 O1 ds e1 b1 o1 fr1 gv ⟨I, i0, step, done⟩ D hD => ?_⟩
  have fD : F1 D = none := b1.sub.free hD
  refine ⟨fun i m H => m = ds.length - i ∧ i ≤ ds.length ∧ ∃ F O e e0 acc accV, Bas Z F H (O ++ [D]) ∧ OwE F H O (wipe σ0 vs) e ∧ e = wipeE e0 vs ∧ H D = some (.lst accV) ∧ RpA F accV acc ∧ Frm Tq H1 F1 O1 H F (O ++ [D]) ∧ I i acc e, ⟨_, rfl, Nat.zero_le _, ?_⟩, ?_⟩
  · -- the start
    obtain ⟨O2, Od, h2, h3⟩ := o1.wipeO vs
    have hn : ∀ a ∈ O1, a ≠ D := fun a ha z => by subst z; exact o1.there a ha hD
    have fr : Frm Tq H1 F1 O1 (upd H1 D (.lst [])) F1 (O2 ++ [D]) := ⟨Same.refl _, fun a o e _ _ => same_new hD a o e, fun a e => by
      by_cases z : a = D
      · subst z; rw [upd_same]; exact fun z => nomatch z
      · rw [upd_ne z]; exact e, fun a e => .inl e, fun a ha => (List.mem_append.mp ha).elim (fun z => .inl (h3.mem_iff.mpr (List.mem_append_left _ z))) fun z => .inr (by rw [List.mem_singleton.mp z]; exact hD), tab_new hD⟩
    have b2 := (b1.dropP h3).1
    refine ⟨F1, O2, wipeE e1 vs, e1, [], [], ⟨b1.sub.trans (same_new hD), List.nodup_append.mpr ⟨b2.nd, List.nodup_cons.mpr ⟨fun z => (nomatch z), List.nodup_nil⟩, fun a ha c hc z => ?_⟩, fun a ha => ?_, b1.abs.trans fr⟩, ?_, rfl, upd_same, .nil, fr, i0⟩
    · rw [List.mem_singleton.mp hc] at z
      exact hn a (h3.mem_iff.mpr (List.mem_append_left _ ha)) z
    · rcases List.mem_append.mp ha with ha | ha
      · exact b2.dis a ha
      · rw [List.mem_singleton.mp ha]; exact fD
    · have o3 : OwE F1 (upd H1 D (.lst [])) O2 σ0 (wipeE e1 vs) := h2.stay (Same.refl _) fun a ha => upd_ne (hn a (h3.mem_iff.mpr (List.mem_append_left _ ha)))
      exact o3.wiped wipe_wipe
  · rintro i m H ⟨rfl, hi, F, O, e, e0, acc, accV, b, o, he0, hDl, rA, fr, hI⟩
    obtain ⟨g1, g2⟩ := gv F H fr.fz b.sub i
    by_cases hlt : i < ds.length
    · obtain ⟨go, yl⟩ := g1 ds[i] (List.getElem?_eq_getElem hlt)
      refine .inr ⟨go, fun H' => ∃ F O e e0 acc accV, Bas Z F H' (O ++ [D]) ∧ OwE F H' O (wipe σ0 vs) e ∧ e = wipeE e0 vs ∧ H' D = some (.lst accV) ∧ RpA F accV acc ∧ Frm Tq H1 F1 O1 H' F (O ++ [D]) ∧ I (i + 1) acc e, fun H' q => ⟨ds.length - (i + 1), by omega, rfl, hlt, q⟩, fun x H' y => ?_⟩
      obtain ⟨F', rx, s1, s2, s3, nf⟩ := yl x H' y
      have dD : ∀ a ∈ [D], Held H a := fun a ha => by rw [List.mem_singleton.mp ha]; exact ⟨_, hDl, fun _ z => nomatch z⟩
      have bL := b.left
      obtain ⟨b2, o2, fr2⟩ := bL.grow o s1 s2 s3 nf
      have b2D : Bas Z F' H' (O ++ [D]) := Bas.frame fr2 b b2 dD
      refine gk x _ (wipe σ0 vs) H' F' O e _ _ b2 o2 rx (step i _ acc e (List.getElem?_eq_getElem hlt) hI) fun σ3 O3 e3 b3 o3 s3' w3 h3 => ?_
      have hw : wipe σ3 vs = wipe (wipe σ0 vs) vs := w3 vs hix
      rw [wipe_wipe] at hw
      refine ⟨hw, ?_⟩
      have hD3 : H' D = some (.lst accV) := s2 _ _ hDl
      have dD3 : ∀ a ∈ [D], Held H' a := fun a ha => by rw [List.mem_singleton.mp ha]; exact ⟨_, hD3, fun _ z => nomatch z⟩
      have fr23 : Frm Tq H F O H' F' O3 := fr2.perm (fun _ => Iff.rfl) s3'
      have b3D : Bas Z F' H' (O3 ++ [D]) := Bas.frame fr23 b b3 dD
      have frD : Frm Tq H1 F1 O1 H' F' (O3 ++ [D]) := fr.trans fr23.frame
      refine tk σ3 H' F' O3 e3 _ _ b3 o3 h3 fun bb H4 F4 O4 e4 b4 o4 fr4 h4 => ?_
      have hD4 : H4 D = some (.lst accV) := fr4.out D _ hD3 (fun _ z => nomatch z) fun z => (List.nodup_append.mp b3D.nd).2.2 D z D (List.mem_singleton.mpr rfl) rfl
      have b4D : Bas Z F4 H4 (O4 ++ [D]) := Bas.frame fr4 b3D b4 dD3
      have frD4 : Frm Tq H1 F1 O1 H4 F4 (O4 ++ [D]) := frD.trans fr4.frame
      have dD4 : ∀ a ∈ [D], Held H4 a := fun a ha => by rw [List.mem_singleton.mp ha]; exact ⟨_, hD4, fun _ z => nomatch z⟩
      -- a turn's end
      have fin : ∀ {H5 F5 : Hp} {O5 : List Addr} {e5 : Env} {acc5 : List PyData} {accV5 : List V}, Bas Z F5 H5 (O5 ++ [D]) → OwE F5 H5 O5 σ3 e5 → H5 D = some (.lst accV5) → RpA F5 accV5 acc5 → Frm Tq H1 F1 O1 H5 F5 (O5 ++ [D]) → I (i + 1) acc5 (wipeE e5 vs) →
          ∃ F O e e0 acc accV, Bas Z F H5 (O ++ [D]) ∧ OwE F H5 O (wipe σ0 vs) e ∧ e = wipeE e0 vs ∧ H5 D = some (.lst accV) ∧ RpA F accV acc ∧ Frm Tq H1 F1 O1 H5 F (O ++ [D]) ∧ I (i + 1) acc e := fun {H5 F5 O5 e5 acc5 accV5} b5 o5 hD5 r5 fr5 hI5 => by
        obtain ⟨O6, Od6, h6, p6⟩ := o5.wipeO vs
        have p6' : (O5 ++ [D]).Perm ((O6 ++ [D]) ++ Od6) := (p6.append_right [D]).trans (by
          rw [List.append_assoc, List.append_assoc]
          exact List.perm_append_comm.append_left O6)
        refine ⟨F5, O6, wipeE e5 vs, e5, acc5, accV5, (b5.perm p6').left, h6.wiped ?_, rfl, hD5, r5, fr5.perm (fun _ => Iff.rfl) fun c hc => p6'.mem_iff.mpr (List.mem_append_left _ hc), hI5⟩
        rw [wipe_wipe]
        exact hw.symm
      cases bb with
      | false => exact iteF (fin b4D o4 hD4 (rA.mono (s1.trans fr4.fz)) frD4 (h4.2 rfl))
      | true =>
        refine iteT ⟨e4, F4, O4, _, b4, o4, h4.1 rfl, fun y H5 ⟨F5, O5, a5, e5, b5, o5, st5, fr5, p5⟩ => ?_⟩
        obtain ⟨F6, O6, ds6, e6, b6, o6, r6, fr6, q6⟩ := absorb_ok (.cons st5 .nil) b5 o5 p5
        have fr56 := fr5.trans fr6
        cases r6 with
        | cons r7 rr =>
          cases rr
          obtain ⟨hz, q7⟩ := q6
          have hD5 : H5 D = some (.lst accV) := fr5.out D _ hD4 (fun _ z => nomatch z) fun z => (List.nodup_append.mp b4D.nd).2.2 D z D (List.mem_singleton.mpr rfl) rfl
          have b6D : Bas Z F6 H5 (O6 ++ [D]) := Bas.frame fr56 b4D b6 dD4
          have frD6 : Frm Tq H1 F1 O1 H5 F6 (O6 ++ [D]) := frD4.trans fr56.frame
          have nD : ∀ a ∈ O6, a ≠ D := fun a ha z => (List.nodup_append.mp b6D.nd).2.2 a ha D (List.mem_singleton.mpr rfl) z
          have fD6 : F6 D = none := b6D.dis D (List.mem_append_right _ (List.mem_singleton.mpr rfl))
          have rA6 : RpA F6 accV acc := rA.mono (s1.trans (fr4.fz.trans fr56.fz))
          refine ⟨accV, hD5, by rw [rA6.len]; exact hz, ?_⟩
          have hs : Same F6 (upd H5 D (.lst (accV ++ [y]))) := fun a x ha => by
            have z : a ≠ D := fun z => by subst z; rw [fD6] at ha; cases ha
            rw [upd_ne z]; exact b6D.sub a x ha
          have fr7 : Frm Tq H5 F6 (O6 ++ [D]) (upd H5 D (.lst (accV ++ [y]))) F6 (O6 ++ [D]) := ⟨Same.refl _, fun a x ha _ hn => by
            rw [upd_ne fun z => hn (by rw [z]; exact List.mem_append_right _ (List.mem_singleton.mpr rfl))]; exact ha, fun a ha => by
            by_cases z : a = D
            · subst z; rw [upd_same]; exact fun z => nomatch z
            · rw [upd_ne z]; exact ha, fun a ha => .inl ha, fun a ha => .inl ha, tab_upd fun o e => by rw [hD5] at e; cases e; exact ⟨(fun _ z => nomatch z), (fun _ z => nomatch z)⟩⟩
          exact fin ⟨hs, b6D.nd, b6D.dis, b6D.abs.trans fr7⟩ (o6.stay (Same.refl _) fun a ha => upd_ne (nD a ha)) upd_same (rA6.app (.cons r7 .nil)) (frD6.trans fr7) q7
    · have e' : i = ds.length := by omega
      subst e'
      refine .inl ⟨g2 (List.getElem?_eq_none (Nat.le_refl _)), F, O ++ [D], .t (.lst D acc), e, b, ⟨O, [D], rfl, ?_, .lst hDl rA⟩, fr1.trans fr, done acc e hI D⟩
      subst he0
      exact o.wiped wipe_wipe.symm
theorem w_lc {g : TG} {f : TF} {ix : List Nat} {scope : Scope} {own : List (Str × Nat)} (hc : X.calm = true) (hN : X.N.Nodup) (ok : BlkOk X.N X.env.scope scope own) (hg : Blk X scope fun X' => PG X' tg g) (gk : GOk Z g f ix) (hix : ∀ i ∈ ix, i ∈ own.map (·.2))
    (h : WI Z X tg iter env (LcI Z X scope f elt (own.map (·.2)) (fun e k => k true e) PR)) (hs : ∀ x, foldedSetIterable iter X.env x = pure x := by intro _; rfl) : WE Z X (.ListComp elt [⟨tg, iter, [], 0⟩] scope pos) env PR :=
  we_of (pe_lc (own := own) hc hN (pi_I (Z := Z)) ok hg (fun _ _ _ _ _ => pts_nil) (pe_AB (Z := Z)) hs) fun σ H F O b o => lc_read gk hix (fun σ H F O env k Q b o t q => q true H F O env b o (Frm.refl _ _ _) t) b o h
theorem w_lcIf {g : TG} {f : TF} {ix : List Nat} {scope : Scope} {own : List (Str × Nat)} (hc : X.calm = true) (hN : X.N.Nodup) (ok : BlkOk X.N X.env.scope scope own) (hg : Blk X scope fun X' => PG X' tg g) (gk : GOk Z g f ix) (hix : ∀ i ∈ ix, i ∈ own.map (·.2))
    (h : WI Z X tg iter env (LcI Z X scope f elt (own.map (·.2)) (fun e k => Blk X scope fun X' => WT Z X' c e k) PR)) (hs : ∀ x, foldedSetIterable iter X.env x = pure x := by intro _; rfl) : WE Z X (.ListComp elt [⟨tg, iter, [c], 0⟩] scope pos) env PR :=
  we_of (pe_lc (own := own) hc hN (pi_I (Z := Z)) ok hg (fun s H C cl fp => pts_one (pt_TB (Z := Z) s H C cl fp)) (pe_AB (Z := Z)) hs) fun σ H F O b o =>
    lc_read gk hix (fun σ H F O env k Q b o t q => ⟨env, F, O, k, b, o, t, fun v H' ⟨F1, O1, e1, b1, o1, fr1, p⟩ => q v H' F1 O1 e1 b1 o1 fr1 p⟩) b o h
end
end QL

/-! QF: what a def promises, over data; its body; its calls. -/
namespace QL
open PySem PySem.Spec PyProof.Rows L2

inductive StV (F H : Hp) : List Addr → List V → List T → Prop
  | nil : StV F H [] [] []
  | cons {O1 O2 : List Addr} {v : V} {t : T} {vs : List V} {ts : List T} : Ow F H O1 v t → StV F H O2 vs ts → StV F H (O1 ++ O2) (v :: vs) (t :: ts)
inductive StVO (F H : Hp) : List Addr → List V → List (Option T) → Prop
  | nil : StVO F H [] [] []
  | un {O2 : List Addr} {v : V} {vs : List V} {ts : List (Option T)} : StVO F H O2 vs ts → StVO F H O2 (v :: vs) (none :: ts)
  | cons {O1 O2 : List Addr} {v : V} {t : T} {vs : List V} {ts : List (Option T)} : Ow F H O1 v t → StVO F H O2 vs ts → StVO F H (O1 ++ O2) (v :: vs) (some t :: ts)
theorem StV.len {F H : Hp} : ∀ {O : List Addr} {vs : List V} {ts : List T}, StV F H O vs ts → vs.length = ts.length
  | _, _, _, .nil => rfl
  | _, _, _, .cons _ r => congrArg (· + 1) r.len

/-- an error: its class, its fields -/
structure Ex where
  C : Addr
  fs : List (Str × D)
inductive RpF (F : Hp) : List (Str × V) → List (Str × D) → Prop
  | nil : RpF F [] []
  | cons {n : Str} {v : V} {d : D} {vs : List (Str × V)} {ds : List (Str × D)} : Rp F v d → RpF F vs ds → RpF F ((n, v) :: vs) ((n, d) :: ds)
theorem RpF.mono {F F' : Hp} (s : Same F F') : ∀ {v : List (Str × V)} {d : List (Str × D)}, RpF F v d → RpF F' v d
  | _, _, .nil => .nil
  | _, _, .cons h r => .cons (h.mono s) (RpF.mono s r)
def ExAt (F : Hp) (ex : Ex) (cls : Value) (d : Option Addr) : Prop := cls = .ref ex.C ∧ ((d = none ∧ ex.fs = []) ∨ ∃ dd vfs, d = some dd ∧ F dd = some (.xd vfs) ∧ RpF F vfs ex.fs)

/-- what a def promises: its arguments; what is wanted of its answer and of what the arguments hold then; of an error -/
abbrev Spc := List T → (T → List (Option T) → Prop) → (Ex → List (Option T) → Prop) → Prop
structure FnG (P : Program) (w : World) (K : PySem.W.Frag) (mg : Str → Option Value) (base : Heap) (Tq : List (Addr × Str)) (k : Nat) (f : Addr) (fd : FuncData) (ps : List Str) (sp : Spc) : Prop where
  len : ∀ ts Q E, sp ts Q E → ts.length = ps.length
  run : ∀ (A : Around) (outer : List PySem.Env) (s : Shared) (H : Hp) (args : Args) (us : List Value) (vs : List V) (F : Hp) (O : List Addr) (ts : List T) (QT : T → List (Option T) → Prop) (ET : Ex → List (Option T) → Prop) (E : XK) (tbs : TabZ Tq H F O),
    Room k A → A.guards = some [] → Env0 P w K mg base A outer s H → BindsTo s fd args (ps.zip us) → Vals vs us → Bas ⟨H, F, O, tbs⟩ F H O → StV F H O vs ts → sp ts QT ET →
    (∀ ex ts' cls d H' F' O', Bas ⟨H, F, O, tbs⟩ F' H' O' → StVO F' H' O' vs ts' → ExAt F' ex cls d → ET ex ts' → E cls d H') →
    codeAny (model P w) A (.call (.ref f) args) (CR (L2.CX P w) outer P w H s (fun v H' => ∃ F' O1 O2 t ts', Bas ⟨H, F, O, tbs⟩ F' H' (O1 ++ O2) ∧ StVO F' H' O1 vs ts' ∧ Ow F' H' O2 v t ∧ QT t ts') E) s
theorem FnG.mono {P : Program} {w : World} {K : PySem.W.Frag} {mg : Str → Option Value} {base : Heap} {Tq : List (Addr × Str)} {j k : Nat} {f : Addr} {fd : FuncData} {ps : List Str} {sp : Spc} (G : FnG P w K mg base Tq j f fd ps sp) (h : j ≤ k) : FnG P w K mg base Tq k f fd ps sp :=
  ⟨G.len, fun A outer s H args us vs F O ts QT ET E tbs hr => G.run A outer s H args us vs F O ts QT ET E tbs (hr.mono h)⟩

/-! ### the arguments taken, and put back -/
def deref : List A → Env → (List T → Env → Prop) → Prop
  | [], env, k => k [] env
  | .va d :: as, env, k => deref as env fun ts e => k (.va d :: ts) e
  | .bor a i p :: as, env, k => match getP i p env with
    | some t => t.addr = some a ∧ deref as (setP i p (.hole a) env) fun ts e => k (t :: ts) e
    | none => False
def putb : List A → List (Option T) → Env → (Env → Prop) → Prop
  | [], _, env, k => k env
  | .va _ :: as, _ :: ts, env, k => putb as ts env k
  | .bor a i p :: as, some t :: ts, env, k => getP i p env = some (.hole a) ∧ t.addr = some a ∧ putb as ts (setP i p t env) k
  | _, _, _, _ => False
theorem deref_ok {σ : L2.St} {F H : Hp} : ∀ {as : List A} {vs : List V} {O : List Addr} {env : Env} {k : List T → Env → Prop}, StAs F vs as → OwE F H O σ env → deref as env k →
    ∃ ts e Oc Or, O.Perm (Oc ++ Or) ∧ StV F H Oc vs ts ∧ OwE F H Or σ e ∧ k ts e
  | [], _, O, env, k, .nil, o, h => ⟨[], env, [], O, List.Perm.refl _, .nil, o, h⟩
  | .va d :: as, _, O, env, k, .cons st r, o, h => by
    obtain ⟨ts, e, Oc, Or, p, s, o', q⟩ := deref_ok r o h
    exact ⟨.va d :: ts, e, [] ++ Oc, Or, p, .cons (.va st) s, o', q⟩
  | .bor a i p :: as, _, O, env, k, .cons st r, o, h => by
    unfold deref at h
    cases hg : getP i p env with
    | none => rw [hg] at h; exact h.elim
    | some t =>
      rw [hg] at h
      obtain ⟨w, ⟨Oj, O', h1, h2, h3⟩, _⟩ := o.focus hg
      have hw := h1.ref h.1
      have st : _ = V.ref a := st
      subst st hw
      obtain ⟨O'', q1, q2⟩ := h3 F H [] (.hole a) (Same.refl _) (fun _ _ => rfl) .hole
      obtain ⟨ts, e, Oc, Or, p', s, o', q⟩ := deref_ok r q1 h.2
      refine ⟨t :: ts, e, Oj ++ Oc, Or, ?_, .cons h1 s, o', q⟩
      rw [List.append_assoc]
      exact h2.trans ((q2.symm.trans p').append_left Oj)
theorem putb_ok {σ : L2.St} {F F0 H : Hp} : ∀ {as : List A} {vs : List V} {ts : List (Option T)} {Oc Or : List Addr} {env : Env} {k : Env → Prop}, StAs F0 vs as → StVO F H Oc vs ts → OwE F H Or σ env → putb as ts env k →
    ∃ e O3 Od, OwE F H O3 σ e ∧ (Oc ++ Or).Perm (O3 ++ Od) ∧ k e
  | [], _, _, _, Or, env, k, .nil, .nil, o, h => ⟨env, Or, [], o, by rw [List.append_nil]; exact List.Perm.refl _, h⟩
  | .va d :: as, _, _, _, Or, env, k, .cons _ r, .un s, o, h => by
    obtain ⟨e, O3, Od, o', p, q⟩ := putb_ok r s o h
    exact ⟨e, O3, Od, o', p, q⟩
  | .va d :: as, _, _, _, Or, env, k, .cons _ r, .cons (O1 := O1) (O2 := O2) _ s, o, h => by
    obtain ⟨e, O3, Od, o', p, q⟩ := putb_ok r s o h
    refine ⟨e, O3, O1 ++ Od, o', ?_, q⟩
    rw [List.append_assoc, ← List.append_assoc O3]
    exact (p.append_left O1).trans (by rw [← List.append_assoc]; exact List.perm_append_comm.append_right Od)
  | .bor a i p :: as, _, _, _, Or, env, k, .cons st r, .un s, o, h => h.elim
  | .bor a i p :: as, _, _, _, Or, env, k, .cons st r, .cons (O1 := O1) (O2 := O2) w s, o, h => by
    obtain ⟨hg, ha, h⟩ := h
    obtain ⟨w', ⟨Oj, O', h1, h2, h3⟩, _⟩ := o.focus hg
    have st : _ = V.ref a := st
    subst st
    cases h1
    obtain ⟨O'', q1, q2⟩ := h3 F H O1 _ (Same.refl _) (fun _ _ => rfl) w
    obtain ⟨e, O3, Od, o', p', q⟩ := putb_ok r s q1 h
    refine ⟨e, O3, Od, o', ?_, q⟩
    refine List.Perm.trans ?_ p'
    have e1 : (O2 ++ O'').Perm (O2 ++ (O1 ++ Or)) := (q2.trans (h2.symm.append_left O1 |>.trans (List.Perm.refl _))).append_left O2
    refine List.Perm.trans ?_ e1.symm
    rw [← List.append_assoc]
    exact List.perm_append_comm.append_right Or
def callD (sp : Spc) (as : List A) (env : Env) (PT : T → Env → Prop) (ET : Ex → Env → Prop) : Prop :=
  deref as env fun ts e2 => sp ts (fun t ts' => putb as ts' e2 fun e3 => PT t e3) (fun ex ts' => putb as ts' e2 fun e3 => ET ex e3)
/-- what is wanted of an error, with the slots -/
def wxOf {Tq : List (Addr × Str)} (Z : Zb Tq) (ET : Ex → Env → Prop) : WX := fun cls d σ H => ∃ F O env ex, Bas Z F H O ∧ OwE F H O σ env ∧ ExAt F ex cls d ∧ ET ex env

section
variable {Tq : List (Addr × Str)} {Z : Zb Tq} {X : Cx} {env : Env} {P : R → Env → Prop} {ET : Ex → Env → Prop}
theorem call_g {k : Nat} {f : Addr} {fd : FuncData} {ps : List Str} {sp : Spc} {as : List A} {vs : List V} {us us0 : List Value} {kw : List (Str × Value)} {pins : List (Addr × Obj)} {s : Shared} {σ : L2.St} {H F : Hp} {O : List Addr}
    (G : FnG X.prog X.w X.K X.mg X.base Tq k f fd ps sp) (hr : Room k X.A) (hg : X.A.guards = some []) (tk : Takes X (wxOf Z ET)) (hb : BindsTo s fd ⟨us0, kw⟩ (ps.zip us)) (I : Inv X pins σ H s) (b : Bas Z F H O) (o : OwE F H O σ env)
    (st : StAs F vs as) (r : Vals vs us) (h : callD sp as env (fun t e => P (.t t) e) ET) : wpAny (model X.prog X.w) X.A (call (.ref f) us0 kw) (EP X pins σ (Post Z σ H F O P)) X.xe s := by
  obtain ⟨ts, e2, Oc, Or, pm, sv, o2, h⟩ := deref_ok st o h
  have bc := (b.perm pm).left.entry
  have ex : ∀ c ∈ Or, Held H c := o2.held
  refine wpAny_call (codeAny_mono (G.run X.A X.stack s H ⟨us0, kw⟩ us vs F Oc ts _ _ (fun cls d H' => ∃ e ts' F' O', Bas ⟨H, F, Oc, (b.perm pm).left.tabs⟩ F' H' O' ∧ StVO F' H' O' vs ts' ∧ ExAt F' e cls d ∧ putb as ts' e2 fun e3 => ET e e3) (b.perm pm).left.tabs hr hg I.env0 hb r bc sv h
    fun e ts' cls d H' F' O' b' s' x' q => ⟨e, ts', F', O', b', s', x', q⟩) fun rs s' hq => ?_)
  have back : ∀ {F' H' : Hp} {O1 O2 : List Addr} {ts' : List (Option T)} {kk : Env → Prop}, Bas ⟨H, F, Oc, (b.perm pm).left.tabs⟩ F' H' (O1 ++ O2) → StVO F' H' O1 vs ts' → putb as ts' e2 kk →
      ∃ e3 O3, OwE F' H' O3 σ e3 ∧ Bas Z F' H' (O3 ++ O2) ∧ Frm Tq H F O H' F' (O3 ++ O2) ∧ kk e3 := fun {F' H' O1 O2 ts' kk} b' s' q => by
    have fr := b'.abs
    have b3 := Bas.frame fr (b.perm pm) b' ex
    have keep := fr.rest (R := Or) (pm.nodup b.nd) ex
    obtain ⟨e3, O3, Od, o3, p3, q3⟩ := putb_ok st s' (o2.stay fr.fz keep) q
    have p4 : ((O1 ++ O2) ++ Or).Perm ((O3 ++ O2) ++ Od) := by
      have e1 : ((O1 ++ O2) ++ Or).Perm ((O1 ++ Or) ++ O2) := by
        rw [List.append_assoc, List.append_assoc]
        exact List.perm_append_comm.append_left O1
      have e2 : ((O3 ++ O2) ++ Od).Perm ((O3 ++ Od) ++ O2) := by
        rw [List.append_assoc, List.append_assoc]
        exact List.perm_append_comm.append_left O3
      exact e1.trans ((p3.append_right O2).trans e2.symm)
    exact ⟨e3, O3, o3, (b3.perm p4).left, (fr.frame (R := Or)).perm (fun c => pm.symm.mem_iff) (fun c hc => p4.mem_iff.mpr (List.mem_append_left _ hc)), q3⟩
  cases rs with
  | error e =>
    refine tk e s' (XE.of_call I (fun cls d H' hE => ?_) hq)
    obtain ⟨x, ts', F', O', b', sv', xa, q⟩ := hE
    obtain ⟨e3, O3, o3, b3, fr3, q3⟩ := back (O2 := []) (by rw [List.append_nil]; exact b') sv' q
    rw [List.append_nil] at b3 fr3
    exact ⟨F', O3, e3, x, b3, o3, xa, q3⟩
  | ok fl =>
    cases fl with
    | ret u =>
      refine EP.imp (fun v H' q => ?_) u s' (I.after hq)
      obtain ⟨F', O1, O2, t, ts', b', sv', w', q⟩ := q
      obtain ⟨e3, O3, o3, b3, fr3, q3⟩ := back b' sv' q
      exact ⟨F', O3 ++ O2, .t t, e3, b3, ⟨O3, O2, rfl, o3, w'⟩, fr3, q3⟩
    | next => exact hq.elim
    | brk => exact hq.elim
    | cont => exact hq.elim

/-! ### f(a, ..), f(a, .., k = b, ..) -/
/-- the parameters in their order, from what is written by place (us) and by name (ws, names ks): g and its twins over data -/
structure KwB (K : PySem.W.Frag) (fd : FuncData) (ps ks : List Str) (n m : Nat) (g : {α : Type} → List α → List α → (List α)) (ds : List Value) (dds : List D) : Prop where
  to : ∀ (s : Shared) (us ws : List Value), K.In s.heap → us.length = n → ws.length = m → BindsTo s fd ⟨us, ks.zip ws⟩ (ps.zip (g us ws ++ ds))
variable {x : Str} {p pos : Pos} {e : Expr} {es : List Expr}
def vaAll (ds : List D) : List A := ds.map A.va
theorem w_call {k : Nat} {f : Addr} {fd : FuncData} {ps : List Str} {sp : Spc} {ds : List Value} {vds : List V} {dds : List D} (G : FnG X.prog X.w X.K X.mg X.base Tq k f fd ps sp) (hr : Room k X.A) (hgd : X.A.guards = some []) (tk : Takes X (wxOf Z ET))
    (hm : X.mg x = some (.ref f)) (hk : PySem.W.keepIn X.K (.ref f) = true) (hb : Binds X.K fd ps ds) (hd : Vals vds ds) (hdd : ∀ F : Hp, StAs F vds (vaAll dds)) (h : WAs Z X (e :: es) env fun as e1 => callD sp (as ++ vaAll dds) e1 (fun t e => P (.t t) e) ET)
    (hg : Gl X x := by rfl) (hdb : (x == ("__debug__" : Str)) = false := by decide) (he : starEach (e :: es) X.env = (false, eval e X.env) :: starEach es X.env := by rfl) (hpl : (backTo pos (starEach es X.env)).any (·.1) = false := by rfl) :
    WE Z X (.Call (.Name x p) (e :: es) [] pos) env P := fun pins s σ H F O I b o => by
  refine wpAny_Call_Name_kw (ld_glob I hg hm ?_ hdb)
  refine PySem.W.callWith_K (h₀ := X.base) I.ok.mod.kin hk (thn ((pa_As (Z := Z)).run pos pins s σ H (PostAs Z σ H F O _) I ⟨env, F, O, _, b, o, h, fun _ _ q => q⟩) fun us s1 ⟨vs, H1, I1, r, F1, O1, as, e1, b1, o1, st, fr, q⟩ => ⟨I1.kIn, ?_⟩) he hpl
  have sapp : ∀ {vs : List V} {as : List A}, StAs F1 vs as → StAs F1 (vs ++ vds) (as ++ vaAll dds) := fun {vs as} z => by
    induction z with
    | nil => exact hdd F1
    | cons a _ ih => exact .cons a ih
  have r2 : Vals (vs ++ vds) (us ++ ds) := r.append hd
  have hl : (us ++ ds).length = ps.length := by
    obtain ⟨ts, e2, Oc, Or, pm, sv, o2, hh⟩ := deref_ok (sapp st) o1 q
    rw [← r2.length, sv.len, G.len _ _ _ hh]
  exact thn (call_g (us0 := us) (kw := []) (us := us ++ ds) G hr hgd tk (hb s1 us I1.kIn hl) I1 b1 o1 (sapp st) r2 q) (EP.imp fun v H' q => q.from fr)
end

/-! ### a def's body -/
def startE (N : List Str) (ts : List T) : Env := ts.map some ++ List.replicate (N.length - ts.length) none
theorem StV.start {F H : Hp} {N : List Str} : ∀ {O : List Addr} {vs : List V} {ts : List T}, StV F H O vs ts → ∀ m, OwE F H O (vs.map some ++ List.replicate m none) (ts.map some ++ List.replicate m none)
  | _, _, _, .nil, m => by
    induction m with
    | zero => exact .nil
    | succ m ih => exact .un ih
  | _, _, _, .cons w r, m => .so w (r.start (N := N) m)
/-- what the parameters' slots hold at the end: what was handed in, as it is now -/
def back (ts : List T) (e : Env) (k : List (Option T) → Prop) : Prop := match ts, e with
  | t :: ts, u :: e => match t.addr with
    | none => back ts e fun r => k (none :: r)
    | some a => match u with
      | some u => u.addr = some a ∧ back ts e fun r => k (some u :: r)
      | none => False
  | _ :: _, [] => False
  | [], _ => k []
theorem back_ok {F F0 H0 H : Hp} : ∀ {O0 O : List Addr} {vs : List V} {ts : List T} {σ : L2.St} {e : Env} {k : List (Option T) → Prop}, StV F0 H0 O0 vs ts → OwE F H O σ e → back ts e k → ∃ O' Od ts', O.Perm (O' ++ Od) ∧ StVO F H O' vs ts' ∧ k ts'
  | _, O, _, _, _, _, k, .nil, o, h => ⟨[], O, [], List.Perm.refl _, .nil, by unfold back at h; exact h⟩
  | _, _, _, _, _, _, k, .cons w0 r0, .nil, h => h.elim
  | _, _, _, _, _, _, k, .cons (t := t0) w0 r0, .un r, h => by
    unfold back at h
    cases h0 : t0.addr with
    | none =>
      rw [h0] at h
      obtain ⟨O', Od, ts', p, s, q⟩ := back_ok r0 r h
      exact ⟨O', Od, _, p, .un s, q⟩
    | some a => rw [h0] at h; exact h.elim
  | _, _, _, _, _, _, k, .cons (t := t0) w0 r0, .so (O1 := O1) (t := t) w r, h => by
    unfold back at h
    cases h0 : t0.addr with
    | none =>
      rw [h0] at h
      obtain ⟨O', Od, ts', p, s, q⟩ := back_ok r0 r h
      refine ⟨O', O1 ++ Od, _, ?_, .un s, q⟩
      exact (p.append_left O1).trans (by rw [← List.append_assoc, ← List.append_assoc]; exact List.perm_append_comm.append_right Od)
    | some a =>
      rw [h0] at h
      obtain ⟨O', Od, ts', p, s, q⟩ := back_ok r0 r h.2
      have e1 := w0.ref h0
      have e2 := w.ref h.1
      subst e1 e2
      exact ⟨O1 ++ O', Od, _, by rw [List.append_assoc]; exact p.append_left O1, .cons w s, q⟩
def finP (QT : T → List (Option T) → Prop) (ts : List T) : Out → Prop
  | .ret t e => back ts e (QT t)
  | .nx e => back ts e (QT (.va .none))
  | _ => False
/-- the context of a def's body -/
abbrev BX (P : Program) (w : World) (K : PySem.W.Frag) (mg : Str → Option Value) (base : Heap) (N : List Str) (qual : Str) (st : Stmt) (f : Addr) (cdv : Value) (A : Around) (outer : List PySem.Env) (s : Shared) (H : Hp) (E : XK) : Cx :=
  cxOf (L2.CX P w) P w K mg base N qual (defScope st) f cdv A outer s H E
theorem fn_g {P : Program} {w : World} {K : PySem.W.Frag} {mg : Str → Option Value} {base : Heap} {Tq : List (Addr × Str)} {x qual : Str} {st : Stmt} {f : Addr} {fd : FuncData} {N ps : List Str} {k : Nat} {sp : Spc} (Fn : Fun K x qual st f fd) (S : FnScope N ps (defScope st)) (len : ∀ ts Q E, sp ts Q E → ts.length = ps.length)
    (hbody : ∀ (cdv : Value) (A : Around) (outer : List PySem.Env) (s : Shared) (H : Hp) (E : XK) (Z : Zb Tq) (ts : List T) (QT : T → List (Option T) → Prop) (ET : Ex → List (Option T) → Prop), Room k (BX P w K mg base N qual st f cdv A outer s H E).A → (BX P w K mg base N qual st f cdv A outer s H E).A.guards = some [] →
      PassesOwn (model P w) (BX P w K mg base N qual st f cdv A outer s H E).A (BX P w K mg base N qual st f cdv A outer s H E).env (BX P w K mg base N qual st f cdv A outer s H E).xe →
      Takes (BX P w K mg base N qual st f cdv A outer s H E) (wxOf Z fun ex e => back ts e (ET ex)) → sp ts QT ET → WSs Z (BX P w K mg base N qual st f cdv A outer s H E) (defBody st) (startE N ts) (finP QT ts)) : FnG P w K mg base Tq (k + 1) f fd ps sp := by
  obtain ⟨oc, od, kV, doc, pm, an, cdv, ct, osl, rfl, lk, hcd⟩ := Fn.ex
  refine ⟨len, fun A outer s H args us vs F O ts QT ET E tbs hr hg e0 hb r b sv hsp hE => ?_⟩
  have hl : vs.length = ps.length := sv.len.trans (len _ _ _ hsp)
  refine Att.call_fn (e0.mod.kin.keeps fun b o e => (e0.bs b o e).1) (e0.mod.nolimit.keeps fun b o e => (e0.bs b o e).1) lk hcd hr.depth hb ?_ (fun s1 ic => ?_) S.co S.gen S.kind
  · refine List.all_eq_true.mpr fun y hy => ?_
    rcases S.par y.1 (List.of_mem_zip hy).1 with q | q <;> rw [q] <;> rfl
  · have I : Inv (BX P w K mg base N qual st f cdv A outer s H E) [] (L2.start N vs) H s1 := inv_start S hr.hd e0 hl r ic
    have tk : Takes (BX P w K mg base N qual st f cdv A outer s H E) (wxOf ⟨H, F, O, tbs⟩ fun ex e => back ts e (ET ex)) := by
      refine (takes_of (X := BX P w K mg base N qual st f cdv A outer s H E) (E := E) rfl rfl rfl rfl).imp fun cls d σ H' ⟨F', O', env, ex, b', o', xa, q⟩ => ?_
      obtain ⟨O1, Od, ts', p1, s1, q⟩ := back_ok sv o' q
      exact hE ex _ cls d H' F' O1 (b'.perm p1).left s1 xa q
    have hgd : (BX P w K mg base N qual st f cdv A outer s H E).A.guards = some [] := hg
    have body := hbody cdv A outer s H E ⟨H, F, O, tbs⟩ ts QT ET (hr.deeper _) hgd (passes_of (X := BX P w K mg base N qual st f cdv A outer s H E) rfl) tk hsp
    have o0 : OwE F H O (L2.start N vs) (startE N ts) := by
      unfold L2.start startE
      rw [sv.len]
      exact sv.start (N := N) _
    refine wpAny_mono (body [] s1 (L2.start N vs) H F O I b o0) (fun fl s' hs => ?_) fun e s' hs => hs
    have fin : ∀ {σ' : L2.St} {H' F' : Hp} {O1 O2 : List Addr} {t : T} {e : Env} {v : V} {u : Value}, Inv (BX P w K mg base N qual st f cdv A outer s H E) [] σ' H' s' → RelV v u → Bas ⟨H, F, O, tbs⟩ F' H' (O1 ++ O2) → (∃ σ'', OwE F' H' O1 σ'' e) → Ow F' H' O2 v t → back ts e (QT t) →
        CE outer P w H s (fun v H' => ∃ F' O1 O2 t ts', Bas ⟨H, F, O, tbs⟩ F' H' (O1 ++ O2) ∧ StVO F' H' O1 vs ts' ∧ Ow F' H' O2 v t ∧ QT t ts') u s' := fun {σ' H' F' O1 O2 t e v u} J rv b' ⟨σ'', o'⟩ w' q => by
      obtain ⟨O3, Od, ts', p3, s3, q⟩ := back_ok sv o' q
      refine ⟨v, H', J.os, J.bare, J.base, J.hok, rv, F', O3, O2, t, _, ?_, s3, w', q⟩
      have p4 : (O1 ++ O2).Perm ((O3 ++ O2) ++ Od) := (p3.append_right O2).trans (by
        rw [List.append_assoc, List.append_assoc]
        exact List.perm_append_comm.append_left O3)
      exact (b'.perm p4).left
    cases fl with
    | ret u =>
      obtain ⟨v, σ', H', J, rv, F', O1, O2, σ'', t, e, b', o', w', _, q⟩ := hs
      exact fin J rv b' ⟨σ'', o'⟩ w' q
    | next =>
      obtain ⟨σ', H', J, F', O1, e, b', o', _, q⟩ := hs
      exact fin (v := V.non) (u := Value.none) (t := .va .none) (O2 := []) J rfl (by rw [List.append_nil]; exact b') ⟨_, o'⟩ (.va .non) q
    | brk =>
      obtain ⟨_, _, _, _, _, _, _, _, _, q⟩ := hs
      exact q.elim
    | cont =>
      obtain ⟨_, _, _, _, _, _, _, _, _, q⟩ := hs
      exact q.elim
end QL

/-! QG: subscripts, slices, items stored, pairs stored, calls of built-ins. -/
namespace QL
open PySem PySem.Spec PyProof.Rows L2

theorem mutL {Tq : List (Addr × Str)} {Z : Zb Tq} {F H : Hp} {O : List Addr} {σ : L2.St} {env : Env} {i : Nat} {p : List Str} {a : Addr} {ds : List D} (b : Bas Z F H O) (o : OwE F H O σ env) (hg : getP i p env = some (.lst a ds)) :
    ∃ xs, H a = some (.lst xs) ∧ RpA F xs ds ∧ ∀ ys es, RpA F ys es → ∃ O', Bas Z F (upd H a (.lst ys)) O' ∧ OwE F (upd H a (.lst ys)) O' σ (setP i p (.lst a es) env) ∧ Frm Tq H F O (upd H a (.lst ys)) F O' := by
  obtain ⟨w, ⟨Oj, O', h1, h2, h3⟩, _⟩ := o.focus hg
  cases h1 with
  | lst hH r =>
    refine ⟨_, hH, r, fun ys es r' => ?_⟩
    have nd := h2.nodup b.nd
    have ha : a ∈ O := h2.mem_iff.mpr (List.mem_append_left _ (List.mem_singleton.mpr rfl))
    have hn : ∀ c ∈ O', c ≠ a := fun c hc z => (List.nodup_append.mp nd).2.2 a (List.mem_singleton.mpr rfl) c hc z.symm
    obtain ⟨O'', q1, q2⟩ := h3 F (upd H a (.lst ys)) [a] (.lst a es) (Same.refl _) (fun c hc => upd_ne (hn c hc)) (.lst upd_same r')
    have pm : O.Perm O'' := h2.trans q2.symm
    have fr : Frm Tq H F O (upd H a (.lst ys)) F O'' := ⟨Same.refl _, fun c x e _ n => by rw [upd_ne fun z => n (by rw [z]; exact ha)]; exact e, fun c e => by
      by_cases z : c = a
      · subst z; rw [upd_same]; exact fun z => nomatch z
      · rw [upd_ne z]; exact e, fun c e => .inl e, fun c hc => .inl (pm.mem_iff.mpr hc), tab_own hH⟩
    have da := b.dis a ha
    refine ⟨O'', ⟨fun c x e => ?_, pm.nodup b.nd, fun c hc => b.dis c (pm.mem_iff.mpr hc), b.abs.trans fr⟩, q1, fr⟩
    rw [upd_ne fun z => by rw [z, da] at e; cases e]
    exact b.sub c x e

/-! ### subscripts -/
theorem RpA.at {F : Hp} {xs : List V} {ds : List D} {i : Int} {d : D} (r : RpA F xs ds) (h : atI ds i = some d) : ∃ v, atI xs i = some v ∧ Rp F v d := by
  unfold atI at h ⊢
  rw [r.len]
  cases hn : ixN ds.length i with
  | none => rw [hn] at h; cases h
  | some j => rw [hn] at h; exact r.get' h
def ixD (d1 d2 : D) (k : T → Prop) : Prop := match d1, d2 with
  | .list xs, .int i => ∃ d, atI xs i = some d ∧ k (.va d)
  | .tuple xs, .int i => ∃ d, atI xs i = some d ∧ k (.va d)
  | _, _ => False
section
variable {Tq : List (Addr × Str)} {Z : Zb Tq} {X : Cx} {e a b c o ix : Expr} {es : List Expr} {env : Env} {pos : Pos} {P : R → Env → Prop} {PO : Out → Prop}
theorem ixr : IxR X (rD ixD) := fun value slice pins s σ H x y v u Q I rx ry ⟨F, d1, d2, k, sF, w1, w2, hg, q⟩ hs => by
  refine ix_seq value slice pins s σ H x y v u Q I rx ry ?_ hs
  cases d1 with
  | list xs =>
    cases d2 with
    | int i =>
      obtain ⟨p, vs, rfl, h1, r1⟩ := w1.lst' sF
      cases w2.int
      obtain ⟨d, h3, h4⟩ := hg
      obtain ⟨z, h5, h6⟩ := r1.at h3
      exact .inl ⟨p, vs, i, z, rfl, rfl, SqL.of h1, h5, q _ _ (NewV.val sF h6 h4)⟩
    | _ => exact hg.elim
  | tuple xs =>
    cases d2 with
    | int i =>
      obtain ⟨p, vs, rfl, h1, r1⟩ := w1.tup
      cases w2.int
      obtain ⟨d, h3, h4⟩ := hg
      obtain ⟨z, h5, h6⟩ := r1.at h3
      exact .inr (.inl ⟨p, vs, i, z, rfl, rfl, (.inl (rd_mono sF h1)), h5, q _ _ (NewV.val sF h6 h4)⟩)
    | _ => exact hg.elim
  | _ => exact hg.elim
theorem w_ix (h : W2 Z X a b env fun d1 d2 e2 => ixD d1 d2 fun t => P (.t t) e2) (hs : PlainIx b := by intro _ _; rfl) : WE Z X (.Subscript a b pos) env P :=
  we_of (pe_ix ixr pe_A pe_A hs) fun σ H F O b0 o => w2_run b0 o h
/-- a slice's part -/
def PostO {Tq : List (Addr × Str)} (Z : Zb Tq) (σ : L2.St) (H0 F0 : Hp) (O0 : List Addr) (P : Option Int → Env → Prop) : Option Int → Hp → Prop := fun k H => ∃ F O env, Bas Z F H O ∧ OwE F H O σ env ∧ Frm Tq H0 F0 O0 H F O ∧ P k env
def WO {Tq : List (Addr × Str)} (Z : Zb Tq) (X : Cx) : Option Expr → Env → (Option Int → Env → Prop) → Prop
  | none, env, k => k none env
  | some e, env, k => WE Z X e env fun r e1 => ∃ i, r = .t (.va (.int i)) ∧ k (some i) e1
def tO {Tq : List (Addr × Str)} (Z : Zb Tq) (X : Cx) (e : Option Expr) : TO := fun σ H Q => ∃ env F O P, Bas Z F H O ∧ OwE F H O σ env ∧ WO Z X e env P ∧ ∀ v H', PostO Z σ H F O P v H' → Q v H'
theorem post_int {σ : L2.St} {H F0 H0 : Hp} {O0 : List Addr} {K : Int → Env → Prop} {v : V} (h : Post Z σ H0 F0 O0 (fun r e1 => ∃ k, r = .t (.va (.int k)) ∧ K k e1) v H) :
    ∃ k F O env, v = .int k ∧ Bas Z F H O ∧ OwE F H O σ env ∧ Frm Tq H0 F0 O0 H F O ∧ K k env := by
  obtain ⟨F1, O1, r, env1, b1, st, fr1, k, e1, h1⟩ := h
  subst e1
  obtain ⟨O1', O2, rfl, o1, ow⟩ := st
  cases ow with
  | va r =>
    cases r with
    | int k =>
      rw [List.append_nil] at b1 fr1
      exact ⟨k, F1, O1', env1, rfl, b1, o1, fr1, h1⟩
theorem po_O : ∀ {e : Option Expr}, L2.PO X e (tO Z X e)
  | none => ⟨fun pins s σ H Q I ⟨env, F, O, P, b, o, w, q⟩ => po_none.run pins s σ H Q I (q _ _ ⟨F, O, env, b, o, Frm.refl _ _ _, w⟩)⟩
  | some e => ⟨fun pins s σ H Q I ⟨env, F, O, P, b, o, w, q⟩ => (po_some (pe_E (Z := Z))).run pins s σ H Q I ⟨env, F, O, _, b, o, w, fun v H1 h => by
      obtain ⟨k, F1, O1, e1, rfl, b1, o1, fr, p⟩ := post_int h
      exact ⟨k, rfl, q _ _ ⟨F1, O1, e1, b1, o1, fr, p⟩⟩⟩⟩
def cutD (xs : List D) (lo hi : Option Int) : List D := (xs.drop (HT.sIx xs.length 0 lo)).take (HT.sIx xs.length xs.length hi - HT.sIx xs.length 0 lo)
theorem RpA.cut {F : Hp} {vs : List V} {ds : List D} (r : RpA F vs ds) (lo hi : Option Int) : RpA F (cutV vs lo hi) (cutD ds lo hi) := by
  unfold cutV cutD
  rw [r.len]
  exact (r.drop _).take _
def slD (d : D) (lo hi : Option Int) (k : T → Prop) : Prop := match d with
  | .list xs => ∀ p, k (.lst p (cutD xs lo hi))
  | .tuple xs => k (.va (.tuple (cutD xs lo hi)))
  | _ => False
def rSlD : V → Option Int → Option Int → Hp → VK → Prop := fun x lo hi H Q => ∃ F d k, Same F H ∧ Vw F H x d ∧ slD d lo hi k ∧ ∀ v H', NewV F H k v H' → Q v H'
theorem slr : SlR X rSlD := fun pins s σ H x v vl vu lo hi sl Q I rx hs pl pu ⟨F, d, k, sF, w, hg, q⟩ => by
  cases d with
  | list xs =>
    obtain ⟨p, vs, rfl, h1, r1⟩ := w.lst' sF
    exact sl_list pins s σ H _ v vl vu lo hi sl Q I rx hs pl pu ⟨p, vs, rfl, SqL.of h1, fun p' hp' => q _ _ (NewV.lst sF (r1.cut lo hi) hp' (hg p'))⟩
  | tuple xs =>
    obtain ⟨p, vs, rfl, h1, r1⟩ := w.tup
    refine sl_tupA pins s σ H _ v vl vu lo hi sl Q I rx hs pl pu ⟨p, vs, rfl, (.inl (rd_mono sF h1)), fun hw => ?_, fun _ p' hp' => q _ _ (NewV.tup sF (r1.cut lo hi) hp' hg)⟩
    have hx : cutD xs lo hi = xs := by
      unfold cutD
      rw [← r1.len, hw.1, hw.2, List.drop_zero, r1.len, Nat.sub_zero, List.take_length]
    unfold slD at hg
    simp only [hx] at hg
    exact q _ _ (NewV.val sF (.tup h1 r1) hg)
  | _ => exact hg.elim
theorem w_sl {lo hi : Option Expr} {p2 : Pos} (h : WA Z X a env fun a1 e1 => WO Z X lo e1 fun l e2 => WO Z X hi e2 fun u e3 => View a1 e3 fun d => slD d l u fun t => P (.t t) e3) : WE Z X (.Subscript a (.Slice lo hi none p2) pos) env P :=
  we_of (pe_slice slr pe_A po_O po_O) fun σ H F O b0 o => ⟨env, F, O, _, b0, o, h, fun v1 H1 ⟨F1, O1, a1, e1, b1, o1, st1, fr1, h1⟩ => ⟨e1, F1, O1, _, b1, o1, h1, fun l H2 ⟨F2, O2, e2, b2, o2, fr2, h2⟩ =>
    ⟨e2, F2, O2, _, b2, o2, h2, fun u H3 ⟨F3, O3, e3, b3, o3, fr3, h3⟩ => by
      obtain ⟨d, w, h4⟩ := View.vw h3 o3 (st1.mono (fr2.fz.trans fr3.fz))
      exact ⟨F3, d, _, b3.sub, w, h4, fun v H' n => (n.post b3 o3 fun t q => q).from ((fr1.trans fr2).trans fr3)⟩⟩⟩⟩

/-! ### an item stored -/
theorem ws_setix {sp : Pos} (h : WA Z X e env fun a1 e1 => WE Z X o e1 fun r e2 => ∃ a i p, r = .bor a i p ∧ WE Z X ix e2 fun r3 e3 => ∃ n, r3 = .t (.va (.int n)) ∧
      absorb [a1] e3 fun ds e4 => ∃ d ds0 j, ds = [d] ∧ getP i p e4 = some (.lst a ds0) ∧ ixN ds0.length n = some j ∧ PO (.nx (setP i p (.lst a (ds0.set j d)) e4)))
    (hs : swapsWithSole [.Subscript o ix sp] e pos.line X.env = pure false := by rfl) (hw : swappedStores [.Subscript o ix sp] e X.env = pure none := by rfl)
    (h1 : (assignEach [.Subscript o ix sp] X.env).map (·.2) = [assign (.Subscript o ix sp) X.env] := by rfl)
    (ha : ∀ v, assign (.Subscript o ix sp) X.env v = (do
      let ov ← holding [v] (eval o X.env)
      let iv ← holding [v, ov] (eval ix X.env)
      standAt sp
      holding [v, ov, iv] (setItem ov iv v)
      release [v, ov, iv] []) := by intro _; rfl) : WS Z X (.Assign [.Subscript o ix sp] e pos) env PO :=
  ws_of (ps_asg (pe_A (Z := Z)) (pg_sub (pe_E (Z := Z)) (pe_E (Z := Z)) set_list ha) hs hw h1) fun σ H F O b o => ⟨env, F, O, _, b, o, h, fun v H1 ⟨F1, O1, a1, e1, b1, o1, st1, fr1, p⟩ =>
    ⟨e1, F1, O1, _, b1, o1, p, fun ov H2 ⟨F2, O2, r, e2, b2, st2, fr2, a, i, q, er, p⟩ => by
      subst er
      obtain ⟨o2, eov⟩ := st2
      subst eov
      refine ⟨e2, F2, O2, _, b2, o2, p, fun iv H3 h3 => ?_⟩
      obtain ⟨n, F3, O3, e3, rfl, b3, o3, fr3, p⟩ := post_int h3
      obtain ⟨F4, O4, ds, e4, b4, o4, r4, fr4, d, ds0, j, hds, hg, hj, p⟩ := absorb_ok (.cons (st1.mono (fr2.fz.trans fr3.fz)) .nil) b3 o3 p
      subst hds
      cases r4 with
      | cons r4 rn =>
        obtain ⟨xs, hH, rx, upd'⟩ := mutL b4 o4 hg
        obtain ⟨O5, b5, o5, fr5⟩ := upd' (xs.set j v) (ds0.set j d) (rx.set r4 j)
        refine ⟨a, xs, n, j, rfl, rfl, hH, by rw [rx.len]; exact hj, ?_⟩
        exact ⟨F4, O5, _, b5, o5, (((fr1.trans fr2).trans fr3).trans fr4).trans fr5, p⟩⟩⟩

/-! ### x, y = e1, e2 -/
/-- two results, one after the other -/
def parP {Tq : List (Addr × Str)} (Z : Zb Tq) (X : Cx) (b : Expr) (i j : Nat) (k : Env → Prop) (r1 : R) (e1 : Env) : Prop := ∃ t1, r1 = .t t1 ∧ WE Z X b e1 fun r2 e2 => ∃ t2, r2 = .t t2 ∧ i < e2.length ∧ j < e2.length ∧ k ((e2.set i (some t1)).set j (some t2))
theorem ws_par (i j : Nat) {x y : Str} {px py pt : Pos} {kt k2 pt2} (hc : X.calm = true) (hN : X.N.Nodup) (h : WE Z X a env (parP Z X b i j fun e => PO (.nx e)))
    (hi : X.N[i]? = some x := by rfl) (hj : X.N[j]? = some y := by rfl) (hij : i ≠ j := by decide) (hx : X.env.scope.names.lookup x = some .local := by rfl) (hy : X.env.scope.names.lookup y = some .local := by rfl)
    (hw : swappedStores [.Tuple [.Name x px, .Name y py] kt pt] (.Tuple [a, b] k2 pt2) X.env = pure (some [x, y]) := by rfl)
    (hs : swapsWithSole [.Tuple [.Name x px, .Name y py] kt pt] (.Tuple [a, b] k2 pt2) pos.line X.env = pure false := by rfl) (hs1 : starEach [a, b] X.env = (false, eval a X.env) :: starEach [b] X.env := by rfl) (hs2 : starEach [b] X.env = (false, eval b X.env) :: starEach [] X.env := by rfl) :
    WS Z X (.Assign [.Tuple [.Name x px, .Name y py] kt pt] (.Tuple [a, b] k2 pt2) pos) env PO :=
  ws_of (ps_par hc hN hi hj hij hx hy (pa_cons (pe_E (Z := Z)) (pa_cons (pe_E (Z := Z)) pa_nil hs2) hs1) hw hs) fun σ H F O b0 o => by
    refine ⟨env, F, O, _, b0, o, h, fun v1 H1 ⟨F1, O1, r1, e1, b1, st1, fr1, t1, er1, p⟩ => ?_⟩
    subst er1
    obtain ⟨Oa, Ob, rfl, o1, w1⟩ := st1
    refine ⟨e1, F1, Oa, _, b1.left, o1, p, fun v2 H2 ⟨F2, O2, r2, e2, b2, st2, fr2, t2, er2, li, lj, p⟩ => ?_⟩
    subst er2
    obtain ⟨Oc, Od, rfl, o2, w2⟩ := st2
    have ex : ∀ c ∈ Ob, Held H1 c := w1.held
    have b3 := Bas.frame fr2 b1 b2 ex
    have w3 : Ow F2 H2 Ob v1 t1 := w1.stay fr2.fz (fr2.rest b1.nd ex)
    obtain ⟨O5, Oe, o5, p5⟩ := o2.set i w3 li
    obtain ⟨O6, Of, o6, p6⟩ := o5.set j w2 (by rw [List.length_set]; exact lj)
    have pm : ((Oc ++ Od) ++ Ob).Perm (O6 ++ (Of ++ Oe)) := by
      have z1 : ((Oc ++ Od) ++ Ob).Perm (Od ++ (Ob ++ Oc)) := by
        rw [List.append_assoc]
        refine (List.perm_append_comm (l₁ := Oc)).trans ?_
        rw [List.append_assoc]
      refine z1.trans ((p5.append_left Od).trans ?_)
      rw [← List.append_assoc, ← List.append_assoc]
      exact p6.append_right Oe
    have fr3 : Frm Tq H F O H2 F2 ((Oc ++ Od) ++ Ob) := fr1.trans fr2.frame
    refine ⟨v1, v2, rfl, F2, O6, _, (b3.perm pm).left, o6, fr3.perm (fun _ => Iff.rfl) fun c hc => pm.mem_iff.mpr (List.mem_append_left _ hc), p⟩

/-! ### built-in functions -/
def DCall (X : Cx) (f : Value) (g : List D → (T → Prop) → Prop) : Prop :=
  ∀ (pins : List (Addr × Obj)) (s : Shared) (σ : L2.St) (H F : Hp) (vs : List V) (us : List Value) (ds : List D) (k : T → Prop), Inv X pins σ H s → Same F H → Vws F H vs ds → Vals vs us → g ds k →
    wpAny (model X.prog X.w) X.A (call f us) (EP X pins σ (NewV F H k)) X.xe s
def rC (g : List D → (T → Prop) → Prop) : List V → Hp → VK → Prop := fun vs H Q => ∃ F ds k, Same F H ∧ Vws F H vs ds ∧ g ds k ∧ ∀ v H', NewV F H k v H' → Q v H'
theorem DCall.r {f : Value} {g : List D → (T → Prop) → Prop} (h : DCall X f g) : CallR X f (rC g) := fun pins s σ H vs us Q I r ⟨F, ds, k, sF, ws, hg, q⟩ => thn (h pins s σ H F vs us ds k I sF ws r hg) (EP.imp q)
theorem DCall.of {f : Value} {g : List D → (T → Prop) → Prop} {r : List V → Hp → VK → Prop} (hc : CallR X f r) (q : ∀ H F vs ds k, Same F H → Vws F H vs ds → g ds k → r vs H (NewV F H k)) : DCall X f g :=
  fun pins s σ H F vs us ds k I sF ws rv hg => hc pins s σ H vs us _ I rv (q H F vs ds k sF ws hg)
theorem callD_post {g : List D → (T → Prop) → Prop} {σ : L2.St} {H F : Hp} {O : List Addr} {t : TA} (b0 : Bas Z F H O) (o : OwE F H O σ env)
    (h : WAs Z X es env fun as e1 => Views as e1 fun ds => g ds fun t => P (.t t) e1) : tCB (rC g) (tAs Z X es) σ H (Post Z σ H F O P) :=
  ⟨env, F, O, _, b0, o, h, fun vs H1 ⟨F1, O1, as, e1, b1, o1, st, fr, p⟩ => by
    obtain ⟨ds, ws, q⟩ := Views.vws o1 st p
    exact ⟨F1, ds, _, b1.sub, ws, q, fun v H' n => (n.post b1 o1 fun t q => q).from fr⟩⟩
theorem w_callB {g : List D → (T → Prop) → Prop} {x : Str} {id : String} {p : Pos} (hc : DCall X (.builtin id) g) (hm : X.mg x = none) (hv : bootBuiltins x = some (.builtin id)) (h : WAs Z X (e :: es) env fun as e1 => Views as e1 fun ds => g ds fun t => P (.t t) e1)
    (hg : Gl X x := by rfl) (hn : x ≠ "__name__" := by decide) (hdb : (x == ("__debug__" : Str)) = false := by decide)
    (he : starEach (e :: es) X.env = (false, eval e X.env) :: starEach es X.env := by rfl) (hpl : (backTo pos (starEach es X.env)).any (·.1) = false := by rfl) : WE Z X (.Call (.Name x p) (e :: es) [] pos) env P :=
  we_of (pe_callB hc.r hg hm hv pa_As hn hdb he hpl) fun σ H F O b0 o => callD_post (t := tNil) b0 o h
theorem w_callTy {g : List D → (T → Prop) → Prop} {x : Str} {id : String} {p : Pos} (hc : DCall X (.type id) g) (hm : X.mg x = none) (hv : bootBuiltins x = some (.type id)) (h : WAs Z X (e :: es) env fun as e1 => Views as e1 fun ds => g ds fun t => P (.t t) e1)
    (hg : Gl X x := by rfl) (hn : x ≠ "__name__" := by decide) (hdb : (x == ("__debug__" : Str)) = false := by decide)
    (he : starEach (e :: es) X.env = (false, eval e X.env) :: starEach es X.env := by rfl) (hpl : (backTo pos (starEach es X.env)).any (·.1) = false := by rfl) : WE Z X (.Call (.Name x p) (e :: es) [] pos) env P :=
  we_of (pe_callTy hc.r hg hm hv pa_As hn hdb he hpl) fun σ H F O b0 o => callD_post (t := tNil) b0 o h

theorem Vws.one {F H : Hp} {vs : List V} {d : D} (h : Vws F H vs [d]) : ∃ v, vs = [v] ∧ Vw F H v d := by
  cases h with | cons w r => cases r; exact ⟨_, rfl, w⟩
theorem Vws.two {F H : Hp} {vs : List V} {d d' : D} (h : Vws F H vs [d, d']) : ∃ v v', vs = [v, v'] ∧ Vw F H v d ∧ Vw F H v' d' := by
  cases h with | cons w r => cases r with | cons w' r => cases r; exact ⟨_, _, rfl, w, w'⟩
def lenG (ds : List D) (k : T → Prop) : Prop := match ds with
  | [.list xs] => k (.va (.int xs.length))
  | [.tuple xs] => k (.va (.int xs.length))
  | _ => False
theorem dc_len : DCall X (.builtin "len") lenG := .of call_len_seq fun H F vs ds k sF ws h => by
  unfold lenG at h
  split at h
  · obtain ⟨v, rfl, w⟩ := ws.one
    obtain ⟨p, xs, rfl, h1, r1⟩ := w.lst' sF
    exact ⟨p, xs, rfl, .inl (SqL.of h1), NewV.val sF (.int _) (by rw [r1.len]; exact h)⟩
  · obtain ⟨v, rfl, w⟩ := ws.one
    obtain ⟨p, xs, rfl, h1, r1⟩ := w.tup
    exact ⟨p, xs, rfl, .inr ((.inl (rd_mono sF h1))), NewV.val sF (.int _) (by rw [r1.len]; exact h)⟩
  · exact h.elim
def absG (ds : List D) (k : T → Prop) : Prop := match ds with
  | [.int i] => k (.va (.int i.natAbs))
  | _ => False
theorem dc_abs : DCall X (.builtin "abs") absG := .of call_abs fun H F vs ds k sF ws h => by
  unfold absG at h
  split at h
  · rename_i i
    obtain ⟨v, rfl, w⟩ := ws.one
    cases w.int
    have e : (if i < 0 then -i else i) = (i.natAbs : Int) := by split <;> omega
    exact ⟨i, rfl, NewV.val sF (.int _) (by rw [e]; exact h)⟩
  · exact h.elim
def int1G (ds : List D) (k : T → Prop) : Prop := match ds with
  | [.int i] => k (.va (.int i))
  | [.bool b] => k (.va (.int (if b then 1 else 0)))
  | _ => False
theorem dc_int : DCall X (.type "int") int1G := .of call_int1 fun H F vs ds k sF ws h => by
  unfold int1G at h
  split at h
  · obtain ⟨v, rfl, w⟩ := ws.one
    cases w.int
    exact .inl ⟨_, rfl, NewV.val sF (.int _) h⟩
  · obtain ⟨v, rfl, w⟩ := ws.one
    cases w.bl
    exact .inr ⟨_, rfl, NewV.val sF (.int _) h⟩
  · exact h.elim
def minG (ds : List D) (k : T → Prop) : Prop := match ds with
  | [.int i, .int j] => k (.va (.int (min i j)))
  | _ => False
theorem dc_min2 (hc : X.calm = true) : DCall X (.builtin "min") minG := .of (call_min2 hc) fun H F vs ds k sF ws h => by
  unfold minG at h
  split at h
  · rename_i i j
    obtain ⟨v, v', rfl, w, w'⟩ := ws.two
    cases w.int
    cases w'.int
    have e : (if j < i then j else i) = min i j := by split <;> omega
    exact ⟨i, j, rfl, NewV.val sF (.int _) (by rw [e]; exact h)⟩
  · exact h.elim
def maxG (ds : List D) (k : T → Prop) : Prop := match ds with
  | [.int i, .int j] => k (.va (.int (max i j)))
  | _ => False
theorem dc_max2 (hc : X.calm = true) : DCall X (.builtin "max") maxG := .of (call_max2 hc) fun H F vs ds k sF ws h => by
  unfold maxG at h
  split at h
  · rename_i i j
    obtain ⟨v, v', rfl, w, w'⟩ := ws.two
    cases w.int
    cases w'.int
    have e : (if j > i then j else i) = max i j := by split <;> omega
    exact ⟨i, j, rfl, NewV.val sF (.int _) (by rw [e]; exact h)⟩
  · exact h.elim
def tupG (ds : List D) (k : T → Prop) : Prop := match ds with
  | [.list xs] => k (.va (.tuple xs))
  | [.tuple xs] => k (.va (.tuple xs))
  | _ => False
theorem dc_tuple : DCall X (.type "tuple") tupG := .of call_tuple_of fun H F vs ds k sF ws h => by
  unfold tupG at h
  split at h
  · obtain ⟨v, rfl, w⟩ := ws.one
    obtain ⟨p, xs, rfl, h1, r1⟩ := w.lst' sF
    exact ⟨p, xs, rfl, .inl ⟨SqL.of h1, fun l hl => NewV.tup sF r1 hl h⟩⟩
  · obtain ⟨v, rfl, w⟩ := ws.one
    obtain ⟨p, xs, rfl, h1, r1⟩ := w.tup
    exact ⟨p, xs, rfl, .inr ⟨(.inl (rd_mono sF h1)), NewV.val sF (.tup h1 r1) h⟩⟩
  · exact h.elim
def allG (ds : List D) (k : T → Prop) : Prop := ∃ bs : List Bool, ds = [.list (bs.map .bool)] ∧ k (.va (.bool (bs.all id)))
theorem dc_all (hc : X.calm = true) : DCall X (.builtin "all") allG := .of (cr_all hc) fun H F vs ds k sF ws ⟨bs, e, h⟩ => by
  subst e
  obtain ⟨v, rfl, w⟩ := ws.one
  obtain ⟨p, xs, rfl, h1, r1⟩ := w.lst' sF
  exact ⟨p, bs, rfl, by rw [← r1.bls]; exact SqL.of h1, NewV.val sF (.bl _) h⟩
end
end QL

/-! QH: what is shown, isinstance, chains, dict displays, calls by name, the script. -/
namespace QL
open PySem PySem.Spec PyProof.Rows L2

section
variable {X : Cx}
theorem far (hb : (X.base.get? sysModules).isSome = true) {pins : List (Addr × Obj)} {σ : L2.St} {H : Hp} {s : Shared} (I : Inv X pins σ H s) {a : Addr} {o : HO} (h : H a = some o) : sysModules ≠ a := fun e => by
  obtain ⟨ob, ho⟩ := Option.isSome_iff_exists.mp hb
  have := (I.bs _ _ ho).2
  rw [e, h] at this
  cases this

/-! ### repr -/
def showOk (d : D) : Prop := d.showable = true ∧ d.depth ≤ 100 ∧ d.shown.length ≤ sizeLine
/-! ### isinstance(x, T) -/
def tyD : D → String
  | .none => "NoneType"
  | .bool _ => "bool"
  | .int _ => "int"
  | .str _ => "str"
  | .list _ => "list"
  | .tuple _ => "tuple"
  | .dict _ => "dict"
theorem Vw.ty {K : PySem.W.Frag} {F H : Hp} {v : V} {d : D} (sF : Same F H) (w : Vw F H v d) : TyX K H v (.type (tyD d)) := by
  have r := w.rp sF
  cases r with
  | non => exact .base .non
  | bl b => exact .base (.bl b)
  | int i => exact .base (.int i)
  | str x => exact .base (.str x)
  | lst h _ => exact .base (.lst h)
  | tup h _ =>
    rcases h with h | ⟨o, h⟩
    · exact .base (.tup h)
    · exact .fTuple h
  | dic h _ =>
    rcases h with h | ⟨o, h⟩
    · exact .base (.dK h)
    · exact .fDict h
variable {Tq : List (Addr × Str)} {Z : Zb Tq} {e a b c o ix : Expr} {es : List Expr} {env : Env} {pos : Pos} {P : R → Env → Prop} {PO : Out → Prop}
/-! ### tuple * int -/
theorem dop_mulT : DOp X (binaryOp .Mult) (fun d1 d2 k => match d1, d2 with
    | .tuple xs, .int n => xs ≠ [] ∧ xs.length ≤ 1000 ∧ 2 ≤ n ∧ n ≤ 1000 ∧ k (.va (.tuple (List.replicate n.toNat xs).flatten))
    | _, _ => False) := by
  intro pins s σ H F v1 v2 u1 u2 d1 d2 k I sF w1 w2 r1 r2 hg
  split at hg
  · rename_i xs n
    obtain ⟨p, vs, rfl, h1, q1⟩ := w1.tup
    cases w2.int
    obtain ⟨hne, hl, h2, h3, hk⟩ := hg
    refine op_repT pins s σ H _ _ u1 u2 _ I r1 r2 ⟨p, n, vs, rfl, rfl, (.inl (rd_mono sF h1)), fun z => ?_, h2, h3, by rw [q1.len]; exact hl, fun p hp => NewV.tup sF (q1.rep _) hp hk⟩
    subst z
    cases q1
    exact hne rfl
  · exact hg.elim

/-! ### {}, {'a': x} -/
theorem NewV.dic {F H : Hp} {k : T → Prop} {p : Addr} {xs : List (Key × V)} {ds : List (Key × D)} (b : Same F H) (r : RpT F xs ds) (n : H p = none) (h : k (.dic p ds)) : NewV F H k (.ref p) (upd H p (.dK xs)) := by
  refine ⟨F, [p], .dic p ds, Same.refl _, same_new n, b.trans (same_new n), fun _ z => .inl z, List.nodup_cons.mpr ⟨fun z => (nomatch z), List.nodup_nil⟩, fun a ha => ?_, .dic upd_same r, h⟩
  rw [List.mem_singleton.mp ha]
  exact ⟨n, b.free n⟩
theorem w_dict0 (h : ∀ p, P (.t (.dic p [])) env) : WE Z X (.Dict [] [] pos) env P := we_of pe_dnewK fun σ H F O b o p hp => (NewV.dic b.sub .nil hp (k := fun t => t = .dic p []) rfl).post b o fun t e => by subst e; exact h p
/-! ### calls by name alone: f(b = e2, a = e1) -/
def pick {α : Type} (ns : List Nat) (xs : List α) : List α := ns.filterMap (xs[·]?)
theorem StAs.get {F : Hp} : ∀ {vs : List V} {as : List A} (i : Nat), StAs F vs as → (vs[i]? = none ∧ as[i]? = none) ∨ ∃ v a, vs[i]? = some v ∧ as[i]? = some a ∧ StA F v a
  | _, _, _, .nil => .inl ⟨rfl, rfl⟩
  | _, _, 0, .cons h r => .inr ⟨_, _, rfl, rfl, h⟩
  | _, _, i + 1, .cons h r => r.get i
theorem StAs.pick {F : Hp} {vs : List V} {as : List A} (h : StAs F vs as) : ∀ ns : List Nat, StAs F (QL.pick ns vs) (QL.pick ns as)
  | [] => .nil
  | n :: ns => by
    unfold QL.pick
    rcases h.get n with ⟨e1, e2⟩ | ⟨v, a, e1, e2, r⟩
    · rw [List.filterMap_cons_none e1, List.filterMap_cons_none e2]
      exact h.pick ns
    · rw [List.filterMap_cons_some e1, List.filterMap_cons_some e2]
      exact .cons r (h.pick ns)
theorem vals_pick {vs : List V} {us : List Value} (h : Vals vs us) : ∀ ns : List Nat, Vals (pick ns vs) (pick ns us)
  | [] => .nil
  | n :: ns => by
    unfold pick
    cases hv : vs[n]? with
    | none =>
      have hu : us[n]? = none := by
        rw [List.getElem?_eq_none_iff] at hv ⊢
        rw [← h.length]; exact hv
      rw [List.filterMap_cons_none hv, List.filterMap_cons_none hu]
      exact vals_pick h ns
    | some v =>
      obtain ⟨u, hu, r⟩ := h.get hv
      rw [List.filterMap_cons_some hv, List.filterMap_cons_some hu]
      exact .cons r (vals_pick h ns)
/-- how such a call binds: the names as they are written, their places in the parameters' order -/
def KwOk (K : PySem.W.Frag) (fd : FuncData) (ps ks : List Str) (ns : List Nat) : Prop := ∀ (s : Shared) (us : List Value), K.In s.heap → us.length = ks.length → BindsTo s fd ⟨[], ks.zip us⟩ (ps.zip (pick ns us))
theorem StAs.len {F : Hp} : ∀ {vs : List V} {as : List A}, StAs F vs as → vs.length = as.length
  | _, _, .nil => rfl
  | _, _, .cons _ r => congrArg (· + 1) r.len
theorem w_callK {k : Nat} {f : Addr} {fd : FuncData} {ps ks : List Str} {ns : List Nat} {sp : Spc} {x : Str} {p : Pos} {kws : List Keyword} {ET : Ex → Env → Prop} (G : FnG X.prog X.w X.K X.mg X.base Tq k f fd ps sp) (hr : Room k X.A) (hgd : X.A.guards = some []) (tk : Takes X (wxOf Z ET))
    (hm : X.mg x = some (.ref f)) (hk : PySem.W.keepIn X.K (.ref f) = true) (hb : KwOk X.K fd ps ks ns) (h : WKs Z X kws env fun as e1 => as.length = ks.length ∧ callD sp (pick ns as) e1 (fun t e => P (.t t) e) ET)
    (hks : (backToKw pos (keywordEach kws X.env)).filterMap (·.1) = ks := by rfl) (hall : (backToKw pos (keywordEach kws X.env)).all (·.1.isSome) = true := by rfl)
    (hg : Gl X x := by rfl) (hdb : (x == ("__debug__" : Str)) = false := by decide) (hpl : ((backTo pos (starEach [] X.env)).any (·.1) || (backToKw pos (keywordEach kws X.env)).any (·.1.isNone)) = false := by rfl) :
    WE Z X (.Call (.Name x p) [] kws pos) env P := fun pins s σ H F O I b o => by
  refine wpAny_Call_Name_kw (ld_glob I hg hm ?_ hdb)
  refine PySem.W.callWith_KW0 (h₀ := X.base) (first := []) I.ok.mod.kin hk hall (thn ((pk_Ks (Z := Z)).run pos pins s σ H (PostAs Z σ H F O _) I ⟨env, F, O, _, b, o, h, fun _ _ q => q⟩) fun us s1 ⟨vs, H1, I1, r, F1, O1, as, e1, b1, o1, st, fr, hl, q⟩ => ⟨I1.kIn, ?_⟩) hpl
  rw [hks]
  exact thn (call_g (us0 := []) (us := pick ns us) G hr hgd tk (hb s1 us I1.kIn (by rw [← r.length, st.len]; exact hl)) I1 b1 o1 (st.pick ns) (vals_pick r ns) q) (EP.imp fun v H' q => q.from fr)

/-! ### the script: a list that stands in the written part -/
def scT (K : PySem.W.Frag) (a : Addr) (ns : List Int) : T := .ob (some a) fun F _ O v => v = .ref a ∧ O = [] ∧ SqL K F a (ns.map V.int)
theorem sql_mono {K : PySem.W.Frag} {F F' : Hp} {a : Addr} {xs : List V} (s : Same F F') (h : SqL K F a xs) : SqL K F' a xs := by
  rcases h with h | h
  · exact .inl (rd_mono s h)
  · exact .inr h
theorem scT_ow {K : PySem.W.Frag} {F H : Hp} {a : Addr} {ns : List Int} (h : SqL K F a (ns.map V.int)) : Ow F H [] (.ref a) (scT K a ns) :=
  .ob ⟨rfl, rfl, h⟩ ⟨fun F H F' H' O v ⟨h1, h2, h3⟩ s _ => ⟨h1, h2, sql_mono s h3⟩, fun F H O v ⟨_, h2, _⟩ b hb => (by subst h2; cases hb), fun F H O v b ⟨h1, _, _⟩ e => by cases e; exact h1⟩
theorem sc_at {Tq : List (Addr × Str)} {Z : Zb Tq} {F H : Hp} {O : List Addr} {σ : L2.St} {env : Env} {i : Nat} {K : PySem.W.Frag} {a : Addr} {ns : List Int} (b : Bas Z F H O) (o : OwE F H O σ env) (hg : env[i]? = some (some (scT K a ns))) : σ[i]? = some (some (.ref a)) ∧ SqL K H a (ns.map V.int) := by
  obtain ⟨w, hw, Oj, O', h1, h2, h3⟩ := o.focusI hg
  cases h1 with
  | ob h _ =>
    obtain ⟨e, _, q⟩ := h
    subst e
    exact ⟨hw, sql_mono b.sub q⟩
theorem w_scLen (i : Nat) {x : Str} {p p2 : Pos} {a : Addr} {ns : List Int} (hm : X.mg "len" = none) (he : env[i]? = some (some (scT X.K a ns))) (h : P (.t (.va (.int ns.length))) env) (hN : X.N[i]? = some x := by rfl)
    (hg : Gl X "len" := by rfl) (hv : Vis X.env.scope x := by first | exact Or.inl rfl | exact Or.inr (Or.inl rfl) | exact Or.inr (Or.inr rfl)) (hd : (x == ("__debug__" : Str)) = false := by decide) (hcd : (x == ("__classdict__" : Str)) = false := by decide)
    (hs : starEach [.Name x p2] X.env = (false, eval (.Name x p2) X.env) :: starEach [] X.env := by rfl) (hpl : (backTo pos (starEach [] X.env)).any (·.1) = false := by rfl) : WE Z X (.Call (.Name "len" p) [.Name x p2] [] pos) env P :=
  we_of (pe_callB call_len_seq hg hm rfl (pa_cons (pe_var hN hv hd hcd) pa_nil hs) (by decide) (by decide) hs hpl) fun σ H F O b o => by
    obtain ⟨e1, q⟩ := sc_at b o he
    refine ⟨_, e1, a, _, rfl, .inl q, ?_⟩
    rw [List.length_map]
    exact post_val b o (.int _) h
theorem w_scIx (i j : Nat) {x y : Str} {p p2 : Pos} {a : Addr} {ns : List Int} {n : Int} {m : Int} (he : env[i]? = some (some (scT X.K a ns))) (hj : env[j]? = some (some (.va (.int n)))) (ha : atI ns n = some m) (h : P (.t (.va (.int m))) env) (hN : X.N[i]? = some x := by rfl) (hM : X.N[j]? = some y := by rfl)
    (hv : Vis X.env.scope x := by first | exact Or.inl rfl | exact Or.inr (Or.inl rfl) | exact Or.inr (Or.inr rfl)) (hd : (x == ("__debug__" : Str)) = false := by decide) (hcd : (x == ("__classdict__" : Str)) = false := by decide)
    (hv2 : Vis X.env.scope y := by first | exact Or.inl rfl | exact Or.inr (Or.inl rfl) | exact Or.inr (Or.inr rfl)) (hd2 : (y == ("__debug__" : Str)) = false := by decide) (hcd2 : (y == ("__classdict__" : Str)) = false := by decide)
    (hs : PlainIx (.Name y p2) := by intro _ _; rfl) : WE Z X (.Subscript (.Name x p) (.Name y p2) pos) env P :=
  we_of (pe_ix ix_list (pe_var hN hv hd hcd) (pe_var hM hv2 hd2 hcd2) hs) fun σ H F O b o => by
    obtain ⟨e1, q⟩ := sc_at b o he
    obtain ⟨w, hw, Oj, O', h1, h2, h3⟩ := o.focusI hj
    cases h1 with
    | va r =>
      cases r
      refine ⟨_, e1, _, hw, a, _, n, .int m, rfl, rfl, q, ?_, post_val b o (.int _) h⟩
      unfold atI at ha ⊢
      rw [List.length_map]
      cases hn : ixN ns.length n with
      | none => rw [hn] at ha; cases ha
      | some k =>
        rw [hn] at ha
        have ha : ns[k]? = some m := ha
        show (ns.map V.int)[k]? = some (V.int m)
        rw [List.getElem?_map, ha]
        rfl
end
end QL

/-! QI: methods of lists, starred displays, sums of tuples, zip as what is walked, repr without dicts. -/
namespace QL
open PySem PySem.Spec PyProof.Rows L2 StX

section
variable {X : Cx} {Tq : List (Addr × Str)} {Z : Zb Tq} {e a b c o ix tg : Expr} {es : List Expr} {env : Env} {pos : Pos} {P : R → Env → Prop} {PO : Out → Prop}

/-! ### repr -/
def showOk0 (d : D) : Prop := d.hasDict = false ∧ showOk d
def reprG0 (ds : List D) (k : T → Prop) : Prop := ∃ d, ds = [d] ∧ showOk0 d ∧ k (.va (.str d.shown))
theorem dc_repr0 (hg : X.A.guards = some []) (hu : X.A.units + 110 < cLine) : DCall X (.builtin "repr") reprG0 := fun pins s σ H F vs us ds k I sF ws rv ⟨d, e, ⟨nd, ok⟩, h⟩ => by
  subst e
  obtain ⟨v, rfl, w⟩ := ws.one
  obtain ⟨u, rfl, ru⟩ := rv.one
  have rp := w.rp sF
  have fin : ∀ {h' : Heap} {t tk : Nat}, Inv X pins σ H { s with heap := h', toks := tk } → EP X pins σ (NewV F H k) (.str d.shown t) { s with heap := h', toks := tk } := fun {h' t tk} I' => ⟨.str d.shown, H, I', ⟨t, rfl⟩, NewV.val sF (.str _) h⟩
  have big : ∀ {a : Addr}, u = .ref a → wpAny (model X.prog X.w) X.A (call (.builtin "repr") [u]) (EP X pins σ (NewV F H k)) X.xe s := fun {a} e => by
    obtain ⟨as, hr⟩ := rp.reads I ru nd
    subst e
    exact repr_of_reads' hr ok.1 (PyData.noDict_hsm nd) hg (by have := ok.2.1; omega) (fun _ _ e => e) (fun h' u tk hk => fin (I.kept hk)) ok.2.2
  cases rp with
  | non => cases ru; exact P.repr_of_none (fin (I.tok _))
  | bl b => cases ru; exact P.repr_of_bool (fin (I.tok _))
  | int i =>
    obtain ⟨t, rfl⟩ := ru
    exact P.repr_of_int (by simpa [PyData.showable] using ok.1) (fin (I.tok _))
  | str x =>
    obtain ⟨t, rfl⟩ := ru
    exact P.repr_of_str (fin (I.tok _)) ok.2.2
  | lst _ _ => exact big ru
  | tup _ _ => exact big ru
  | dic _ _ => cases nd

/-! ### xs.append(e), xs.pop() -/
theorem lst_at {F H : Hp} {O : List Addr} {σ : L2.St} {a : Addr} {i : Nat} {p : List Str} {ds : List D} {K : PySem.W.Frag} (o : OwE F H O σ env) (hg : getP i p env = some (.lst a ds)) : tyV K "list" (.ref a) H := by
  obtain ⟨w, ⟨Oj, O', h1, h2, h3⟩, _⟩ := o.focus hg
  cases h1 with
  | lst hH r => exact .inl ⟨rfl, _, SqL.of hH⟩
theorem w_append {apos : Pos} (h : WE Z X o env fun r e1 => ∃ a i p ds0, r = .bor a i p ∧ getP i p e1 = some (.lst a ds0) ∧ WA Z X e e1 fun a1 e2 => absorb [a1] e2 fun ds e3 => ∃ d ds1, ds = [d] ∧ getP i p e3 = some (.lst a ds1) ∧ ds1.length < sizeLine ∧ P (.t (.va .none)) (setP i p (.lst a (ds1 ++ [d])) e3))
    (hbase : attributeBase o "append" X.env (eval o X.env) = eval o X.env := by rfl)
    (hfew : ((backTo pos (starEach [e] X.env)).all (fun x => !x.1) && (backToKw pos (keywordEach [] X.env)).all (fun x => x.1.isSome)
      && decide (([e] : List Expr).length + ([] : List Keyword).length + (if ([] : List Keyword).isEmpty then 0 else 1) < 30)) = true := by rfl)
    (hline : (apos.endLine == pos.line) = true := by rfl) (hs : starEach [e] X.env = (false, eval e X.env) :: starEach [] X.env := by rfl) (hpl : (backTo pos (starEach [] X.env)).any (·.1) = false := by rfl) :
    WE Z X (.Call (.Attribute o "append" apos) [e] [] pos) env P :=
  we_of (pe_bm PySem.F.plainAttrs_list PySem.F.slot_list_append PySem.F.type_list_append mt_append (pe_E (Z := Z)) (pa_cons (pe_A (Z := Z)) pa_nil hs) hbase hfew hline hs hpl) fun σ H F O b0 o0 =>
    ⟨env, F, O, _, b0, o0, h, fun v H1 ⟨F1, O1, r, e1, b1, st, fr1, a, i, p, ds0, er, hg, q⟩ => by
      subst er
      obtain ⟨o1, ev⟩ := st
      subst ev
      refine ⟨lst_at o1 hg, e1, F1, O1, _, b1, o1, q, fun v2 H2 ⟨F2, O2, a2, e2, b2, o2, st2, fr2, q2⟩ => ?_⟩
      obtain ⟨F3, O3, ds, e3, b3, o3, r3, fr3, d, ds1, eds, hg3, hz, q3⟩ := absorb_ok (.cons st2 .nil) b2 o2 q2
      subst eds
      cases r3 with
      | cons r3 rn =>
        cases rn
        obtain ⟨xs, hH, rx, up⟩ := mutL b3 o3 hg3
        obtain ⟨O4, b4, o4, fr4⟩ := up (xs ++ [v2]) (ds1 ++ [d]) (rx.app (.cons r3 .nil))
        exact ⟨a, xs, v2, rfl, rfl, hH, by rw [rx.len]; exact hz, (post_val b4 o4 .non q3).from (((fr1.trans fr2).trans fr3).trans fr4)⟩⟩
theorem RpA.dropLast {F : Hp} {vs : List V} {ds : List D} (r : RpA F vs ds) : RpA F vs.dropLast ds.dropLast := by
  rw [List.dropLast_eq_take, List.dropLast_eq_take, r.len]
  exact r.take _
theorem w_pop {apos : Pos} (h : WE Z X o env fun r e1 => ∃ a i p ds d, r = .bor a i p ∧ getP i p e1 = some (.lst a ds) ∧ ds[ds.length - 1]? = some d ∧ P (.t (.va d)) (setP i p (.lst a ds.dropLast) e1))
    (hbase : attributeBase o "pop" X.env (eval o X.env) = eval o X.env := by rfl) (hline : (apos.endLine == pos.line) = true := by rfl) : WE Z X (.Call (.Attribute o "pop" apos) [] [] pos) env P :=
  we_of (pe_bm0 PySem.F.plainAttrs_list PySem.F.slot_list_pop PySem.F.type_list_pop mt_pop (pe_E (Z := Z)) hbase hline) fun σ H F O b0 o0 => ⟨env, F, O, _, b0, o0, h, fun v H1 ⟨F1, O1, r, e1, b1, st, fr1, a, i, p, ds, d, er, hg, hd, q⟩ => by
    subst er
    obtain ⟨o1, ev⟩ := st
    subst ev
    refine ⟨lst_at o1 hg, ?_⟩
    obtain ⟨xs, hH, rx, up⟩ := mutL b1 o1 hg
    obtain ⟨O4, b4, o4, fr4⟩ := up xs.dropLast ds.dropLast rx.dropLast
    obtain ⟨y, hy, ry⟩ := rx.get' hd
    exact ⟨a, xs, y, rfl, rfl, hH, by rw [rx.len]; exact hy, (post_val b4 o4 ry q).from (fr1.trans fr4)⟩⟩

/-! ### sum of a list or a tuple -/
def rSumT (K : PySem.W.Frag) : List V → Hp → VK → Prop := fun vs H Q => ∃ (a : Addr) (ns : List Int), vs = [V.ref a] ∧ SqT K H a (ns.map V.int) ∧ Q (.int ns.sum) H
theorem cr_sumT (hc : X.calm = true) : CallR X (.builtin "sum") (rSumT X.K) := by
  intro pins s σ H vs us Q I r ⟨a, ns, e, hs, q⟩
  subst e
  obtain ⟨its, rv, hl, _⟩ := I.tuple hs
  rw [Vals.ref1 r]
  have hl : s.heap.IsTuple a its.toArray := hl
  have hi := rv.ints
  obtain ⟨xs, ex⟩ := hi.allInts.items
  have hn := hi.numsOf
  rw [show its = its.toArray.toList from rfl, ex, nums_intItems] at hn
  rw [ex] at hl
  refine PySem.W.ktm_sumG (I.ok.hd hc) hl fun h' tk t' hk => ?_
  rw [preSum_eq, List.take_of_length_le (by simp), hn]
  exact ⟨.int ns.sum, H, I.kept hk, ⟨t', rfl⟩, q⟩
def sumAG (ds : List D) (k : T → Prop) : Prop := ∃ ns : List Int, (ds = [.list (ns.map .int)] ∨ ds = [.tuple (ns.map .int)]) ∧ k (.va (.int ns.sum))
theorem dc_sumA (hc : X.calm = true) : DCall X (.builtin "sum") sumAG := .of ((cr_sum hc).or (cr_sumT hc)) fun H F vs ds k sF ws ⟨ns, e, h⟩ => by
  rcases e with e | e
  · subst e
    obtain ⟨v, rfl, w⟩ := ws.one
    obtain ⟨p, xs, rfl, h1, r1⟩ := w.lst' sF
    exact .inl ⟨p, ns, rfl, by rw [← r1.ints]; exact SqL.of h1, NewV.val sF (.int _) h⟩
  · subst e
    obtain ⟨v, rfl, w⟩ := ws.one
    obtain ⟨p, xs, rfl, h1, r1⟩ := w.tup
    exact .inr ⟨p, ns, rfl, by rw [← r1.ints]; exact (.inl (rd_mono sF h1)), NewV.val sF (.int _) h⟩

/-! ### for x, y in zip(t, u), t and u tuples -/
def zipD (xs ys : List D) : List D := (xs.zip ys).map fun p => .tuple [p.1, p.2]
theorem gives_zipT {K : PySem.W.Frag} {a b : Addr} {xs ys : List V} {ds es : List D} {F : Hp} (h1 : Rd F a (.tup xs)) (r1 : RpA F xs ds) (h2 : Rd F b (.tup ys)) (r2 : RpA F ys es) : Gives (RZ.ItzT K a b) (zipD ds es) F := fun F' H' s1 s2 i => by
  have q1 : SqT K H' a xs := (.inl (rd_mono s2 (rd_mono s1 h1)))
  have q2 : SqT K H' b ys := (.inl (rd_mono s2 (rd_mono s1 h2)))
  refine ⟨fun d hd => ?_, fun hn => ?_⟩
  · unfold zipD at hd
    rw [List.getElem?_map, Option.map_eq_some_iff] at hd
    obtain ⟨⟨d1, d2⟩, hz, e⟩ := hd
    rw [List.getElem?_zip_eq_some] at hz
    subst e
    obtain ⟨v1, g1, w1⟩ := r1.get' hz.1
    obtain ⟨v2, g2, w2⟩ := r2.get' hz.2
    refine ⟨⟨xs, ys, v1, v2, q1, q2, g1, g2⟩, fun v H'' ⟨T, x, y, ev, hT, eH, f1, f2⟩ => ?_⟩
    subst ev eH
    have e1 := (f1 xs q1).symm.trans g1
    have e2 := (f2 ys q2).symm.trans g2
    cases e1
    cases e2
    have nf : F' T = none := s2.free hT
    refine ⟨upd F' T (.tup [v1, v2]), .tup (.inl upd_same) (.cons (w1.mono (s1.trans (same_new nf))) (.cons (w2.mono (s1.trans (same_new nf))) .nil)), same_new nf, same_new hT, same_upd2 s2, fun c hc => ?_⟩
    by_cases z : c = T
    · subst z; exact .inr hT
    · rw [upd_ne z] at hc; exact .inl hc
  · unfold zipD at hn
    rw [List.getElem?_eq_none_iff, List.length_map, List.length_zip] at hn
    have e1 := r1.len
    have e2 := r2.len
    exact ⟨xs, ys, q1, q2, by omega⟩
def zipG (ds : List D) (k : List D → Prop) : Prop := match ds with
  | [.tuple xs, .tuple ys] => k (zipD xs ys)
  | _ => False
theorem wi_zip {P : List D → Env → Prop} {p tpos : Pos} {elts : List Expr} {kk : Nat} (hm : X.mg "zip" = none) (h : WAs Z X [a, b] env fun as e1 => absorb as e1 fun ds e2 => zipG ds fun xs => P xs e2) (hg : Gl X "zip" := by rfl)
    (hs : starEach [a, b] X.env = (false, eval a X.env) :: starEach [b] X.env := by rfl) (hpl : (backTo pos (starEach [b] X.env)).any (·.1) = false := by rfl) : WI Z X (.Tuple elts kk tpos) (.Call (.Name "zip" p) [a, b] [] pos) env P :=
  wi_of (RZ.pi_zipA hg hm (pa_As (Z := Z)) hs hpl) fun σ H F O b0 o0 => ⟨env, F, O, _, b0, o0, h, fun vs H1 ⟨F1, O1, as, e1, b1, o1, st, fr, q⟩ => by
    obtain ⟨F2, O2, ds, e2, b2, o2, r2, fr2, q⟩ := absorb_ok st b1 o1 q
    unfold zipG at q
    split at q
    · cases r2 with
      | cons r3 rn =>
        cases rn with
        | cons r4 rn =>
          cases rn
          cases r3 with
          | tup h3 r3 =>
            cases r4 with
            | tup h4 r4 => exact ⟨_, _, _, _, rfl, .inr ⟨(.inl (rd_mono b2.sub h3)), (.inl (rd_mono b2.sub h4)), F2, O2, _, e2, b2, o2, fr.trans fr2, gives_zipT h3 r3 h4 r4, q⟩⟩
    · exact q.elim⟩
end
end QL

/-! QZ: list(it) and tuple(it) where what the iterator gives is seen in the heap; zip of two tuples. -/
namespace QL
open PySem PySem.Spec PyProof.Rows L2

/-- an iterator at I that is walked into the list at S: the values so far, and what the heap then is -/
structure Src (prog : Program) (w : World) (A : Around) (S I : Addr) (wr : List Addr) (n : Nat) (St : Nat → List Value → Heap → Prop) (Fn : List Value → Heap → Prop) : Prop where
  notS : S ∉ wr
  neS : S ≠ I
  frame : ∀ i acc h h', St i acc h → (∀ b o, b ≠ S → h.get? b = some o → h'.get? b = some o) → (∃ o, h'.get? S = some o) → St i acc h'
  item : ∀ i acc (s : Shared) (Q : Option Value → Shared → Prop) (E : Value → Shared → Prop), i < n → St i acc s.heap →
    (∀ v h' tk, St (i + 1) (acc ++ [v]) h' → (∀ b o, b ∉ wr → s.heap.get? b = some o → h'.get? b = some o) → Q (some v) { s with heap := h', toks := tk }) → wpAny (model prog w) A (pyNext (.ref I)) Q E s
  done : ∀ acc (s : Shared) (Q : Option Value → Shared → Prop) (E : Value → Shared → Prop), St n acc s.heap →
    (∀ h' tk, Fn acc h' → (∀ b o, b ∉ wr → s.heap.get? b = some o → h'.get? b = some o) → Q none { s with heap := h', toks := tk }) → wpAny (model prog w) A (pyNext (.ref I)) Q E s
  self : ∀ acc (s : Shared) (Q : Value → Shared → Prop) (E : Value → Shared → Prop), St 0 acc s.heap → Q (.ref I) s → wpAny (model prog w) A (pyIter (.ref I)) Q E s
abbrev lstObj (acc : List Value) (c : Nat) : Obj := { cls := .type "list", data := .seq acc.toArray c }
section
variable {prog : Program} {w : World} {A : Around} {S I : Addr} {wr : List Addr} {n : Nat} {St : Nat → List Value → Heap → Prop} {Fn : List Value → Heap → Prop} {R : Result → Shared → Prop}
/-- the type of such an iterator tells no length -/
structure Mute (T : String) : Prop where
  len : typeLookup (.type T) "__len__" = pure none
  hint : typeLookup (.type T) "__length_hint__" = pure none
  nl : (Value.type T == Value.type "list") = false
  nt : (Value.type T == Value.type "tuple") = false
variable {E : Value → Shared → Prop} {s : Shared}
/-! ### zip of two tuples; the pairs it gives stay alive -/
section
variable {z TI TO T i1 i2 l1 l2 : Addr} {xs ys : Array Value} {k : Nat}
/-- the pairs so far -/
def Prs (h : Heap) (xs ys : Array Value) (acc : List Value) : Prop := ∀ (j : Nat) (v : Value), acc[j]? = some v → ∃ t x y, v = Value.ref t ∧ IsPair h t x y ∧ xs[j]? = some x ∧ ys[j]? = some y
open PySem.W in
structure Zst (S z TI TO i1 i2 l1 l2 : Addr) (xs ys : Array Value) (i : Nat) (acc : List Value) (h : Heap) : Prop where
  len : acc.length = i
  ex : ∃ o, h.get? S = some o
  ti : IsPair h TI (.ref i1) (.ref i2)
  to : ∃ a b, IsPair h TO a b
  a1 : h.IsTupleIter i1 l1 i
  a2 : h.IsTupleIter i2 l2 i
  t1 : h.IsTuple l1 xs
  t2 : h.IsTuple l2 ys
  prs : Prs h xs ys acc
  st : (i = 0 ∧ IsZip h z TI TO .none) ∨ ∃ T f oT, 0 < i ∧ IsZipHeld h z TI TO T f ∧ h.get? T = some oT ∧ T ≠ z ∧ T ≠ i1 ∧ T ≠ i2 ∧ T ≠ S
  out : ∀ (j : Nat) (t : Addr), acc[j]? = some (Value.ref t) → t ≠ z ∧ t ≠ TO ∧ t ≠ i1 ∧ t ≠ i2 ∧ t ≠ S ∧ z < t
structure Far (S z TI TO i1 i2 l1 l2 : Addr) : Prop where
  z : z ≠ S
  ti : TI ≠ S
  to : TO ≠ S
  i1 : i1 ≠ S
  i2 : i2 ≠ S
  l1 : l1 ≠ S
  l2 : l2 ≠ S
theorem Prs.snoc {h : Heap} {acc : List Value} {t : Addr} {x y : Value} (p : Prs h xs ys acc) (hp : IsPair h t x y) (hx : xs[acc.length]? = some x) (hy : ys[acc.length]? = some y) : Prs h xs ys (acc ++ [Value.ref t]) := fun j v e => by
  by_cases hj : j < acc.length
  · rw [List.getElem?_append_left hj] at e
    exact p j v e
  · rw [List.getElem?_append_right (by omega)] at e
    have ej : j - acc.length = 0 := by
      cases q : j - acc.length with
      | zero => rfl
      | succ m => rw [q] at e; cases e
    rw [ej] at e
    cases e
    have ej : j = acc.length := by omega
    subst ej
    exact ⟨t, x, y, rfl, hp, hx, hy⟩
theorem Prs.keep {h h' : Heap} {acc : List Value} (p : Prs h xs ys acc) (k : ∀ (j : Nat) (t : Addr) o, acc[j]? = some (Value.ref t) → h.get? t = some o → h'.get? t = some o) : Prs h' xs ys acc := fun j v e => by
  obtain ⟨t, x, y, ev, hp, hx, hy⟩ := p j v e
  subst ev
  exact ⟨t, x, y, rfl, k j t _ e hp, hx, hy⟩
end
end
end QL

/-! QY: many new objects at once; tuple(zip(t, u)), list(zip(t, u)). -/
namespace QL
open PySem PySem.Spec PyProof.Rows L2

/-- what was, and N from n on -/
def Hn (H : Hp) (n : Nat) (N : Hp) : Hp := fun b => if n ≤ b then N b else H b
theorem Hn_old {H N : Hp} {n : Nat} {b : Addr} (h : b < n) : Hn H n N b = H b := if_neg (Nat.not_le.mpr h)
theorem Hn_new {H N : Hp} {n : Nat} {b : Addr} (h : n ≤ b) : Hn H n N b = N b := if_pos h
theorem Inv.many {X : Cx} {pins : List (Addr × Obj)} {σ : L2.St} {H N : Hp} {s : Shared} {h' : Heap} {t' : Nat} (I : Inv X pins σ H s) (k : ∀ b u, s.heap.get? b = some u → h'.get? b = some u)
    (new : ∀ b o, s.heap.objs.size ≤ b → N b = some o → (∀ H' : Hp, ObjOk X.prog X.w H' h' b o)) : Inv X pins σ (Hn H s.heap.objs.size N) { s with heap := h', toks := t' } := by
  have old : ∀ {b : Addr} {o : HO}, H b = some o → Hn H s.heap.objs.size N b = some o := fun {b o} e => by rw [Hn_old (I.hok.lt e)]; exact e
  refine I.un (t' := t') ⟨fun b u q _ _ _ => k b u q, fun b u q _ _ _ => ⟨u.slots, k b u q⟩, fun b u q n _ => by rw [Hn_old (Heap.lt_size q)]; exact n, fun b u q _ => ⟨u, k b u q⟩, fun b xs q => old q, fun b u xs q => old q, fun b ps q => ⟨#[], by rw [old q]; simp⟩⟩ ?_
  intro a o e
  by_cases ha : s.heap.objs.size ≤ a
  · rw [Hn_new ha] at e
    exact new a o ha e _
  · rw [Hn_old (Nat.not_le.mp ha)] at e
    exact (I.hok a o e).stay (fun b u _ q => k b u q) (fun b q => old q) fun b xs q => old q
theorem NewV.many {F H NF N : Hp} {n : Nat} {k : T → Prop} {v : V} {t : T} {O' : List Addr} (sF : Same F H) (fresh : ∀ b, n ≤ b → H b = none) (sub : ∀ b o, n ≤ b → NF b = some o → N b = some o) (nd : O'.Nodup) (no : ∀ a ∈ O', n ≤ a ∧ NF a = none)
    (ow : Ow (Hn F n NF) (Hn H n N) O' v t) (h : k t) : NewV F H k v (Hn H n N) := by
  have lt : ∀ {b : Addr} {o : HO}, H b = some o → b < n := fun {b o} e => by
    rcases Nat.lt_or_ge b n with z | z
    · exact z
    · rw [fresh b z] at e; cases e
  refine ⟨Hn F n NF, O', t, fun b o e => ?_, fun b o e => by rw [Hn_old (lt e)]; exact e, fun b o e => ?_, fun b e => ?_, nd, fun a ha => ⟨fresh a (no a ha).1, by rw [Hn_new (no a ha).1]; exact (no a ha).2⟩, ow, h⟩
  · rw [Hn_old (lt (sF b o e))]; exact e
  · by_cases z : n ≤ b
    · rw [Hn_new z] at e ⊢; exact sub b o z e
    · rw [Hn_old (Nat.not_le.mp z)] at e ⊢; exact sF b o e
  · by_cases z : n ≤ b
    · exact .inr (fresh b z)
    · rw [Hn_old (Nat.not_le.mp z)] at e; exact .inl e

/-! ### the pairs that a walk over a zip has given -/
open Classical in
/-- pairs of values at the addresses in acc -/
noncomputable def prN (acc : List Value) (vs ws : List V) : Hp := fun b => if h : ∃ j : Nat, acc[j]? = some (Value.ref b) then (match vs[h.choose]?, ws[h.choose]? with | some v, some w => some (.tup [v, w]) | _, _ => none) else none
theorem prN_of {h : Heap} {xs ys acc : List Value} {vs ws : List V} {ds es : List D} {F : Hp} (rv : Vals vs xs) (rw_ : Vals ws ys) (r1 : RpA F vs ds) (r2 : RpA F ws es) (inj : ∀ (v1 v2 : V) (u : Value), L2.RelV v1 u → L2.RelV v2 u → v1 = v2) (p : Prs h xs.toArray ys.toArray acc) {j : Nat} {u : Value} (e : acc[j]? = some u) :
    ∃ b v w d1 d2, u = Value.ref b ∧ prN acc vs ws b = some (.tup [v, w]) ∧ ds[j]? = some d1 ∧ es[j]? = some d2 ∧ Rp F v d1 ∧ Rp F w d2 := by
  obtain ⟨t, x, y, rfl, hp, hx, hy⟩ := p _ _ e
  have hx' : xs[j]? = some x := by simpa using hx
  have hy' : ys[j]? = some y := by simpa using hy
  have gv : ∃ v, vs[j]? = some v ∧ L2.RelV v x := by
    cases q : vs[j]? with
    | none => rw [List.getElem?_eq_none_iff, rv.length, ← List.getElem?_eq_none_iff] at q; rw [q] at hx'; cases hx'
    | some v => obtain ⟨u, g, r⟩ := rv.get q; rw [g] at hx'; cases hx'; exact ⟨v, rfl, r⟩
  have gw : ∃ v, ws[j]? = some v ∧ L2.RelV v y := by
    cases q : ws[j]? with
    | none => rw [List.getElem?_eq_none_iff, rw_.length, ← List.getElem?_eq_none_iff] at q; rw [q] at hy'; cases hy'
    | some v => obtain ⟨u, g, r⟩ := rw_.get q; rw [g] at hy'; cases hy'; exact ⟨v, rfl, r⟩
  obtain ⟨v, g1, q1⟩ := gv
  obtain ⟨w, g2, q2⟩ := gw
  obtain ⟨d1, k1, s1⟩ := r1.get g1
  obtain ⟨d2, k2, s2⟩ := r2.get g2
  refine ⟨t, v, w, d1, d2, rfl, ?_, k1, k2, s1, s2⟩
  unfold prN
  have hj : ∃ j : Nat, acc[j]? = some (Value.ref t) := ⟨j, e⟩
  rw [dif_pos hj]
  -- another place of the same address bears the same values
  obtain ⟨t', x', y', et, hp', hx2, hy2⟩ := p _ _ hj.choose_spec
  cases et
  have ee := hp.symm.trans hp'
  simp only [Option.some.injEq, Obj.mk.injEq, Data.seq.injEq, true_and, and_true] at ee
  have exy : x = x' ∧ y = y' := by simpa using ee
  obtain ⟨rfl, rfl⟩ := exy
  have hx3 : xs[hj.choose]? = some x := by simpa using hx2
  have hy3 : ys[hj.choose]? = some y := by simpa using hy2
  have gv' : vs[hj.choose]? = some v := by
    cases q : vs[hj.choose]? with
    | none => rw [List.getElem?_eq_none_iff, rv.length, ← List.getElem?_eq_none_iff] at q; rw [q] at hx3; cases hx3
    | some v' => obtain ⟨u, g, r⟩ := rv.get q; rw [g] at hx3; cases hx3; rw [inj v' v _ r q1]
  have gw' : ws[hj.choose]? = some w := by
    cases q : ws[hj.choose]? with
    | none => rw [List.getElem?_eq_none_iff, rw_.length, ← List.getElem?_eq_none_iff] at q; rw [q] at hy3; cases hy3
    | some v' => obtain ⟨u, g, r⟩ := rw_.get q; rw [g] at hy3; cases hy3; rw [inj v' w _ r q2]
  rw [gv', gw']
def vOf : Value → Option V
  | .none => some .non
  | .bool b => some (.bl b)
  | .int i _ => some (.int i)
  | .str x _ => some (.str x)
  | .bytes x _ => some (.byt x)
  | .float x _ => some (.flt x)
  | .ref a => some (.ref a)
  | .type n => some (.ty n)
  | _ => none
theorem vOf_rel : ∀ (v : V) (u : Value), L2.RelV v u → vOf u = some v
  | .non, _, rfl => rfl
  | .bl _, _, rfl => rfl
  | .int _, _, ⟨_, rfl⟩ => rfl
  | .str _, _, ⟨_, rfl⟩ => rfl
  | .byt _, _, ⟨_, rfl⟩ => rfl
  | .flt _, _, ⟨_, rfl⟩ => rfl
  | .ref _, _, rfl => rfl
  | .ty _, _, rfl => rfl
theorem relV_inj (v1 v2 : V) (u : Value) (h1 : L2.RelV v1 u) (h2 : L2.RelV v2 u) : v1 = v2 := Option.some.inj ((vOf_rel _ _ h1).symm.trans (vOf_rel _ _ h2))
theorem RpA.of_get {F : Hp} : ∀ {vs : List V} {ds : List D}, vs.length = ds.length → (∀ (j : Nat) v, vs[j]? = some v → ∃ d, ds[j]? = some d ∧ Rp F v d) → RpA F vs ds
  | [], [], _, _ => .nil
  | [], _ :: _, h, _ => nomatch h
  | _ :: _, [], h, _ => nomatch h
  | v :: vs, d :: ds, h, k => by
    obtain ⟨d', e, r⟩ := k 0 v rfl
    cases e
    exact .cons r (RpA.of_get (Nat.succ.inj h) fun j v e => k (j + 1) v e)
/-- what is known behind a walk over zip(t, u) into a list or a tuple; n: where new objects begin -/
structure ZipGot (F : Hp) (n : Nat) (ds es : List D) (h' : Heap) (acc : List Value) (vs ws : List V) (us ts : List Value) : Prop where
  prs : Prs h' us.toArray ts.toArray acc
  len : acc.length = min us.length ts.length
  r1 : RpA F vs ds
  r2 : RpA F ws es
  v1 : Vals vs us
  v2 : Vals ws ts
  ge : ∀ (j : Nat) (t : Addr), acc[j]? = some (Value.ref t) → n ≤ t
  old : ∀ b o, F b = some o → b < n
def refV : Value → V
  | .ref t => .ref t
  | _ => .non
theorem ZipGot.tups {F : Hp} {n : Nat} {ds es : List D} {h' : Heap} {acc : List Value} {vs ws : List V} {us ts : List Value} (g : ZipGot F n ds es h' acc vs ws us ts) :
    Vals (acc.map refV) acc ∧ RpA (Hn F n (prN acc vs ws)) (acc.map refV) (zipD ds es) := by
  have sF : Same F (Hn F n (prN acc vs ws)) := fun b o e => by rw [Hn_old (g.old b o e)]; exact e
  have each := fun {j : Nat} {u : Value} (e : acc[j]? = some u) => prN_of g.v1 g.v2 g.r1 g.r2 relV_inj g.prs e
  refine ⟨?_, RpA.of_get ?_ fun j v e => ?_⟩
  · have : ∀ (l : List Value), (∀ u ∈ l, ∃ b, u = Value.ref b) → Vals (l.map refV) l := fun l => by
      induction l with
      | nil => intro _; exact .nil
      | cons u l ih =>
        intro h
        obtain ⟨b, rfl⟩ := h u List.mem_cons_self
        exact .cons rfl (ih fun u hu => h u (List.mem_cons_of_mem _ hu))
    refine this acc fun u hu => ?_
    obtain ⟨j, hj⟩ := List.getElem?_of_mem hu
    obtain ⟨b, v, w, d1, d2, e, _⟩ := each hj
    exact ⟨b, e⟩
  · unfold zipD
    rw [List.length_map, List.length_map, List.length_zip, g.len, ← g.v1.length, ← g.v2.length, g.r1.len, g.r2.len]
  · rw [List.getElem?_map, Option.map_eq_some_iff] at e
    obtain ⟨u, hu, ev⟩ := e
    obtain ⟨b, v1, w1, d1, d2, e1, e2, e3, e4, q1, q2⟩ := each hu
    subst e1
    subst ev
    refine ⟨.tuple [d1, d2], ?_, .tup ?_ (.cons (q1.mono sF) (.cons (q2.mono sF) .nil))⟩
    · unfold zipD
      rw [List.getElem?_map, show (ds.zip es)[j]? = some (d1, d2) from List.getElem?_zip_eq_some.mpr ⟨e3, e4⟩]
      rfl
    · refine .inl ?_
      rw [Hn_new (g.ge j b hu)]
      exact e2
end QL

/-! QJ: a law row's end, from the promise (FnG) of its def; tables of code objects. -/
namespace QL
open PySem PySem.Spec PyProof.Rows L2

/-- what is tracked at the start: the script alone, or nothing; and the tables -/
structure Start (P : Program) (w : World) (K : PySem.W.Frag) (h : Heap) (a : Addr) (ns : List Int) (Ts Es : List Addr) (H F : Hp) : Prop where
  one : ∀ c, F c ≠ none → (c = a ∨ c ∈ Es) ∧ K.lookup c = none ∧ ∃ o u, h.get? c = some o ∧ F c = some (.frz o u)
  em : ∀ c ∈ Es, ∃ o, F c = some (.frz o (.tup []))
  tb : ∀ c, c ∈ Ts → H c = some (.tbl #[])
  nt : ∀ c, c ∉ Ts → H c = F c
  sub : Same F H
  ok : HOk P w H h
  sq : SqL K F a (ns.map V.int)
/-- the empty tuples that are told apart from the rest -/
def EmAt (K : PySem.W.Frag) (h : Heap) (Es : List Addr) : Prop := ∀ c ∈ Es, K.lookup c = none ∧ ∃ o n, h.get? c = some o ∧ o.cls = .type "tuple" ∧ o.data = .seq #[] n
theorem start_of {P : Program} {w : World} {K : PySem.W.Frag} {h : Heap} {a : Addr} {vs : List Value} {ns : List Int} {Ts Es : List Addr} (KX : K.In h) (ha : h.get? a = some { cls := .type "list", data := .seq vs.toArray }) (hi : IntsAre vs ns) (hl : ns.length ≤ sizeLine)
    (hT : ∀ c ∈ Ts, h.get? c = some { cls := .none, data := .fields #[] }) (hE : EmAt K h Es) : ∃ H F, Start P w K h a ns Ts Es H F := by
  have rv := vals_ints hi
  have aT : a ∉ Ts := fun z => by
    have q := hT a z
    rw [ha] at q
    have z' : Data.seq vs.toArray _ = Data.fields #[] := congrArg Obj.data (Option.some.inj q)
    cases z'
  have aE : a ∉ Es := fun z => by
    obtain ⟨_, o, n, e1, e2, _⟩ := hE a z
    rw [ha] at e1
    cases e1
    exact absurd (show Value.type "list" = Value.type "tuple" from e2) (by decide)
  have eT : ∀ c ∈ Es, c ∉ Ts := fun c hc z => by
    obtain ⟨_, o, n, e1, _, e3⟩ := hE c hc
    rw [hT c z] at e1
    cases e1
    cases e3
  have main : ∀ F0 : Hp, (∀ c, F0 c ≠ none → c = a ∧ K.lookup c = none ∧ ∃ o, h.get? c = some o ∧ F0 c = some (.frz o (.lst (ns.map V.int)))) → HOk P w F0 h → SqL K F0 a (ns.map V.int) → ∃ H F, Start P w K h a ns Ts Es H F := fun F0 h1 h2 h3 => by
    let F : Hp := fun b => if b ∈ Es then (h.get? b).map fun o => HO.frz o (.tup []) else F0 b
    have fE : ∀ c ∈ Es, ∃ o, h.get? c = some o ∧ F c = some (.frz o (.tup [])) := fun c hc => by
      obtain ⟨_, o, n, e1, _, _⟩ := hE c hc
      exact ⟨o, e1, (if_pos hc).trans (by rw [e1]; rfl)⟩
    have fN : ∀ c, c ∉ Es → F c = F0 c := fun c hc => if_neg hc
    have one : ∀ c, F c ≠ none → (c = a ∨ c ∈ Es) ∧ K.lookup c = none ∧ ∃ o u, h.get? c = some o ∧ F c = some (.frz o u) := fun c hc => by
      by_cases z : c ∈ Es
      · obtain ⟨o, e1, e2⟩ := fE c z
        exact ⟨.inr z, (hE c z).1, o, _, e1, e2⟩
      · rw [fN c z] at hc ⊢
        obtain ⟨k1, k2, o, k3, k4⟩ := h1 c hc
        exact ⟨.inl k1, k2, o, _, k3, k4⟩
    have ok : HOk P w F h := fun c u hc => by
      by_cases z : c ∈ Es
      · obtain ⟨o, e1, e2⟩ := fE c z
        obtain ⟨_, o', n, e3, e4, e5⟩ := hE c z
        rw [e2] at hc
        cases hc
        rw [e1] at e3
        cases e3
        exact ⟨e1, Nat.zero_le _, [], .nil, o, e1, e4, n, e5⟩
      · rw [fN c z] at hc
        obtain ⟨k1, k2, o, k3, k4⟩ := h1 c (by rw [hc]; exact fun z => nomatch z)
        have q := h2 c u hc
        rw [k4] at hc
        cases hc
        exact q
    have sq : SqL K F a (ns.map V.int) := by
      rcases h3 with h3 | h3
      · refine .inl ?_
        rcases h3 with h3 | ⟨o, h3⟩
        · exact .inl ((fN a aE).trans h3)
        · exact .inr ⟨o, (fN a aE).trans h3⟩
      · exact .inr h3
    have sub : ∀ c u, F c = some u → (if c ∈ Ts then some (HO.tbl #[]) else F c) = some u := fun c u hc => by
      have : c ∉ Ts := fun z => by
        rcases (one c (by rw [hc]; exact fun z => nomatch z)).1 with y | y
        · exact aT (y ▸ z)
        · exact eT c y z
      exact (if_neg this).trans hc
    refine ⟨fun b => if b ∈ Ts then some (.tbl #[]) else F b, F, one, fun c hc => ?_, fun c hc => if_pos hc, fun c hc => if_neg hc, sub, fun c u hc => ?_, sq⟩
    · obtain ⟨o, _, e2⟩ := fE c hc
      exact ⟨o, e2⟩
    · by_cases z : c ∈ Ts
      · have hc' := (if_pos z).symm.trans hc
        cases hc'
        exact hT c z
      · have hc' : F c = some u := (if_neg z).symm.trans hc
        exact (ok c u hc').stay (fun _ _ _ z => z) (fun b z => sub b _ z) fun b xs z => sub b _ z
  by_cases hk : K.lookup a = none
  · refine main (fun b => if b = a then some (.frz { cls := .type "list", data := .seq vs.toArray } (.lst (ns.map V.int))) else none) (fun c hc => ?_) (fun c u hc => ?_) (.inl (.inr ⟨_, if_pos rfl⟩))
    · by_cases z : c = a
      · subst z; exact ⟨rfl, hk, _, ha, if_pos rfl⟩
      · rw [if_neg z] at hc; exact absurd rfl hc
    · by_cases z : c = a
      · subst z
        have hc' := (if_pos rfl).symm.trans hc
        cases hc'
        exact ⟨ha, by rw [List.length_map]; exact hl, vs, _, rv, ha⟩
      · have hc' := (if_neg z).symm.trans hc
        cases hc'
  · obtain ⟨o, ho⟩ := Option.ne_none_iff_exists'.mp hk
    have e := KX a o ho
    rw [ha] at e
    cases e
    refine main (fun _ => none) (fun _ z => absurd rfl z) (fun _ _ z => (nomatch z)) (.inr ⟨_, vs.toArray, _, ho, rfl, rfl, rfl, ?_, by simpa using rv⟩)
    rw [List.size_toArray, hi.length]
    exact hl
/-- a code object, its table, the name of what the table tells -/
abbrev Cs := List (Addr × Addr × Str)
abbrev Cs.tq (cs : Cs) : List (Addr × Str) := cs.map (·.2)
/-- the tables, and the empty tuples -/
abbrev Cs.tqE (cs : Cs) (Es : List Addr) : List (Addr × Str) := cs.tq ++ Es.map fun e => (e, ("()" : Str))
/-- what the head tells of the code objects and tables cs -/
structure CsAt (K : PySem.W.Frag) (h : Heap) (cs : Cs) : Prop where
  hT : ∀ p ∈ cs, h.get? p.2.1 = some { cls := .none, data := .fields #[] }
  nT : ∀ p ∈ cs, K.lookup p.2.1 = none
  C : ∀ p ∈ cs, PySem.W.CodeHd h p.1 p.2.1
  nq : ∀ p ∈ cs, p.2.2 ≠ "()"
theorem CsAt.nil {K : PySem.W.Frag} {h : Heap} : CsAt K h [] := ⟨fun _ z => (nomatch z), fun _ z => (nomatch z), fun _ z => (nomatch z), fun _ z => (nomatch z)⟩
theorem CsAt.cons {K : PySem.W.Frag} {h : Heap} {c P : Addr} {q : Str} {cs : Cs} (a : PySem.W.CodeHd h c P ∧ h.get? P = some (PySem.W.tabObj #[])) (n : K.lookup P = none) (nq : q ≠ "()") (r : CsAt K h cs) : CsAt K h ((c, P, q) :: cs) :=
  ⟨fun p hp => (List.mem_cons.mp hp).elim (fun e => by rw [e]; exact a.2) (r.hT p), fun p hp => (List.mem_cons.mp hp).elim (fun e => by rw [e]; exact n) (r.nT p), fun p hp => (List.mem_cons.mp hp).elim (fun e => by rw [e]; exact a.1) (r.C p), fun p hp => (List.mem_cons.mp hp).elim (fun e => by rw [e]; exact nq) (r.nq p)⟩
end QL

/-! QX: defs that are called by name; small laws. -/
namespace QL
open PySem PySem.Spec PyProof.Rows L2

theorem takes_no {Tq : List (Addr × Str)} {Z : Zb Tq} {X : Cx} : Takes X (wxOf Z fun _ _ => False) := fun u s' ⟨a, B, sI, pins, σ, H, cls, d, e, I, nb, up, sky, na, os, ag, F, O, env, ex, b, o, xa, q⟩ => q.elim
/-- a def of the module that may be called -/
structure Df (P : Program) (w : World) (K : PySem.W.Frag) (mg : Str → Option Value) (base : Heap) (Tq : List (Addr × Str)) (k : Nat) (x : Str) (ps : List Str) (sp : Spc) : Prop where
  ex : ∃ (f : Addr) (fd : FuncData), FnG P w K mg base Tq k f fd ps sp ∧ mg x = some (.ref f) ∧ PySem.W.keepIn K (.ref f) = true ∧ Binds K fd ps []
/-- the same, by the names ks, of which the places ns are the parameters in their order -/
structure Dk (P : Program) (w : World) (K : PySem.W.Frag) (mg : Str → Option Value) (base : Heap) (Tq : List (Addr × Str)) (k : Nat) (x : Str) (ps ks : List Str) (ns : List Nat) (sp : Spc) : Prop where
  ex : ∃ (f : Addr) (fd : FuncData), FnG P w K mg base Tq k f fd ps sp ∧ mg x = some (.ref f) ∧ PySem.W.keepIn K (.ref f) = true ∧ KwOk K fd ps ks ns
theorem Df.mono {P : Program} {w : World} {K : PySem.W.Frag} {mg : Str → Option Value} {base : Heap} {Tq : List (Addr × Str)} {j k : Nat} {x : Str} {ps : List Str} {sp : Spc} (G : Df P w K mg base Tq j x ps sp) (h : j ≤ k) : Df P w K mg base Tq k x ps sp :=
  let ⟨f, fd, g, r⟩ := G.ex; ⟨f, fd, g.mono h, r⟩
theorem Dk.mono {P : Program} {w : World} {K : PySem.W.Frag} {mg : Str → Option Value} {base : Heap} {Tq : List (Addr × Str)} {j k : Nat} {x : Str} {ps ks : List Str} {ns : List Nat} {sp : Spc} (G : Dk P w K mg base Tq j x ps ks ns sp) (h : j ≤ k) : Dk P w K mg base Tq k x ps ks ns sp :=
  let ⟨f, fd, g, r⟩ := G.ex; ⟨f, fd, g.mono h, r⟩
theorem fun_kws {K : PySem.W.Frag} {x qual : Str} {st : Stmt} {f : Addr} {fd : FuncData} {ps ks : List Str} {ns : List Nat} (F : Fun K x qual st f fd)
    (h : ∀ (kV doc pm : Value) (an : Option Addr) (cdv ct : Value) (us : List Value), us.length = ks.length → bindArgs (PySem.W.fnOf x qual (defArgs st) (defBody st) (defScope st) .none kV doc pm an cdv ct) ⟨[], ks.zip us⟩ = pure (ps.zip (pick ns us))) : KwOk K fd ps ks ns := by
  obtain ⟨oc, od, kV, doc, pm, an, cdv, ct, osl, rfl, lk, hcd⟩ := F.ex
  exact fun s us _ hl => .of_eq (h kV doc pm an cdv ct us hl)
section
variable {Tq : List (Addr × Str)} {Z : Zb Tq} {X : Cx} {e : Expr} {es : List Expr} {env : Env} {pos p : Pos} {P : R → Env → Prop} {k : Nat} {x : Str} {ps ks : List Str} {ns : List Nat} {sp : Spc} {kws : List Keyword}
theorem w_fn (G : Df X.prog X.w X.K X.mg X.base Tq k x ps sp) (hr : Room k X.A) (hgd : X.A.guards = some []) (h : WAs Z X (e :: es) env fun as e1 => callD sp as e1 (fun t e => P (.t t) e) fun _ _ => False)
    (hg : Gl X x := by rfl) (hdb : (x == ("__debug__" : Str)) = false := by decide) (he : starEach (e :: es) X.env = (false, eval e X.env) :: starEach es X.env := by rfl) (hpl : (backTo pos (starEach es X.env)).any (·.1) = false := by rfl) :
    WE Z X (.Call (.Name x p) (e :: es) [] pos) env P := by
  obtain ⟨f, fd, g, hm, hk, hb⟩ := G.ex
  refine w_call (dds := []) (vds := []) g hr hgd takes_no hm hk hb .nil (fun _ => .nil) ?_ hg hdb he hpl
  simpa only [vaAll, List.map_nil, List.append_nil] using h
theorem w_fnK (G : Dk X.prog X.w X.K X.mg X.base Tq k x ps ks ns sp) (hr : Room k X.A) (hgd : X.A.guards = some []) (h : WKs Z X kws env fun as e1 => as.length = ks.length ∧ callD sp (pick ns as) e1 (fun t e => P (.t t) e) fun _ _ => False)
    (hks : (backToKw pos (keywordEach kws X.env)).filterMap (·.1) = ks := by rfl) (hall : (backToKw pos (keywordEach kws X.env)).all (·.1.isSome) = true := by rfl)
    (hg : Gl X x := by rfl) (hdb : (x == ("__debug__" : Str)) = false := by decide) (hpl : ((backTo pos (starEach [] X.env)).any (·.1) || (backToKw pos (keywordEach kws X.env)).any (·.1.isNone)) = false := by rfl) :
    WE Z X (.Call (.Name x p) [] kws pos) env P := by
  obtain ⟨f, fd, g, hm, hk, hb⟩ := G.ex
  exact w_callK g hr hgd takes_no hm hk hb h hks hall hg hdb hpl
end
/-! ### lists of ints -/
abbrev iDs (ns : List Int) : List D := ns.map PyData.int
theorem small2000 {n : Nat} (h : n ≤ 2000) : n < sizeLine := Nat.lt_of_le_of_lt h (by decide)
theorem atI_last' {α : Type} {xs : List α} {z : α} (h : xs.getLast? = some z) : atI xs (-1) = some z := by
  obtain ⟨ys, rfl⟩ := List.getLast?_eq_some_iff.mp h
  exact atI_last ys z
theorem atI_map {α β : Type} (f : α → β) {xs : List α} {i : Int} {x : α} (h : atI xs i = some x) : atI (xs.map f) i = some (f x) := by
  unfold atI at h ⊢
  rw [List.length_map]
  cases hn : ixN xs.length i with
  | none => rw [hn] at h; cases h
  | some k =>
    rw [hn] at h
    have h : xs[k]? = some x := h
    show (xs.map f)[k]? = some (f x)
    rw [List.getElem?_map, h]
    rfl
theorem cutD_map {α : Type} (f : α → D) (xs : List α) (lo hi : Option Int) : cutD (xs.map f) lo hi = ((xs.drop (HT.sIx xs.length 0 lo)).take (HT.sIx xs.length xs.length hi - HT.sIx xs.length 0 lo)).map f := by
  unfold cutD
  rw [List.length_map, List.map_take, List.map_drop]
theorem cut_dropLast {α : Type} (f : α → D) (xs : List α) : cutD (xs.map f) none (some (-1)) = xs.dropLast.map f := by
  rw [cutD_map]
  have h1 : HT.sIx xs.length 0 none = 0 := rfl
  have h2 : HT.sIx xs.length xs.length (some (-1)) = xs.length - 1 := by
    unfold HT.sIx
    simp only
    rw [if_pos (by decide)]
    omega
  rw [h1, h2, List.drop_zero, Nat.sub_zero, List.dropLast_eq_take]
theorem cut_nat {α : Type} (f : α → D) (xs : List α) (i j : Nat) (hi : i ≤ xs.length) (hj : j ≤ xs.length) : cutD (xs.map f) (some (i : Int)) (some (j : Int)) = ((xs.drop i).take (j - i)).map f := by
  rw [cutD_map, HT.sIx_nat, HT.sIx_nat, Nat.min_eq_left hi, Nat.min_eq_left hj]
theorem room64 {k : Nat} {A : Around} (hr : Room k A) : A.units + 64 < cLine := by have := hr.un; omega
theorem room110 {k : Nat} {A : Around} (hr : Room k A) : A.units + 110 < cLine := by have := hr.un; omega
theorem rangeD_len (lo : Int) (n : Nat) : (rangeD lo n).length = n := by unfold rangeD; rw [List.length_map, List.length_range]
theorem rangeD_at {lo : Int} {n j : Nat} {d : D} (h : (rangeD lo n)[j]? = some d) : d = .int (lo + j) ∧ j < n := by
  unfold rangeD at h
  rw [List.getElem?_map, Option.map_eq_some_iff] at h
  obtain ⟨k, hk, e⟩ := h
  have hj : j < n := by
    have := (List.getElem?_eq_some_iff.mp hk).1
    simpa using this
  rw [List.getElem?_range hj] at hk
  cases hk
  exact ⟨e.symm, hj⟩
end QL

/-! QK: own classes: fields read and stored, methods called, instances made. -/
namespace QL
open PySem PySem.Spec PyProof.Rows L2

def putT (f : Str) (u : T) : List (Str × T) → List (Str × T)
  | [] => [(f, u)]
  | (g, t) :: r => if g = f then (g, u) :: r else (g, t) :: putT f u r
theorem OwF.put {F H : Hp} {f : Str} {u : T} {w : V} {Ou : List Addr} (hu : Ow F H Ou w u) : ∀ {fs : List (Str × T)} {vs : List (Str × V)} {O : List Addr}, OwF F H O vs fs → ∃ O' Od, OwF F H O' (putF f w vs) (putT f u fs) ∧ (O ++ Ou).Perm (O' ++ Od)
  | [], _, _, .nil => ⟨Ou ++ [], [], .cons hu .nil, by rw [List.append_nil, List.append_nil]; exact List.Perm.refl _⟩
  | (n, t) :: fs, _, _, .cons (O1 := O1) (O2 := O2) h r => by
    by_cases e : n = f
    · refine ⟨Ou ++ O2, O1, ?_, ?_⟩
      · show OwF F H _ (if n = f then _ else _) (if n = f then _ else _)
        rw [if_pos e, if_pos e]
        exact .cons hu r
      · rw [List.append_assoc]
        refine List.perm_append_comm.trans ?_
        exact (List.perm_append_comm (l₁ := O2)).append_right O1
    · obtain ⟨O', Od, q, p⟩ := OwF.put (f := f) hu r
      refine ⟨O1 ++ O', Od, ?_, ?_⟩
      · show OwF F H _ (if n = f then _ else _) (if n = f then _ else _)
        rw [if_neg e, if_neg e]
        exact .cons h q
      · rw [List.append_assoc, List.append_assoc]
        exact p.append_left O1
theorem OwF.len {F H : Hp} : ∀ {fs : List (Str × T)} {vs : List (Str × V)} {O : List Addr}, OwF F H O vs fs → vs.length = fs.length
  | _, _, _, .nil => rfl
  | _, _, _, .cons _ r => congrArg (· + 1) r.len
theorem OwF.look {F H : Hp} {f : Str} : ∀ {fs : List (Str × T)} {vs : List (Str × V)} {O : List Addr}, OwF F H O vs fs → (fs.lookup f = none ∧ vs.lookup f = none) ∨ ∃ t w O', fs.lookup f = some t ∧ vs.lookup f = some w ∧ Ow F H O' w t
  | _, _, _, .nil => .inl ⟨rfl, rfl⟩
  | (n, t) :: fs, (_, v) :: vs, _, .cons h r => by
    rw [List.lookup_cons, List.lookup_cons]
    cases hb : f == n with
    | true => exact .inr ⟨_, _, _, rfl, rfl, h⟩
    | false => exact r.look

/-! ### o.f -/
def fldR (K : PySem.W.Frag) (r : R) (f : Str) (env : Env) (k : R → Prop) : Prop := match r with
  | .bor a i p => match getP i p env with
    | some (.ins a' C fs) => a' = a ∧ (Cls K C ∧ NoAttr K C f) ∧ (match fs.lookup f with
      | some (.va d) => k (.t (.va d))
      | some t => match t.addr with
        | some b => k (.bor b i (p ++ [f]))
        | none => False
      | none => False)
    | _ => False
  | _ => False
section
variable {Tq : List (Addr × Str)} {Z : Zb Tq} {X : Cx} {e a b c o value : Expr} {es : List Expr} {env : Env} {pos pos' apos p : Pos} {P : R → Env → Prop} {PO : Out → Prop} {f x m : Str}
theorem w_fld (h : WE Z X o env fun r e1 => fldR X.K r f e1 fun r2 => P r2 e1) (hb : attributeBase o f X.env (eval o X.env) = eval o X.env := by rfl) : WE Z X (.Attribute o f pos) env P :=
  we_of (pe_fld (pe_E (Z := Z)) hb) fun σ H F O b0 o0 => ⟨env, F, O, _, b0, o0, h, fun v H1 ⟨F1, O1, r, e1, b1, st, fr, q⟩ => by
    cases r with
    | t t => exact q.elim
    | bor a i p =>
      obtain ⟨o1, rfl⟩ := st
      unfold fldR at q
      simp only at q
      split at q
      · rename_i a' C fs hg
        obtain ⟨rfl, ⟨c, n⟩, q⟩ := q
        obtain ⟨w, ⟨Oj, O', h1, h2, h3⟩, _⟩ := o1.focus hg
        cases h1 with
        | ins h1 hd r =>
          rcases r.look (f := f) with ⟨k1, k2⟩ | ⟨t, w, Ot, k1, k2, hw⟩
          · rw [k1] at q; exact q.elim
          · refine ⟨_, _, _, _, w, rfl, h1, c, n, k2, ?_⟩
            rw [k1] at q
            cases t with
            | va d =>
              cases hw with
              | va r => exact ⟨F1, O1, .t (.va d), _, b1, ⟨O1, [], (List.append_nil O1).symm, o1, .va r⟩, fr, q⟩
            | lst a ds => exact ⟨F1, O1, .bor _ _ _, _, b1, ⟨o1, hw.ref rfl⟩, fr, q⟩
            | dic a ds => exact ⟨F1, O1, .bor _ _ _, _, b1, ⟨o1, hw.ref rfl⟩, fr, q⟩
            | fdc a ds => exact ⟨F1, O1, .bor _ _ _, _, b1, ⟨o1, hw.ref rfl⟩, fr, q⟩
            | ins a C fs => exact ⟨F1, O1, .bor _ _ _, _, b1, ⟨o1, hw.ref rfl⟩, fr, q⟩
            | hole a => exact ⟨F1, O1, .bor _ _ _, _, b1, ⟨o1, hw.ref rfl⟩, fr, q⟩
            | ob a φ =>
              cases a with
              | none => exact q.elim
              | some a => exact ⟨F1, O1, .bor _ _ _, _, b1, ⟨o1, hw.ref rfl⟩, fr, q⟩
      · exact q.elim⟩

/-! ### x.f = e, x a name -/
def putFR (K : PySem.W.Frag) (t : T) (i : Nat) (f : Str) (e : Env) (k : Env → Prop) : Prop := match e[i]? with
  | some (some (.ins a C fs)) => (Cls K C ∧ NoAttr K C f ∧ fs.length < 1000) ∧ k (e.set i (some (.ins a C (putT f t fs))))
  | _ => False
def setFR (K : PySem.W.Frag) (r : R) (i : Nat) (f : Str) (e : Env) (k : Env → Prop) : Prop := match r with
  | .t t => putFR K t i f e k
  | .bor a j p => absorb [.bor a j p] e fun ds e' => match ds with
    | [d] => putFR K (.va d) i f e' k
    | _ => False
theorem mutI {F H : Hp} {O1 O2 : List Addr} {σ : L2.St} {env : Env} {i : Nat} {a C : Addr} {fs : List (Str × T)} {v : V} {t : T} {f : Str} (b : Bas Z F H (O1 ++ O2)) (o : OwE F H O1 σ env) (hi : env[i]? = some (some (.ins a C fs))) (w : Ow F H O2 v t) :
    ∃ dx vs, σ[i]? = some (some (.ref a)) ∧ H a = some (.ins C dx vs) ∧ vs.length = fs.length ∧ ∃ O', Bas Z F (upd H a (.ins C dx (putF f v vs))) O' ∧ OwE F (upd H a (.ins C dx (putF f v vs))) O' σ (env.set i (some (.ins a C (putT f t fs)))) ∧ Frm Tq H F (O1 ++ O2) (upd H a (.ins C dx (putF f v vs))) F O' := by
  obtain ⟨w0, hw, Oj, Or, h1, h2, h3⟩ := o.focusI hi
  cases h1 with
  | ins ha hd r =>
    rename_i dx vs Of
    refine ⟨dx, vs, hw, ha, r.len, ?_⟩
    obtain ⟨Of', Od, r', pm⟩ := r.put (f := f) w
    have nd0 : ((a :: dx :: Of) ++ Or ++ O2).Nodup := (h2.append_right O2).nodup b.nd
    have pm1 : ((a :: dx :: Of) ++ Or ++ O2).Perm ((a :: dx :: Of') ++ Or ++ Od) := by
      have e1 : (Of ++ Or ++ O2).Perm (Of' ++ Or ++ Od) := by
        have e2 : (Of ++ Or ++ O2).Perm ((Of ++ O2) ++ Or) := by
          rw [List.append_assoc, List.append_assoc]
          exact List.perm_append_comm.append_left Of
        have e3 : (Of' ++ Or ++ Od).Perm ((Of' ++ Od) ++ Or) := by
          rw [List.append_assoc, List.append_assoc]
          exact List.perm_append_comm.append_left Of'
        exact e2.trans ((pm.append_right Or).trans e3.symm)
      exact (e1.cons dx).cons a
    have nd1 := pm1.nodup nd0
    have na : ∀ c, c ∈ dx :: (Of' ++ Or ++ Od) → c ≠ a := fun c hc z => by
      subst z
      exact (List.nodup_cons.mp nd1).1 hc
    have ex : ∀ c ∈ O1 ++ O2, H c ≠ none := fun c hc => (List.mem_append.mp hc).elim (o.there c) (w.there c)
    have keep : ∀ c, c ≠ a → upd H a (.ins C dx (putF f v vs)) c = H c := fun c hc => upd_ne hc
    have hOf : ∀ c ∈ Of', upd H a (.ins C dx (putF f v vs)) c = H c := fun c hc => keep c (na c (List.mem_cons_of_mem _ (List.mem_append_left _ (List.mem_append_left _ hc))))
    have ow : Ow F (upd H a (.ins C dx (putF f v vs))) (a :: dx :: Of') (.ref a) (.ins a C (putT f t fs)) :=
      .ins upd_same ((keep dx (na dx List.mem_cons_self)).trans hd) (r'.stay (Same.refl _) hOf)
    obtain ⟨O'', q1, q2⟩ := h3 F (upd H a (.ins C dx (putF f v vs))) _ _ (Same.refl _) (fun c hc => keep c (na c (List.mem_cons_of_mem _ (List.mem_append_left _ (List.mem_append_right _ hc))))) ow
    have pm2 : (O1 ++ O2).Perm (O'' ++ Od) := (h2.append_right O2).trans (pm1.trans (q2.symm.append_right Od))
    have ha' : a ∈ O1 ++ O2 := List.mem_append_left _ (h2.mem_iff.mpr (List.mem_append_left _ List.mem_cons_self))
    have da := b.dis a ha'
    have fr : Frm Tq H F (O1 ++ O2) (upd H a (.ins C dx (putF f v vs))) F O'' := ⟨Same.refl _, fun c y e _ n => by rw [upd_ne fun z => n (by rw [z]; exact ha')]; exact e, fun c e => by
      by_cases z : c = a
      · subst z; rw [upd_same]; exact fun z => nomatch z
      · rw [upd_ne z]; exact e, fun c e => .inl e, fun c hc => .inl (pm2.mem_iff.mpr (List.mem_append_left _ hc)), tab_own ha⟩
    refine ⟨O'', ⟨fun c y e => ?_, (List.nodup_append.mp (pm2.nodup b.nd)).1, fun c hc => b.dis c (pm2.mem_iff.mpr (List.mem_append_left _ hc)), b.abs.trans fr⟩, q1, fr⟩
    rw [upd_ne fun z => by rw [z, da] at e; cases e]
    exact b.sub c y e
theorem ws_fld (i : Nat) (h : WE Z X value env fun r e1 => setFR X.K r i f e1 fun e2 => PO (.nx e2)) (hN : X.N[i]? = some x := by rfl) (hv : Vis X.env.scope x := by first | exact Or.inl rfl | exact Or.inr (Or.inl rfl) | exact Or.inr (Or.inr rfl))
    (hd : (x == ("__debug__" : Str)) = false := by decide) (hcd : (x == ("__classdict__" : Str)) = false := by decide) (hs : swapsWith value (some (.Attribute (.Name x p) f pos')) pos.line X.env = pure false := by rfl) : WS Z X (.Assign [.Attribute (.Name x p) f pos'] value pos) env PO :=
  ws_of (ps_fld (pe_var (i := i) hN hv hd hcd) (pe_E (Z := Z)) hs) fun σ H F O b o => ⟨env, F, O, _, b, o, h, fun v H1 ⟨F1, O1, r, e1, b1, st, fr, q⟩ => by
    have fin : ∀ {F2 : Hp} {Oa Ob : List Addr} {t : T} {e2 : Env}, Bas Z F2 H1 (Oa ++ Ob) → OwE F2 H1 Oa σ e2 → Ow F2 H1 Ob v t → Frm Tq H F O H1 F2 (Oa ++ Ob) → putFR X.K t i f e2 (fun e3 => PO (.nx e3)) →
        tVar i σ H1 (fun x H2 => ∃ a C dx fs, x = .ref a ∧ H2 a = some (.ins C dx fs) ∧ Cls X.K C ∧ NoAttr X.K C f ∧ fs.length < 1000 ∧ (endsOf Z H F O PO).nx σ (upd H2 a (.ins C dx (putF f v fs)))) := fun {F2 Oa Ob t e2} b2 o2 w2 fr2 q2 => by
      unfold putFR at q2
      split at q2
      · rename_i a C fs hi
        obtain ⟨⟨c, n, l⟩, q2⟩ := q2
        obtain ⟨dx, vs, hσ, ha, hl, O', b3, o3, fr3⟩ := mutI (f := f) b2 o2 hi w2
        exact ⟨_, hσ, a, C, dx, vs, rfl, ha, c, n, by rw [hl]; exact l, F2, O', _, b3, o3, fr2.trans fr3, q2⟩
      · exact q2.elim
    cases r with
    | t t =>
      obtain ⟨Oa, Ob, rfl, o1, w1⟩ := st
      exact fin b1 o1 w1 fr q
    | bor a j p =>
      obtain ⟨o1, rfl⟩ := st
      unfold setFR at q
      simp only at q
      obtain ⟨F2, O2, ds, e2, b2, o2, r2, fr2, q2⟩ := absorb_ok (.cons (a := .bor a j p) rfl .nil) b1 o1 q
      cases r2 with
      | cons r2 rn =>
        cases rn
        exact fin (Ob := []) (by rw [List.append_nil]; exact b2) o2 (.va r2) (by rw [List.append_nil]; exact fr.trans fr2) q2⟩
end
end QL

/-! QM: methods called, instances made. -/
namespace QL
open PySem PySem.Spec PyProof.Rows L2
/-- a method as a promise -/
structure Mf (P : Program) (w : World) (K : PySem.W.Frag) (mg : Str → Option Value) (base : Heap) (Tq : List (Addr × Str)) (k : Nat) (C : Addr) (m : Str) (ps : List Str) (sp : Spc) : Prop where
  ex : ∃ f fd, FnG P w K mg base Tq k f fd ps sp ∧ Cls K C ∧ Meth K C m f ∧ Binds K fd ps []
theorem Mf.mono {P : Program} {w : World} {K : PySem.W.Frag} {mg : Str → Option Value} {base : Heap} {Tq : List (Addr × Str)} {j k : Nat} {C : Addr} {m : Str} {ps : List Str} {sp : Spc} (G : Mf P w K mg base Tq j C m ps sp) (h : j ≤ k) : Mf P w K mg base Tq k C m ps sp :=
  let ⟨f, fd, g, r⟩ := G.ex; ⟨f, fd, g.mono h, r⟩
/-- a class that is made by its own __init__ -/
structure Ck (P : Program) (w : World) (K : PySem.W.Frag) (mg : Str → Option Value) (base : Heap) (Tq : List (Addr × Str)) (k : Nat) (x : Str) (C : Addr) (ps : List Str) (sp : Spc) : Prop where
  ex : ∃ f fd, FnG P w K mg base Tq k f fd ps sp ∧ Mk K C f ∧ mg x = some (.ref C) ∧ Binds K fd ps []
theorem Ck.mono {P : Program} {w : World} {K : PySem.W.Frag} {mg : Str → Option Value} {base : Heap} {Tq : List (Addr × Str)} {j k : Nat} {x : Str} {C : Addr} {ps : List Str} {sp : Spc} (G : Ck P w K mg base Tq j x C ps sp) (h : j ≤ k) : Ck P w K mg base Tq k x C ps sp :=
  let ⟨f, fd, g, r⟩ := G.ex; ⟨f, fd, g.mono h, r⟩
section
variable {Tq : List (Addr × Str)} {Z : Zb Tq} {X : Cx} {e a b c o value : Expr} {es : List Expr} {env : Env} {pos pos' apos p : Pos} {P : R → Env → Prop} {f x m : Str} {k : Nat} {C : Addr} {ps : List Str} {sp : Spc}
/-- o.m(..), with what is wanted of an error -/
def methR {Tq : List (Addr × Str)} (as : List Expr) (Z : Zb Tq) (X : Cx) (C : Addr) (m : Str) (r : R) (e1 : Env) (k : List A → Env → Prop) : Prop := match r with
  | .bor a i p => match getP i p e1 with
    | some (.ins a' C' fs) => (a' = a ∧ C' = C ∧ fs.lookup m = none) ∧ WAs Z X as e1 fun as' e2 => k (.bor a i p :: as') e2
    | _ => False
  | _ => False
theorem methR_ok {σ : L2.St} {F H : Hp} {O : List Addr} {v : V} {r : R} {e1 : Env} {kk : List A → Env → Prop} (st : StR F H O σ e1 v r) (h : methR es Z X C m r e1 kk) :
    ∃ a i p dx vs, v = .ref a ∧ r = .bor a i p ∧ H a = some (.ins C dx vs) ∧ vs.lookup m = none ∧ OwE F H O σ e1 ∧ WAs Z X es e1 fun as' e2 => kk (.bor a i p :: as') e2 := by
  cases r with
  | t t => exact h.elim
  | bor a i p =>
    obtain ⟨o1, rfl⟩ := st
    unfold methR at h
    simp only at h
    split at h
    · rename_i a' C' fs hg
      obtain ⟨⟨rfl, rfl, hm⟩, h⟩ := h
      obtain ⟨w, ⟨Oj, O', h1, h2, h3⟩, _⟩ := o1.focus hg
      cases h1 with
      | ins ha hd rr =>
        refine ⟨_, i, p, _, _, rfl, rfl, ha, ?_, o1, h⟩
        rcases rr.look (f := m) with ⟨_, e2⟩ | ⟨t, w, Ot, e2, _, _⟩
        · exact e2
        · rw [hm] at e2; cases e2
    · exact h.elim
theorem w_methX {ET : Ex → Env → Prop} {pl : Sem Bool} (G : Mf X.prog X.w X.K X.mg X.base Tq k C m ps sp) (hr : Room k X.A) (hgd : X.A.guards = some []) (tk : Takes X (wxOf Z ET))
    (h : WE Z X o env fun r e1 => methR (e :: es) Z X C m r e1 fun as e2 => callD sp as e2 (fun t e => P (.t t) e) ET)
    (hst : starEach (e :: es) X.env = (false, eval e X.env) :: starEach es X.env := by rfl) (hpl : (backTo pos (starEach es X.env)).any (·.1) = false := by rfl)
    (ht : eval (.Call (.Attribute o m apos) (e :: es) [] pos) X.env = (do
      let ov ← eval o X.env
      standAt apos.atName
      let (f, first) ← holding [ov] (getMethod ov m pl)
      callWith pos f first (backTo pos (starEach (e :: es) X.env)) (backToKw pos (keywordEach [] X.env))) := by rfl) :
    WE Z X (.Call (.Attribute o m apos) (e :: es) [] pos) env P := fun pins s σ H F O I b o0 => by
  obtain ⟨f, fd, g, c, hm, hb⟩ := G.ex
  refine PySem.W.methodCall_KW (pl := pl) (thn (h pins s σ H F O I b o0) fun u s1 ⟨v, H1, I1, rx, F1, O1, r, e1, b1, st, fr, q⟩ => ?_) ht
  obtain ⟨a, i, p, dx, vs, rfl, rfl, ha, hl, o1, q⟩ := methR_ok st q
  obtain rfl : u = Value.ref a := rx
  refine getmeth_ok I1 ha c hm hl ?_
  refine PySem.W.callWith_K (first := [.ref a]) (h₀ := X.base) I1.ok.mod.kin hm.kp (thn ((pa_As (Z := Z)).run pos pins s1 σ H1 (PostAs Z σ H1 F1 O1 _) I1 ⟨e1, F1, O1, _, b1, o1, q, fun _ _ q => q⟩) fun us s2 ⟨vs2, H2, I2, r2, F2, O2, as, e2, b2, o2, st2, fr2, q2⟩ => ⟨I2.kIn, ?_⟩) hst hpl
  have hl2 : (Value.ref a :: us ++ []).length = ps.length := by
    obtain ⟨ts, e3, Oc, Or, pm, sv, o3, hh⟩ := deref_ok (as := .bor a i p :: as) (vs := .ref a :: vs2) (.cons rfl st2) o2 q2
    rw [← g.len _ _ _ hh, ← sv.len, List.append_nil]
    show us.length + 1 = vs2.length + 1
    rw [← r2.length]
  have hb2 := hb s2 (Value.ref a :: us) I2.kIn hl2
  rw [List.append_nil] at hb2
  exact thn (call_g (us0 := .ref a :: us) (kw := []) (us := .ref a :: us) (vs := .ref a :: vs2) (as := .bor a i p :: as) g hr hgd tk hb2 I2 b2 o2 (.cons rfl st2) (.cons rfl r2) q2) (EP.imp fun v H' q => q.from (fr.trans fr2))
theorem w_methX0 {ET : Ex → Env → Prop} {pl : Sem Bool} (G : Mf X.prog X.w X.K X.mg X.base Tq k C m ps sp) (hr : Room k X.A) (hgd : X.A.guards = some []) (tk : Takes X (wxOf Z ET))
    (h : WE Z X o env fun r e1 => methR [] Z X C m r e1 fun as e2 => callD sp as e2 (fun t e => P (.t t) e) ET)
    (ht : eval (.Call (.Attribute o m apos) [] [] pos) X.env = (do
      let ov ← eval o X.env
      standAt apos.atName
      let (f, first) ← holding [ov] (getMethod ov m pl)
      callWith pos f first (backTo pos (starEach [] X.env)) (backToKw pos (keywordEach [] X.env))) := by rfl) :
    WE Z X (.Call (.Attribute o m apos) [] [] pos) env P := fun pins s σ H F O I b o0 => by
  obtain ⟨f, fd, g, c, hm, hb⟩ := G.ex
  refine PySem.W.methodCall_KW (pl := pl) (thn (h pins s σ H F O I b o0) fun u s1 ⟨v, H1, I1, rx, F1, O1, r, e1, b1, st, fr, q⟩ => ?_) ht
  obtain ⟨a, i, p, dx, vs, rfl, rfl, ha, hl, o1, q⟩ := methR_ok st q
  obtain rfl : u = Value.ref a := rx
  refine getmeth_ok I1 ha c hm hl ?_
  replace q : callD sp [.bor a i p] e1 (fun t e => P (R.t t) e) ET := q
  have hl2 : ([Value.ref a] ++ []).length = ps.length := by
    obtain ⟨ts, e3, Oc, Or, pm, sv, o3, hh⟩ := deref_ok (as := [.bor a i p]) (vs := [.ref a]) (.cons rfl .nil) o1 q
    rw [← g.len _ _ _ hh, ← sv.len]
    rfl
  have hb2 := hb s1 [Value.ref a] I1.kIn hl2
  rw [List.append_nil] at hb2
  exact PySem.W.callWith_K0 (first := [.ref a]) I1.kIn hm.kp (thn (call_g (us0 := [.ref a]) (kw := []) (us := [.ref a]) (vs := [.ref a]) (as := [.bor a i p]) g hr hgd tk hb2 I1 b1 o1 (.cons rfl .nil) (.cons rfl .nil) q) (EP.imp fun v H' q => q.from fr))
theorem w_meth {pl : Sem Bool} (G : Mf X.prog X.w X.K X.mg X.base Tq k C m ps sp) (hr : Room k X.A) (hgd : X.A.guards = some [])
    (h : WE Z X o env fun r e1 => methR (e :: es) Z X C m r e1 fun as e2 => callD sp as e2 (fun t e => P (.t t) e) fun _ _ => False)
    (hst : starEach (e :: es) X.env = (false, eval e X.env) :: starEach es X.env := by rfl) (hpl : (backTo pos (starEach es X.env)).any (·.1) = false := by rfl)
    (ht : eval (.Call (.Attribute o m apos) (e :: es) [] pos) X.env = (do
      let ov ← eval o X.env
      standAt apos.atName
      let (f, first) ← holding [ov] (getMethod ov m pl)
      callWith pos f first (backTo pos (starEach (e :: es) X.env)) (backToKw pos (keywordEach [] X.env))) := by rfl) :
    WE Z X (.Call (.Attribute o m apos) (e :: es) [] pos) env P := w_methX (pl := pl) G hr hgd takes_no h hst hpl ht
theorem w_meth0 {pl : Sem Bool} (G : Mf X.prog X.w X.K X.mg X.base Tq k C m ps sp) (hr : Room k X.A) (hgd : X.A.guards = some [])
    (h : WE Z X o env fun r e1 => methR [] Z X C m r e1 fun as e2 => callD sp as e2 (fun t e => P (.t t) e) fun _ _ => False)
    (ht : eval (.Call (.Attribute o m apos) [] [] pos) X.env = (do
      let ov ← eval o X.env
      standAt apos.atName
      let (f, first) ← holding [ov] (getMethod ov m pl)
      callWith pos f first (backTo pos (starEach [] X.env)) (backToKw pos (keywordEach [] X.env))) := by rfl) :
    WE Z X (.Call (.Attribute o m apos) [] [] pos) env P := w_methX0 (pl := pl) G hr hgd takes_no h ht

/-! ### C(..) -/
def callN (sp : Spc) (C : Addr) (as : List A) (env : Env) (PT : T → Env → Prop) (ET : Ex → Env → Prop) : Prop :=
  ∀ a, deref as env fun ts e2 => sp (.ins a C [] :: ts) (fun t ts' => t = .va .none ∧ match ts' with
      | some u :: ts'' => u.addr = some a ∧ putb as ts'' e2 fun e3 => PT u e3
      | _ => False)
    (fun ex ts' => match ts' with
      | _ :: ts'' => putb as ts'' e2 fun e3 => ET ex e3
      | [] => False)
theorem guards_make {A : Around} {C : Addr} {us : List Value} {kw : List (Str × Value)} (h : A.guards = some []) : (A.under (.builtin "type.__call__" ⟨.ref C :: us, kw⟩)).guards = some [] := by
  first | exact h | (simp [Around.under, Code.weight, Code.isCreation, Code.isGuard, Code.isCaller, Code.frames, Code.isFrame, guardIds, h])
theorem make_gx {fI : Addr} {fd : FuncData} {ET : Ex → Env → Prop} {as : List A} {vs : List V} {us us0 : List Value} {pins : List (Addr × Obj)} {s : Shared} {σ : L2.St} {H F : Hp} {O : List Addr}
    (M : Mk X.K C fI) (G : FnG X.prog X.w X.K X.mg X.base Tq k fI fd ps sp) (hr : Room (k + 1) X.A) (hg : X.A.guards = some []) (tk : Takes X (wxOf Z ET)) (hb : ∀ (s : Shared) (u : Value), X.K.In s.heap → (u :: us).length = ps.length → BindsTo s fd ⟨u :: us0, []⟩ (ps.zip (u :: us))) (I : Inv X pins σ H s) (b : Bas Z F H O) (o : OwE F H O σ env)
    (st : StAs F vs as) (r : Vals vs us) (h : callN sp C as env (fun t e => P (.t t) e) ET) : wpAny (model X.prog X.w) X.A (call (.ref C) us0) (EP X pins σ (Post Z σ H F O P)) X.xe s := by
  have nx : H (s.heap.objs.size + 1) = none := I.hok.fresh (Nat.le_succ _)
  have ndx : H s.heap.objs.size = none := I.hok.fresh (Nat.le_refl _)
  have nex : s.heap.objs.size ≠ s.heap.objs.size + 1 := Nat.ne_of_lt (Nat.lt_succ_self _)
  have h := h (s.heap.objs.size + 1)
  have I2 := Inv.made (C := C) I
  generalize eH : upd (upd H s.heap.objs.size (.own (s.heap.objs.size + 1))) (s.heap.objs.size + 1) (.ins C s.heap.objs.size []) = H2 at I2
  have h2x : H2 (s.heap.objs.size + 1) = some (.ins C s.heap.objs.size []) := by rw [← eH, upd_same]
  have h2d : H2 s.heap.objs.size = some (.own (s.heap.objs.size + 1)) := by rw [← eH, upd_ne nex, upd_same]
  have s2 : Same H H2 := fun c y e => by rw [← eH, upd_ne (ne_of_none e nx), upd_ne (ne_of_none e ndx)]; exact e
  obtain ⟨ts, e2, Oc, Or, pm, sv, o2, h⟩ := deref_ok st o h
  have ex : ∀ c ∈ Or, Held H c := o2.held
  have exc : ∀ c ∈ Oc, Held H c := fun c hc => o.held c (pm.mem_iff.mpr (List.mem_append_left _ hc))
  have keep2 : ∀ c, H c ≠ none → H2 c = H c := fun c hc => by
    cases q : H c with
    | none => exact absurd q hc
    | some y => exact s2 c y q
  -- the new instance beside the arguments
  have Fx : F (s.heap.objs.size + 1) = none := b.sub.free nx
  have Fd : F s.heap.objs.size = none := b.sub.free ndx
  have fr0 : Frm Tq H F O H2 F (O ++ [s.heap.objs.size + 1, s.heap.objs.size]) := ⟨Same.refl _, fun c y e _ _ => s2 c y e, fun c e => by rw [keep2 c e]; exact e, fun c e => .inl e, fun c hc => by
    rcases List.mem_append.mp hc with z | z
    · exact .inl z
    · rcases List.mem_cons.mp z with rfl | z
      · exact .inr nx
      · rw [List.mem_singleton.mp z]; exact .inr ndx, tab_same s2⟩
  have b0 : Bas Z F H2 (O ++ [s.heap.objs.size + 1, s.heap.objs.size]) := ⟨b.sub.trans s2, List.nodup_append.mpr ⟨b.nd, List.nodup_cons.mpr ⟨fun z => nex (List.mem_singleton.mp z).symm, List.nodup_cons.mpr ⟨fun z => (nomatch z), List.nodup_nil⟩⟩, fun c hc d hd z => by
      subst z
      have := o.there c hc
      rcases List.mem_cons.mp hd with z | z
      · exact this (z ▸ nx)
      · exact this ((List.mem_singleton.mp z) ▸ ndx)⟩, fun c hc => by
      rcases List.mem_append.mp hc with z | z
      · exact b.dis c z
      · rcases List.mem_cons.mp z with rfl | z
        · exact Fx
        · rw [List.mem_singleton.mp z]; exact Fd, b.abs.trans fr0⟩
  have pm2 : (O ++ [s.heap.objs.size + 1, s.heap.objs.size]).Perm (((s.heap.objs.size + 1) :: s.heap.objs.size :: Oc) ++ Or) := (List.perm_append_comm (l₁ := O)).trans ((pm.cons s.heap.objs.size).cons (s.heap.objs.size + 1))
  have bc := (b0.perm pm2).left.entry
  have sv2 : StV F H2 ((s.heap.objs.size + 1) :: s.heap.objs.size :: Oc) (.ref (s.heap.objs.size + 1) :: vs) (.ins (s.heap.objs.size + 1) C [] :: ts) := by
    have w0 : Ow F H2 [s.heap.objs.size + 1, s.heap.objs.size] (.ref (s.heap.objs.size + 1)) (.ins (s.heap.objs.size + 1) C []) := .ins h2x h2d .nil
    have svs : StV F H2 Oc vs ts := by
      have key : ∀ {Oc : List Addr} {vs : List V} {ts : List T}, StV F H Oc vs ts → (∀ c ∈ Oc, H2 c = H c) → StV F H2 Oc vs ts := fun {Oc vs ts} z => by
        induction z with
        | nil => intro _; exact .nil
        | cons w r ih => intro kk; exact .cons (w.stay (Same.refl _) fun c hc => kk c (List.mem_append_left _ hc)) (ih fun c hc => kk c (List.mem_append_right _ hc))
      exact key sv fun c hc => keep2 c (exc c hc).ne
    exact .cons w0 svs
  have r2 : Vals (V.ref (s.heap.objs.size + 1) :: vs) (Value.ref (s.heap.objs.size + 1) :: us) := .cons rfl r
  have hl : (Value.ref (s.heap.objs.size + 1) :: us).length = ps.length := by
    rw [← r2.length, sv2.len, G.len _ _ _ h]
  have ex2 : ∀ c ∈ Or, Held H2 c := fun c hc => let ⟨y, e, n⟩ := ex c hc; ⟨y, s2 c y e, n⟩
  refine wpAny_call (make_map (f := fI) I.kIn M.makes M.init (beq_iff_eq.mp M.fn) ?_)
  have hb2 := hb _ (Value.ref (s.heap.objs.size + 1)) I2.kIn hl
  have run := G.run (X.A.under (.builtin "type.__call__" ⟨.ref C :: us0, []⟩)) X.stack _ H2 ⟨Value.ref (s.heap.objs.size + 1) :: us0, []⟩ (Value.ref (s.heap.objs.size + 1) :: us) (V.ref (s.heap.objs.size + 1) :: vs) F ((s.heap.objs.size + 1) :: s.heap.objs.size :: Oc) (.ins (s.heap.objs.size + 1) C [] :: ts) _ _
    (fun cls d H' => ∃ e ts' F' O', Bas ⟨H2, F, (s.heap.objs.size + 1) :: s.heap.objs.size :: Oc, (b0.perm pm2).left.tabs⟩ F' H' O' ∧ StVO F' H' O' (.ref (s.heap.objs.size + 1) :: vs) ts' ∧ ExAt F' e cls d ∧ (match ts' with | _ :: ts'' => putb as ts'' e2 fun e3 => ET e e3 | [] => False)) (b0.perm pm2).left.tabs (hr.make C us0 []) (guards_make hg) (I2.env0.make C us0 []) hb2 r2 bc sv2 h
    fun e ts' cls d H' F' O' b' s' x' q => ⟨e, ts', F', O', b', s', x', q⟩
  refine codeAny_mono (run) fun rs s' hq => ?_
  have back : ∀ {F' H' : Hp} {O1 O2 : List Addr} {ts' : List (Option T)} {kk : Env → Prop}, Bas ⟨H2, F, _ :: s.heap.objs.size :: Oc, (b0.perm pm2).left.tabs⟩ F' H' (O1 ++ O2) → StVO F' H' O1 vs ts' → putb as ts' e2 kk →
      ∃ e3 O3, OwE F' H' O3 σ e3 ∧ Bas Z F' H' (O3 ++ O2) ∧ Frm Tq H F O H' F' (O3 ++ O2) ∧ kk e3 := fun {F' H' O1 O2 ts' kk} b' s' q => by
    have fr := b'.abs
    have b3 := Bas.frame fr (b0.perm pm2) b' ex2
    have keep := fr.rest (R := Or) (pm2.nodup b0.nd) ex2
    obtain ⟨e3, O3, Od, o3, p3, q3⟩ := putb_ok (F := F') (H := H') (st) s' (o2.stay fr.fz fun c hc => (keep c hc).trans (keep2 c (ex c hc).ne)) q
    have p4 : ((O1 ++ O2) ++ Or).Perm ((O3 ++ O2) ++ Od) := by
      have e1 : ((O1 ++ O2) ++ Or).Perm ((O1 ++ Or) ++ O2) := by
        rw [List.append_assoc, List.append_assoc]
        exact List.perm_append_comm.append_left O1
      have e2 : ((O3 ++ O2) ++ Od).Perm ((O3 ++ Od) ++ O2) := by
        rw [List.append_assoc, List.append_assoc]
        exact List.perm_append_comm.append_left O3
      exact e1.trans ((p3.append_right O2).trans e2.symm)
    exact ⟨e3, O3, o3, (b3.perm p4).left, fr0.trans ((fr.frame (R := Or)).perm (fun c => pm2.symm.mem_iff) (fun c hc => p4.mem_iff.mpr (List.mem_append_left _ hc))), q3⟩
  cases rs with
  | error e =>
    refine tk e s' (XE.of_call I2 (fun cls d H' hE => ?_) hq)
    obtain ⟨y, ts', F', O', b', sv', xa, q⟩ := hE
    cases sv' with
    | un sv' =>
      obtain ⟨e3, O3, o3, b3, fr3, q3⟩ := back (O2 := []) (by rw [List.append_nil]; exact b') sv' q
      rw [List.append_nil] at b3 fr3
      exact ⟨F', O3, e3, y, b3, o3, xa, q3⟩
    | cons w sv' =>
      rename_i Ou O1' u ts''
      obtain ⟨e3, O3, o3, b3, fr3, q3⟩ := back (O1 := O1') (O2 := Ou) (b'.perm List.perm_append_comm) sv' q
      exact ⟨F', O3, e3, y, b3.left, o3, xa, q3⟩
  | ok fl =>
    cases fl with
    | ret u =>
      obtain ⟨v, H', I3, rv, F', O1, O2, t, ts', b', sv', w', rfl, q⟩ := I2.after hq
      cases w' with
      | va rr =>
        cases rr
        refine ⟨rv, ?_⟩
        cases sv' with
        | un sv' => exact q.elim
        | cons w sv' =>
          rename_i Ou O1' u ts''
          obtain ⟨hu, q⟩ := q
          have pmx : ((Ou ++ O1') ++ []).Perm (O1' ++ Ou) := by rw [List.append_nil]; exact List.perm_append_comm
          obtain ⟨e3, O3, o3, b3, fr3, q3⟩ := back (O1 := O1') (O2 := Ou) (b'.perm pmx) sv' q
          exact ⟨V.ref (s.heap.objs.size + 1), H', I3, rfl, F', O3 ++ Ou, .t u, e3, b3, ⟨O3, Ou, rfl, o3, w⟩, fr3, q3⟩
    | next => exact hq.elim
    | brk => exact hq.elim
    | cont => exact hq.elim
theorem make_g {fI : Addr} {fd : FuncData} {ET : Ex → Env → Prop} {as : List A} {vs : List V} {us : List Value} {pins : List (Addr × Obj)} {s : Shared} {σ : L2.St} {H F : Hp} {O : List Addr}
    (M : Mk X.K C fI) (G : FnG X.prog X.w X.K X.mg X.base Tq k fI fd ps sp) (hr : Room (k + 1) X.A) (hg : X.A.guards = some []) (tk : Takes X (wxOf Z ET)) (hb : Binds X.K fd ps []) (I : Inv X pins σ H s) (b : Bas Z F H O) (o : OwE F H O σ env)
    (st : StAs F vs as) (r : Vals vs us) (h : callN sp C as env (fun t e => P (.t t) e) ET) : wpAny (model X.prog X.w) X.A (call (.ref C) us) (EP X pins σ (Post Z σ H F O P)) X.xe s :=
  make_gx (us0 := us) M G hr hg tk (fun s u X hl => by
    have := hb s (u :: us) X (by rw [List.append_nil]; exact hl)
    rw [List.append_nil] at this
    exact this) I b o st r h
theorem w_makeX {ET : Ex → Env → Prop} (G : Ck X.prog X.w X.K X.mg X.base Tq k x C ps sp) (hr : Room (k + 1) X.A) (hgd : X.A.guards = some []) (tk : Takes X (wxOf Z ET)) (h : WAs Z X (e :: es) env fun as e1 => callN sp C as e1 (fun t e => P (.t t) e) ET)
    (hg : Gl X x := by rfl) (hdb : (x == ("__debug__" : Str)) = false := by decide) (he : starEach (e :: es) X.env = (false, eval e X.env) :: starEach es X.env := by rfl) (hpl : (backTo pos (starEach es X.env)).any (·.1) = false := by rfl) :
    WE Z X (.Call (.Name x p) (e :: es) [] pos) env P := fun pins s σ H F O I b o => by
  obtain ⟨fI, fd, g, M, hm, hb⟩ := G.ex
  refine wpAny_Call_Name_kw (ld_glob I hg hm ?_ hdb)
  refine PySem.W.callWith_K (h₀ := X.base) I.ok.mod.kin M.kp (thn ((pa_As (Z := Z)).run pos pins s σ H (PostAs Z σ H F O _) I ⟨env, F, O, _, b, o, h, fun _ _ q => q⟩) fun us s1 ⟨vs, H1, I1, r, F1, O1, as, e1, b1, o1, st, fr, q⟩ => ⟨I1.kIn, ?_⟩) he hpl
  exact thn (make_g M g hr hgd tk hb I1 b1 o1 st r q) (EP.imp fun v H' q => q.from fr)
theorem w_make (G : Ck X.prog X.w X.K X.mg X.base Tq k x C ps sp) (hr : Room (k + 1) X.A) (hgd : X.A.guards = some []) (h : WAs Z X (e :: es) env fun as e1 => callN sp C as e1 (fun t e => P (.t t) e) fun _ _ => False)
    (hg : Gl X x := by rfl) (hdb : (x == ("__debug__" : Str)) = false := by decide) (he : starEach (e :: es) X.env = (false, eval e X.env) :: starEach es X.env := by rfl) (hpl : (backTo pos (starEach es X.env)).any (·.1) = false := by rfl) :
    WE Z X (.Call (.Name x p) (e :: es) [] pos) env P := w_makeX G hr hgd takes_no h hg hdb he hpl
end
end QL

/-! QN: min, max, sorted over data; tuple(reversed(list)). -/
namespace QL
open PySem PySem.Spec PyProof.Rows L2
section
variable {Tq : List (Addr × Str)} {Z : Zb Tq} {X : Cx} {e a b c o : Expr} {es : List Expr} {env : Env} {pos pos2 p p2 : Pos} {P : R → Env → Prop}
/-- what the items of a list are known to be, as the kit's data words take it -/
theorem RpA.readsA {pins : List (Addr × Obj)} {σ : L2.St} {F H : Hp} {s : Shared} (I : Inv X pins σ H s) (sF : Same F H) : ∀ {vs : List V} {us : List Value} {ds : List D}, RpA F vs ds → Vals vs us → PyData.hasDictAll ds = false → ∃ as, ReadsAll s.heap us ds as
  | _, _, _, .nil, .nil, _ => ⟨_, .nil⟩
  | _, _, _, .cons h r, .cons g q, nd => by
    have nd2 := Bool.or_eq_false_iff.mp (show (PyData.hasDict _ || PyData.hasDictAll _) = false from nd)
    obtain ⟨as, k1⟩ := (h.mono sF).reads I g nd2.1
    obtain ⟨bs, k2⟩ := r.readsA I sF q nd2.2
    exact ⟨_, .cons k1 k2⟩
def bestG (f : D → List D → D) (ds : List D) (k : T → Prop) : Prop := ∃ x xs d, (ds = [.list (x :: xs)] ∨ ds = [.tuple (x :: xs)]) ∧ PyData.hasDictAll (x :: xs) = false ∧ W.AlikeAll (x :: xs) ∧ PyData.depthAll (x :: xs) ≤ 60 ∧ f x xs = d ∧ k (.va d)
theorem best_fin {pins : List (Addr × Obj)} {σ : L2.St} {F H : Hp} {s : Shared} {vs : List V} {us : List Value} {ds : List D} {d : D} {k : T → Prop} (I : Inv X pins σ H s) (sF : Same F H) (r : RpA F vs ds) (q : Vals vs us) (nd : PyData.hasDictAll ds = false) (h : k (.va d)) {i : Nat} {v : Value} {h' : Heap} {tk : Nat} {bs : List Addr}
    (hi : us[i]? = some v) (rd : Reads h' v d bs) (kk : ∀ b o, s.heap.get? b = some o → h'.get? b = some o) : EP X pins σ (NewV F H k) v { s with heap := h', toks := tk } := by
  have gv : ∃ x, vs[i]? = some x ∧ L2.RelV x v := by
    cases hx : vs[i]? with
    | none => rw [List.getElem?_eq_none_iff, q.length, ← List.getElem?_eq_none_iff] at hx; rw [hx] at hi; cases hi
    | some x => obtain ⟨u, g, rr⟩ := q.get hx; rw [g] at hi; cases hi; exact ⟨x, rfl, rr⟩
  obtain ⟨x, hx, rx⟩ := gv
  obtain ⟨d', hd, rp⟩ := r.get hx
  have nd' : d'.hasDict = false := by
    have key : ∀ {ds : List D} {i : Nat}, PyData.hasDictAll ds = false → ds[i]? = some d' → d'.hasDict = false := fun {ds} => by
      induction ds with
      | nil => intro i _ z; cases z
      | cons y ys ih =>
        intro i z e
        have z2 := Bool.or_eq_false_iff.mp (show (PyData.hasDict y || PyData.hasDictAll ys) = false from z)
        cases i with
        | zero => cases e; exact z2.1
        | succ i => exact ih z2.2 e
    exact key nd hd
  obtain ⟨as, k1⟩ := (rp.mono sF).reads I rx nd'
  have k2 := PyProof.Rows.Reads.keeps kk k1
  obtain ⟨rfl, _⟩ := Reads.unique k2 _ _ rd
  exact ⟨x, H, I.kept kk, rx, NewV.val sF rp h⟩
theorem dc_minL (hc : X.calm = true) (hu : X.A.units + 110 < cLine) : DCall X (.builtin "min") (bestG W.minD) := fun pins s σ H F vs us ds k I sF ws rv ⟨x, xs, d0, e, nd, al, dp, ed, h⟩ => by
  subst ed
  rcases e with rfl | rfl
  · obtain ⟨v, rfl, w⟩ := ws.one
    obtain ⟨u, rfl, ru⟩ := rv.one
    obtain ⟨p, ys, rfl, h1, r1⟩ := w.lst' sF
    obtain rfl : u = Value.ref p := ru
    obtain ⟨its, rv2, p2, hz⟩ := I.list (SqL.of h1)
    obtain ⟨as, rd⟩ := r1.readsA I sF rv2 nd
    exact W.min_list_data (I.ok.hd hc) p2.isList (by simpa using rd) al (by omega) fun i v h' tk bs hi hr kk => best_fin I sF r1 rv2 nd h (by simpa using hi) hr kk
  · obtain ⟨v, rfl, w⟩ := ws.one
    obtain ⟨u, rfl, ru⟩ := rv.one
    obtain ⟨p, ys, rfl, h1, r1⟩ := w.tup
    obtain rfl : u = Value.ref p := ru
    obtain ⟨its, rv2, p2, hz⟩ := I.tuple ((.inl (rd_mono sF h1)))
    obtain ⟨as, rd⟩ := r1.readsA I sF rv2 nd
    exact W.min_tuple_data (I.ok.hd hc) (show s.heap.IsTuple p its.toArray from p2) (by simpa using rd) al (by omega) fun i v h' tk bs hi hr kk => best_fin I sF r1 rv2 nd h (by simpa using hi) hr kk
/-- one thing alone is sorted -/
theorem sorts_one {prog : Program} {w : World} {A : Around} {s : Shared} {v : Value} {d : D} {as : List Addr} (r : Reads s.heap v d as) (al : W.alike d d = true) (hn : d ≠ .none) (hu : A.units + d.depth < cLine) : W.SortsAt prog w A s (W.dataKind s.heap [d]) [v] := by
  have al1 : W.AllAlike [d] := fun x hx y hy => by rw [List.mem_singleton.mp hx, List.mem_singleton.mp hy]; exact al
  refine ⟨fun x hx => ?_, general', ?_, fun h2 => absurd h2 (by simp)⟩
  · rw [List.mem_singleton.mp hx]
    exact ⟨_, W.dataKind_some al1 (List.mem_singleton.mpr rfl) r⟩
  · intro E x y a b Q ha hb hq
    obtain ⟨d1, as1, hd, ra, rfl⟩ := W.dataKind_inv ha
    obtain ⟨d2, as2, hd', rb, rfl⟩ := W.dataKind_inv hb
    have e1 := List.mem_singleton.mp hd
    have e2 := List.mem_singleton.mp hd'
    subst e1 e2
    show wpAny _ _ (oneLt' false x y) _ _ _
    exact W.oneLt_alike (fun z => (nomatch z)) ra rb al hn (by omega) hq
theorem sorted_data1 {prog : Program} {w : World} {A : Around} {E : Value → Shared → Prop} {s : Shared} {β : Type} {vs : List Value} {bs : List β} {enc : β → PyData} {R : Value → β → Prop} {l : Addr} {Q : Value → Shared → Prop} (hl : s.heap.IsList l vs.toArray) (e : W.EachIs R vs bs) (er : W.EachIs (fun v b => ∃ as, Reads s.heap v (enc b) as) vs bs) (hal : W.AllAlike (bs.map enc)) (hk : W.Sortable (bs.map enc) ∨ ∃ b, bs = [b] ∧ enc b ≠ .none) (hL : bs.length ≤ sizeLine)
    (hu : ∀ b, b ∈ bs → A.units + 2 + (enc b).depth < cLine) (h : ∀ out, out.length = bs.length → W.EachIs R out (bs.mergeSort (W.dataLe false enc)) → Q (.ref (s.heap.objs.size + 1)) { s with heap := sortedAll s.heap vs (List.toArray out) }) :
    wpAny (model prog w) A (call (.builtin "sorted") [.ref l]) Q E s := by
  rcases hk with hk | ⟨b, rfl, hn⟩
  · exact W.sorted_data hl e er hal hk hL hu h
  · have er' : W.EachIs (fun v b => ∃ as, Reads (W.sortingHeap (W.copyHeap s.heap vs) (s.heap.objs.size + 1) vs) v (enc b) as) vs [b] := er.mono fun _ _ ⟨as, r⟩ => ⟨as, PyProof.Rows.Reads.keeps (fun _ _ => W.sorting_copy_old) r⟩
    cases er' with
    | cons r rn =>
      cases rn
      obtain ⟨as, r⟩ := r
      have S := sorts_one (prog := prog) (w := w) (A := A.in1.in1) (s := { s with heap := W.sortingHeap (W.copyHeap s.heap [_]) (s.heap.objs.size + 1) [_] }) r (hal _ (List.mem_singleton.mpr rfl) _ (List.mem_singleton.mpr rfl)) hn (hu b (List.mem_singleton.mpr rfl))
      exact W.sorted_vals hl S (by rw [e.length]; exact hL) (h _ (by rw [W.sortVals_length false rfl]; exact e.length) (W.sortVals_data (enc := enc) (bs := [b]) false e (.cons ⟨as, r⟩ .nil) hal))
/-- sorted(list of alike data) -/
def sortedG (ds : List D) (k : T → Prop) : Prop := ∃ xs ys, ds = [.list xs] ∧ PyData.hasDictAll xs = false ∧ W.AllAlike xs ∧ (W.Sortable xs ∨ ∃ d, xs = [d] ∧ d ≠ .none) ∧ (∀ d ∈ xs, d.depth ≤ 60) ∧ xs.mergeSort (W.dataLe false id) = ys ∧ ∀ p, k (.lst p ys)
theorem dc_sorted (hu : X.A.units + 110 < cLine) : DCall X (.builtin "sorted") sortedG := fun pins s σ H F vs us ds k I sF ws rv ⟨xs, ysd, e, nd, al, so, dp, ed, h⟩ => by
  subst e ed
  obtain ⟨v, rfl, w⟩ := ws.one
  obtain ⟨u, rfl, ru⟩ := rv.one
  obtain ⟨p, ys, rfl, h1, r1⟩ := w.lst' sF
  obtain rfl : u = Value.ref p := ru
  obtain ⟨its, rv2, p2, hz⟩ := I.list (SqL.of h1)
  have each : ∀ {vs : List V} {us : List Value} {ds : List D}, RpA F vs ds → Vals vs us → PyData.hasDictAll ds = false → W.EachIs (fun u d => ∃ v, L2.RelV v u ∧ Rp F v d) us ds ∧ W.EachIs (fun u d => ∃ as, Reads s.heap u (id d) as) us ds := fun {vs us ds} r q nd => by
    induction us generalizing vs ds with
    | nil => cases q; cases r; exact ⟨.nil, .nil⟩
    | cons u us ih =>
      cases q with
      | cons g q =>
        cases r with
        | cons h r =>
          have nd2 := Bool.or_eq_false_iff.mp (show (PyData.hasDict _ || PyData.hasDictAll _) = false from nd)
          obtain ⟨i1, i2⟩ := ih r q nd2.2
          exact ⟨.cons ⟨_, g, h⟩ i1, .cons ((h.mono sF).reads I g nd2.1) i2⟩
  obtain ⟨e1, e2⟩ := each r1 rv2 nd
  refine sorted_data1 p2.isList e1 e2 (by rw [List.map_id]; exact al) (so.imp (fun z => by rw [List.map_id]; exact z) fun z => z) (by rw [← r1.len]; exact hz) (fun d hd => by have := dp d hd; show _ + 2 + d.depth < _; omega) fun out hl eo => ?_
  obtain ⟨ep, he'⟩ := PyProof.Rows.sortedAll_at s.heap its out.toArray
  have back : ∀ {us : List Value} {ds : List D}, W.EachIs (fun u d => ∃ v, L2.RelV v u ∧ Rp F v d) us ds → ∃ vs, Vals vs us ∧ RpA F vs ds := fun {us ds} r => by
    induction r with
    | nil => exact ⟨[], .nil, .nil⟩
    | cons h r ih =>
      obtain ⟨v, g, q⟩ := h
      obtain ⟨vs, i1, i2⟩ := ih
      exact ⟨v :: vs, .cons g i1, .cons q i2⟩
  obtain ⟨vs', k1, k2⟩ := back eo
  have np : H (s.heap.objs.size + 1) = none := I.hok.fresh (Nat.le_succ _)
  refine ⟨.ref (s.heap.objs.size + 1), upd H (s.heap.objs.size + 1) (.lst vs'), I.laid (t' := s.toks) (fun _ _ => PyProof.Rows.sortedAll_old) (Nat.le_succ _) ⟨?_, out, ep, k1, he'⟩, rfl, NewV.lst sF k2 np (h _)⟩
  rw [k1.length, hl, ← r1.len]
  exact hz
end
end QL

/-! QO: displays with stars, x += e, comprehensions without a state. -/
namespace QL
open PySem PySem.Spec PyProof.Rows L2 StX
inductive Sg
  | a (x : A)
  | s (xs : List D)
def flatS : List Sg → List A
  | [] => []
  | .a x :: r => x :: flatS r
  | .s xs :: r => xs.map A.va ++ flatS r
def absorbS : List Sg → Env → (List D → Env → Prop) → Prop
  | [], env, k => k [] env
  | .a (.va d) :: as, env, k => absorbS as env fun ds env' => k (d :: ds) env'
  | .a (.bor a i p) :: as, env, k => match getP i p env with
    | some t => t.addr = some a ∧ match frzT t with
      | some d => absorbS as (setP i p (.va d) env) fun ds env' => k (d :: ds) env'
      | none => False
    | none => False
  | .s xs :: as, env, k => absorbS as env fun ds env' => k (xs ++ ds) env'
theorem absorb_vas : ∀ (xs : List D) {as : List A} {env : Env} {k : List D → Env → Prop}, absorb as env (fun ds e => k (xs ++ ds) e) → absorb (xs.map A.va ++ as) env k
  | [], _, _, _, h => h
  | x :: xs, _, _, k, h => by
    show absorb _ _ fun ds env' => k (x :: ds) env'
    exact absorb_vas xs (k := fun ds e => k (x :: ds) e) h
theorem absorbS_flat : ∀ {as : List Sg} {env : Env} {k : List D → Env → Prop}, absorbS as env k → absorb (flatS as) env k
  | [], _, _, h => h
  | .a (.va d) :: as, _, k, h => absorbS_flat (as := as) h
  | .a (.bor a i p) :: as, env, k, h => by
    show absorb (.bor a i p :: flatS as) env k
    unfold absorbS at h
    unfold absorb
    cases hg : getP i p env with
    | none => rw [hg] at h; exact h.elim
    | some t =>
      rw [hg] at h
      refine ⟨h.1, ?_⟩
      have h := h.2
      cases hf : frzT t with
      | none => simp only [hf] at h
      | some d => simp only [hf] at h ⊢; exact absorbS_flat h
  | .s xs :: as, env, k, h => absorb_vas xs (absorbS_flat (as := as) h)
def starD (ds : List D) (k : List D → Prop) : Prop := match ds with
  | [.tuple xs] => k xs
  | [.list xs] => k xs
  | _ => False
def starOf : Expr → Option Expr
  | .Starred e _ => some e
  | _ => none
def WAx {Tq : List (Addr × Str)} (Z : Zb Tq) (X : Cx) : List Expr → Env → (List Sg → Env → Prop) → Prop
  | [], env, P => P [] env
  | e :: es, env, P => match starOf e with
    | some e' => (starEach (e :: es) X.env = (true, eval e' X.env) :: starEach es X.env) ∧ WA Z X e' env fun a e1 => absorb [a] e1 fun ds e2 => starD ds fun xs => WAx Z X es e2 fun as e3 => P (.s xs :: as) e3
    | none => (starEach (e :: es) X.env = (false, eval e X.env) :: starEach es X.env) ∧ WA Z X e env fun a e1 => WAx Z X es e1 fun as e2 => P (.a a :: as) e2
def PostX {Tq : List (Addr × Str)} (Z : Zb Tq) (σ : L2.St) (H0 F0 : Hp) (O0 : List Addr) (P : List Sg → Env → Prop) : List V → Hp → Prop := fun vs H => ∃ F O as env, Bas Z F H O ∧ OwE F H O σ env ∧ StAs F vs (flatS as) ∧ Frm Tq H0 F0 O0 H F O ∧ P as env
def tAx {Tq : List (Addr × Str)} (Z : Zb Tq) (X : Cx) (es : List Expr) : TA := fun σ H Q => ∃ env F O P, Bas Z F H O ∧ OwE F H O σ env ∧ WAx Z X es env P ∧ ∀ v H', PostX Z σ H F O P v H' → Q v H'
theorem RpA.stas {F : Hp} : ∀ {vs : List V} {ds : List D}, RpA F vs ds → StAs F vs (ds.map A.va)
  | _, _, .nil => .nil
  | _, _, .cons h r => .cons h r.stas
theorem StAs.app {F : Hp} {vs us : List V} {as bs : List A} (h : StAs F vs as) (g : StAs F us bs) : StAs F (vs ++ us) (as ++ bs) := by
  induction h with
  | nil => exact g
  | cons a _ ih => exact .cons a ih
theorem pa_Ax {Tq : List (Addr × Str)} {Z : Zb Tq} {X : Cx} : ∀ {es : List Expr}, PA X es (tAx Z X es)
  | [] => ⟨fun pos pins s σ H Q I ⟨env, F, O, P, b, o, w, q⟩ => pa_nil.run pos pins s σ H Q I (q [] H ⟨F, O, [], env, b, o, .nil, Frm.refl _ _ _, w⟩)⟩
  | e :: es => ⟨fun pos pins s σ H Q I ⟨env, F, O, P, b, o, w, q⟩ => by
    unfold WAx at w
    cases hs : starOf e with
    | none =>
      simp only [hs] at w
      have hp := pa_cons (X := X) (pe_A (Z := Z) (e := e)) (pa_Ax (Z := Z) (es := es)) w.1
      refine hp.run pos pins s σ H Q I ⟨env, F, O, _, b, o, w.2, ?_⟩
      rintro v1 H1 ⟨F1, O1, a1, env1, b1, o1, st1, fr1, w1⟩
      refine ⟨env1, F1, O1, _, b1, o1, w1, ?_⟩
      rintro vs H2 ⟨F2, O2, as, env2, b2, o2, st2, fr2, w2⟩
      exact q _ _ ⟨F2, O2, .a a1 :: as, env2, b2, o2, .cons (st1.mono fr2.fz) st2, fr1.trans fr2, w2⟩
    | some e' =>
      simp only [hs] at w
      obtain ⟨p, rfl⟩ : ∃ p, e = .Starred e' p := by
        cases e with
        | Starred x p => cases hs; exact ⟨p, rfl⟩
        | _ => cases hs
      have hp := pa_star (X := X) (pe_A (Z := Z) (e := e')) (pa_Ax (Z := Z) (es := es)) w.1
      refine hp.run pos pins s σ H Q I ⟨env, F, O, _, b, o, w.2, ?_⟩
      rintro v1 H1 ⟨F1, O1, a1, env1, b1, o1, st1, fr1, w1⟩
      obtain ⟨F2, O2, ds, e2, b2, o2, r2, fr2, w2⟩ := absorb_ok (.cons st1 .nil) b1 o1 w1
      unfold starD at w2
      split at w2
      · cases r2 with
        | cons r3 rn =>
          cases rn
          cases r3 with
          | tup h3 r3 =>
            refine ⟨_, _, rfl, .inl ((.inl (rd_mono b2.sub h3))), e2, F2, O2, _, b2, o2, w2, ?_⟩
            rintro vs H3 ⟨F3, O3, as, env3, b3, o3, st3, fr3, w3⟩
            exact q _ _ ⟨F3, O3, .s _ :: as, env3, b3, o3, (r3.mono fr3.fz).stas.app st3, (fr1.trans fr2).trans fr3, w3⟩
      · cases r2 with
        | cons r3 rn =>
          cases rn
          cases r3 with
          | lst h3 r3 =>
            refine ⟨_, _, rfl, .inr (SqL.of (b2.sub _ _ h3)), e2, F2, O2, _, b2, o2, w2, ?_⟩
            rintro vs H3 ⟨F3, O3, as, env3, b3, o3, st3, fr3, w3⟩
            exact q _ _ ⟨F3, O3, .s _ :: as, env3, b3, o3, (r3.mono fr3.fz).stas.app st3, (fr1.trans fr2).trans fr3, w3⟩
      · exact w2.elim⟩
section
variable {Tq : List (Addr × Str)} {Z : Zb Tq} {X : Cx} {e a b c o tg iter elt : Expr} {es : List Expr} {env : Env} {pos : Pos} {P : R → Env → Prop}
/-- a tuple with stars -/
theorem w_tupX {x1 : _} (h : WAx Z X es env fun as env1 => absorbS as env1 fun ds env2 => ds.length ≤ sizeLine ∧ P (.t (.va (.tuple ds))) env2) : WE Z X (.Tuple es x1 pos) env P :=
  we_of (pe_tup (pa_Ax (Z := Z))) fun σ H F O b o => ⟨env, F, O, _, b, o, h, fun vs H1 ⟨F1, O1, as, env1, b1, o1, st1, fr1, h1⟩ => by
    obtain ⟨F2, O2, ds, env2, b2, o2, r2, fr2, z, q⟩ := absorb_ok st1 b1 o1 (absorbS_flat h1)
    refine ⟨by rw [r2.len]; exact z, fun p hp => ?_⟩
    exact ((NewV.tup b2.sub r2 hp (k := fun t => t = .va (.tuple ds)) rfl).post b2 o2 (fun t e => by subst e; exact q)).from (fr1.trans fr2)⟩
theorem dip_sub : DOp X (inplaceOp .Sub) subD := by
  intro pins s σ H F v1 v2 u1 u2 d1 d2 k I sF w1 w2 r1 r2 hg
  cases d1 with
  | int i =>
    cases d2 with
    | int j =>
      cases w1.int
      cases w2.int
      exact in_sub pins s σ H _ _ u1 u2 _ I r1 r2 ⟨i, j, rfl, rfl, NewV.val sF (.int _) hg⟩
    | _ => exact hg.elim
  | _ => exact hg.elim
structure FMo (f : TF) : Prop where
  mo : ∀ {d : D} {e : Env} {k k' : Env → Prop}, f d e k → (∀ e', k e' → k' e') → f d e k'
structure FMos (f : TFs) : Prop where
  mo : ∀ {d : List D} {e : Env} {k k' : Env → Prop}, f d e k → (∀ e', k e' → k' e') → f d e k'
theorem fm_name {i : Nat} : FMo (fName i) := ⟨fun h hk => ⟨h.1, hk _ h.2⟩⟩
theorem fm_nil : FMos fNil := ⟨fun h hk => ⟨h.1, hk _ h.2⟩⟩
theorem fm_cons {f : TF} {fs : TFs} (h1 : FMo f) (h2 : FMos fs) : FMos (fCons f fs) := ⟨fun {d e k k'} h hk => by
  cases d with
  | nil => exact h.elim
  | cons d r => exact h1.mo h fun e' w => h2.mo w hk⟩
theorem fm_tup {n : Nat} {fs : TFs} (h1 : FMos fs) : FMo (fTup n fs) := ⟨fun {d e k k'} h hk => by
  unfold fTup at h ⊢
  split at h
  · exact ⟨h.1, h1.mo h.2 hk⟩
  · exact h.elim⟩
theorem fm_tup2 {i j : Nat} : FMo (fTup 2 (fCons (fName i) (fCons (fName j) fNil))) := fm_tup (fm_cons fm_name (fm_cons fm_name fm_nil))
/-- [elt for x in ds]: ds are xs seen by enc, elt of x is g x; env0: the frame behind it -/
theorem lc_map {scope : Scope} {f : TF} (fm : FMo f) {vs : List Nat} {ds : List D} {e1 : Env} {α : Type} (enc : α → D) (xs : List α) (g : α → D) (env0 : Env) (h0 : wipeE e1 vs = env0) (hd : ds = xs.map enc) (hl : xs.length < sizeLine)
    (step : ∀ (k : Nat) x, xs[k]? = some x → f (enc x) env0 fun e' => Blk X scope fun X' => WA Z X' elt e' fun a e3 => absorb [a] e3 fun ds e4 => ds = [g x] ∧ wipeE e4 vs = env0)
    (fin : ∀ p, P (.t (.lst p (xs.map g))) env0) : LcI Z X scope f elt vs (fun e k => k true e) P ds e1 := by
  subst hd
  refine ⟨fun k acc e => e = env0 ∧ acc = (xs.take k).map g, ⟨h0, rfl⟩, ?_, ?_⟩
  · rintro k d acc e hk ⟨rfl, rfl⟩
    rw [List.getElem?_map, Option.map_eq_some_iff] at hk
    obtain ⟨x, hx, rfl⟩ := hk
    have q := step k x hx
    have up : ∀ {e' : Env}, (Blk X scope fun X' => WA Z X' elt e' fun a e3 => absorb [a] e3 fun ds e4 => ds = [g x] ∧ wipeE e4 vs = e) → ((true = true → ElI Z X scope elt vs (fun acc e0 => e0 = e ∧ acc = (xs.take (k + 1)).map g) ((xs.take k).map g) e') ∧ (true = false → (fun acc e0 => e0 = e ∧ acc = (xs.take (k + 1)).map g) ((xs.take k).map g) (wipeE e' vs))) := fun {e'} w => by
      refine ⟨fun _ s H C cl fp => ?_, fun z => nomatch z⟩
      refine WE.imp (w s H C cl fp) fun r e3 hr => ?_
      have ab : ∀ {a : A} {e3 : Env}, absorb [a] e3 (fun ds e4 => ds = [g x] ∧ wipeE e4 vs = e) → absorb [a] e3 fun ds e4 => match ds with | [y] => ((xs.take k).map g).length < sizeLine ∧ (fun acc e0 => e0 = e ∧ acc = (xs.take (k + 1)).map g) ((xs.take k).map g ++ [y]) (wipeE e4 vs) | _ => False := fun {a e3} h => by
        have fin : ∀ {y : D} {e4 : Env}, [y] = [g x] ∧ wipeE e4 vs = e → ((xs.take k).map g).length < sizeLine ∧ (wipeE e4 vs = e ∧ (xs.take k).map g ++ [y] = (xs.take (k + 1)).map g) := fun {y e4} ⟨h1, h2⟩ => by
          cases h1
          refine ⟨?_, h2, ?_⟩
          · rw [List.length_map, List.length_take]; omega
          · rw [List.take_add_one, hx]; simp
        cases a with
        | va d => exact fin h
        | bor a i p =>
          unfold absorb at h ⊢
          split at h
          · refine ⟨h.1, ?_⟩
            have h := h.2
            split at h
            · exact fin h
            · exact h.elim
          · exact h.elim
      cases r with
      | bor a i p => exact ab hr
      | t t =>
        unfold toA at hr ⊢
        simp only at hr ⊢
        split at hr
        · rename_i d hf
          exact ab (a := .va d) hr
        · exact hr.elim
    exact fm.mo q fun e' w => up w
  · rintro acc e ⟨rfl, rfl⟩ p
    rw [List.length_map, List.take_length]
    exact fin p
end
end QL

/-! QP: t[::-1]; a list of one thing sorted; comprehensions with an if. -/
namespace PySem.HTR
open PySem PySem.Spec PyProof.Rows HT PySem.SeqAt PySem.MeetsSeq PySem.MeetsSeq2 PySem.MeetsSeq3
open PySem.AutoSeq1 (wpAny_loadPart')
section
variable {prog : Program} {w : World} {A : Around} {s : Shared} {E : Value → Shared → Prop}
theorem adjust_rev (n : Nat) : Builtin.Slice.sliceAdjust none none (-1) (n : Int) = ((n : Int) - 1, -1) := by
  unfold Builtin.Slice.sliceAdjust
  simp
theorem places_rev (n : Nat) : Builtin.Slice.slicePlaces ((n : Int) - 1) (-1) (-1) = n := by
  unfold Builtin.Slice.slicePlaces
  simp
  omega
theorem sliceApplied_rev {sl : Addr} {vl vu vs : Value} {n : Nat} {Q : Int × Int × Nat → Shared → Prop} (hs : s.heap.IsSliceOf sl vl vu vs) (pl : IsPart vl none) (pu : IsPart vu none) (ps : IsPart vs (some (-1)))
    (h : Q ((n : Int) - 1, -1, n) s) : wpAny (model prog w) A (Builtin.Slice.sliceApplied (.ref sl) (pure (n : Int))) Q E s := by
  obtain ⟨os, hos, hcs, hds⟩ := id hs
  unfold Builtin.Slice.sliceApplied Builtin.Slice.sliceFields
  refine wpAny_bind (wpAny_bind (wpAny_field hos hds (x := vl) rfl (wpAny_bind (wpAny_field hos hds (x := vu) rfl (wpAny_bind (wpAny_field hos hds (x := vs) rfl (wpAny_pure ?_)))))))
  refine wpAny_bind (slicePart_ ps ?_)
  show wpAny _ _ (if ((-1 : Int) == 0) = true then _ else _) _ _ s
  rw [if_neg (by decide)]
  refine wpAny_bind (slicePart_ pl (wpAny_bind (slicePart_ pu (wpAny_bind (wpAny_pure ?_)))))
  show wpAny _ _ (match Builtin.Slice.sliceAdjust none none (-1) (n : Int) with | (lo, hi) => pure (lo, (-1 : Int), Builtin.Slice.slicePlaces lo hi (-1))) _ _ s
  rw [adjust_rev]
  show wpAny _ _ (pure ((n : Int) - 1, (-1 : Int), Builtin.Slice.slicePlaces ((n : Int) - 1) (-1) (-1))) _ _ s
  rw [places_rev]
  exact wpAny_pure h
theorem pick_rev (xs : Array Value) : ((List.range xs.size).filterMap fun (m : Nat) => xs[(((xs.size : Int) - 1) + (m : Int) * (-1)).toNat]?).toArray = xs.toList.reverse.toArray := by
  have e : (List.range xs.size).filterMap (fun (m : Nat) => xs[(((xs.size : Int) - 1) + (m : Int) * (-1)).toNat]?) = ((List.range xs.size).map fun k => xs.size - 1 - k).filterMap (xs[·]?) := by
    rw [List.filterMap_map]
    congr 1
    funext m
    have : (((xs.size : Int) - 1) + (m : Int) * (-1)).toNat = xs.size - 1 - m := by omega
    rw [this]
    rfl
  rw [e, PySem.W.krv_range, List.filterMap_reverse, PySem.W.krv_all]
theorem getItem_tuple_rev {t sl : Addr} {items : Array Value} {vl vu vs : Value} {Q : Value → Shared → Prop} (ht : IsTup s.heap t items) (hs : s.heap.IsSliceOf sl vl vu vs) (pl : IsPart vl none) (pu : IsPart vu none) (ps : IsPart vs (some (-1)))
    (h : Q (.ref s.heap.objs.size) { s with heap := s.heap.push { cls := .type "tuple", data := .seq items.toList.reverse.toArray } }) (hsz : items.size ≤ sizeLine) : wpAny (model prog w) A (getItem (.ref t) (.ref sl)) Q E s := by
  have htake : sizeOk (.seq items.toList.reverse.toArray) := by
    show items.toList.reverse.toArray.size ≤ sizeLine
    simpa using hsz
  obtain ⟨os, hos, hcs, hds⟩ := id hs
  have hTs : s.TypeIs (.ref sl) "slice" := ⟨os, hos, hcs⟩
  unfold getItem
  try with_reducible refine wpAny_holding ?_
  first | refine wpAny_bind (wpAny_pure ?_) | skip
  refine wpAny_bind (wpAny_sequenceKey ht.typeIs (by decide) ?_)
  refine wpAny_bind (wpAny_callSpecial?_slot (name := Str.ofString "__getitem__") ht.typeIs PyProof.Rows.slot_tuple_getitem
    (wpAny_call_entry PyProof.Rows.slot_tuple_getitem ht.typeIs entry_tuple_getitem ?_ (args_tuple_getitem _ _)))
  show wpAny _ _ (Builtin.Tuple.tupleItemsOf (.ref t) >>= _) _ _ s
  refine wpAny_bind (tupleItemsOf_ ht ?_)
  refine wpAny_bind (wpAny_typeOf hTs ?_)
  rw [if_pos (by decide)]
  refine wpAny_bind (sliceApplied_rev hs pl pu ps ?_)
  have hno : ¬ ((((items.size : Int) - 1) == 0 && (-1 : Int) == 1 && items.size == items.size) = true) := by simp
  show wpAny _ _ (if ((((items.size : Int) - 1) == 0 && (-1 : Int) == 1 && items.size == items.size) = true) then _ else _) _ _ s
  rw [if_neg hno, pick_rev]
  first
    | exact wpAny_bind (m := Builtin.Tuple.tupleExact _) (wpAny_newObj_type (wpAny_pure ⟨_, rfl, wpAny_pure h⟩) htake)
    | exact wpAny_bind (m := Builtin.Tuple.tupleExact _) (wpAny_newObj_type (wpAny_bind (wpAny_pure (wpAny_pure ⟨_, rfl, wpAny_pure h⟩))) htake)
end
end PySem.HTR
namespace QL
open PySem PySem.Spec PyProof.Rows L2
section
variable {Tq : List (Addr × Str)} {Z : Zb Tq} {X : Cx} {e a b c o tg iter elt : Expr} {es : List Expr} {env : Env} {pos p1 p2 p3 : Pos} {P : R → Env → Prop} {k : Nat}
/-- t[::-1], t a tuple or a list -/
def tRevA (K : PySem.W.Frag) (te : TE) : TE := fun σ H Q => te σ H fun x H1 => ∃ a xs, x = .ref a ∧ ((SqL K H1 a xs ∧ ∀ p, H1 p = none → Q (.ref p) (upd H1 p (.lst xs.reverse))) ∨ (SqT K H1 a xs ∧ ∀ p, H1 p = none → Q (.ref p) (upd H1 p (.tup xs.reverse))))
theorem pe_revA {te : TE} (he : PE X e te) : PE X (.Subscript e (.Slice none none (some (.UnaryOp .USub (.Constant (.int 1) k p1) p2)) p3) pos) (tRevA X.K te) := by
  refine ⟨fun pins s σ H Q I h => ?_⟩
  refine Subscript_ (thn (he.run pins s σ H _ I h) fun v s1 ⟨x, H1, I1, r1, q1⟩ => ?_)
  obtain ⟨a, xs, ex, q⟩ := q1
  subst ex
  cases r1
  have hst : L2.PO X (some (.UnaryOp .USub (.Constant (.int 1) k p1) p2)) (tPart (tUn (rU fun i => .int (-i)) (tC (.int 1)))) := po_some (pe_un un_neg pe_int)
  refine wpAny_Slice (thn (po_none.run pins s1 σ H1 (fun o H2 => o = none ∧ H2 = H1) I1 ⟨rfl, rfl⟩) fun vl s2 ⟨l, H2, I2, pl, el, e2⟩ => ?_)
  subst el e2
  refine thn (po_none.run pins s2 σ H2 (fun o H3 => o = none ∧ H3 = H2) I2 ⟨rfl, rfl⟩) fun vu s3 ⟨u, H3, I3, pu, eu, e3⟩ => ?_
  subst eu e3
  refine thn (hst.run pins s3 σ H3 (fun o H4 => o = some (-1) ∧ H4 = H3) I3 ⟨1, rfl, -1, rfl, rfl, rfl⟩) fun vs s4 ⟨o, H4, I4, ps, eo, e4⟩ => ?_
  subst eo e4
  have I5 : Inv X pins σ H4 { s4 with heap := s4.heap.push { cls := .type "slice", data := .fields #[vl, vu, vs] } } := I4.kept (t' := s4.toks) fun b ob q => Heap.get?_push_of_some _ q
  show wpAny (model X.prog X.w) X.A (subscriptTail e (.Slice none none (some (.UnaryOp .USub (.Constant (.int 1) k p1) p2)) p3) (.ref a) (.ref s4.heap.objs.size)) (EP X pins σ Q) X.xe { s4 with heap := s4.heap.push { cls := .type "slice", data := .fields #[vl, vu, vs] } }
  rcases q with ⟨hx, q⟩ | ⟨hx, q⟩
  · obtain ⟨its, r, ht, hz⟩ := I5.list hx
    have hlen := r.length
    refine tail_any (ops := [.ref a, .ref s4.heap.objs.size]) ht.isList.typeIs (PySem.slot_list_getitem.lookup) ?_ (by with_unfolding_all rfl)
    refine wpAny_getItem_list_slice ht.isList (Heap.IsSliceOf.new _ vl vu vs) pl pu ps (by decide) ?_ (by rw [List.size_toArray]; omega)
    rw [PySem.W.krv_pick]
    refine ⟨.ref _, _, I5.laid (t' := s4.toks) (o := .lst xs.reverse) (fun b ob q => Heap.get?_push_of_some _ q) (Nat.le_refl _) ?_, rfl, q _ (I5.hok.fresh (Nat.le_refl _))⟩
    exact ⟨by rw [List.length_reverse]; exact hz, _, 0, r.reverse, Heap.get?_push_size _ rfl⟩
  · obtain ⟨its, r, ht, hz⟩ := I5.tuple hx
    have hlen := r.length
    refine tail_any (ops := [.ref a, .ref s4.heap.objs.size]) ht.typeIs (PyProof.Rows.slot_tuple_getitem.lookup) ?_ (by with_unfolding_all rfl)
    refine PySem.HTR.getItem_tuple_rev ht (Heap.IsSliceOf.new _ vl vu vs) pl pu ps ?_ (by rw [List.size_toArray]; omega)
    refine ⟨.ref _, _, I5.laid (t' := s4.toks) (o := .tup xs.reverse) (fun b ob q => Heap.get?_push_of_some _ q) (Nat.le_refl _) ?_, rfl, q _ (I5.hok.fresh (Nat.le_refl _))⟩
    refine ⟨by rw [List.length_reverse]; exact hz, its.reverse, r.reverse, ?_⟩
    exact IsTup.new _ _
theorem WE.to {r0 : R} {e1 : Env} (h : WE Z X e env fun r e2 => r = r0 ∧ e2 = e1) (k : P r0 e1) : WE Z X e env P := WE.imp h fun _ _ ⟨a, b⟩ => by subst a b; exact k
theorem tLc_mono {σ : L2.St} {H : Hp} {g : TG} {tt : TT} {te : TE} {vs : List Nat} {Q Q' : VK} (hq : ∀ v H, Q v H → Q' v H) (h : tLc (tI Z X tg iter) g tt te vs σ H Q) : tLc (tI Z X tg iter) g tt te vs σ H Q' := by
  obtain ⟨env, F, O, P, b, o, w, k⟩ := h
  refine ⟨env, F, O, P, b, o, w, fun J H1 F1 O1 ds e1 b1 o1 fr gv p D hD => ?_⟩
  obtain ⟨W, h0, hs⟩ := k J H1 F1 O1 ds e1 b1 o1 fr gv p D hD
  exact ⟨W, h0, fun i m H hw => (hs i m H hw).imp (fun z => ⟨z.1, hq _ _ z.2⟩) id⟩
/-- y = [..], y a local name -/
theorem ws_setLc (i : Nat) {y : Str} {py pos' : Pos} {g : TG} {f : TF} {ix : List Nat} {scope : Scope} {own : List (Str × Nat)} {PO : Out → Prop} (hc : X.calm = true) (hN : X.N.Nodup) (ok : BlkOk X.N X.env.scope scope own) (hg : Blk X scope fun X' => PG X' tg g) (gk : GOk Z g f ix) (hix : ∀ i ∈ ix, i ∈ own.map (·.2))
    (h : WI Z X tg iter env (LcI Z X scope f elt (own.map (·.2)) (fun e k => k true e) fun r e1 => storeR r i e1 fun e2 => PO (.nx e2))) (hy : X.N[i]? = some y := by rfl) (hyl : X.env.scope.names.lookup y = some .local := by rfl)
    (hsw : swapsWith (.ListComp elt [⟨tg, iter, [], 0⟩] scope pos') (some (.Name y py)) pos.line X.env = pure true := by exact sw_true rfl rfl rfl (by decide +kernel)) (hs : ∀ x, foldedSetIterable iter X.env x = pure x := by intro _; rfl) :
    WS Z X (.Assign [.Name y py] (.ListComp elt [⟨tg, iter, [], 0⟩] scope pos') pos) env PO :=
  ws_of (ps_setLc hc hN hy hyl hsw (pi_I (Z := Z)) ok hg (fun _ _ _ _ _ => pts_nil) (pe_AB (Z := Z)) hs) fun σ H F O b o =>
    tLc_mono (fun v H1 ⟨F1, O1, r, e1, b1, st, fr, p⟩ => by
      obtain ⟨F2, O2, e2, b2, o2, fr2, q⟩ := storeR_ok b1 st p
      exact ⟨F2, O2, e2, b2, o2, fr.trans fr2, q⟩) (lc_read gk hix (fun σ H F O env k Q b o t q => q true H F O env b o (Frm.refl _ _ _) t) b o h)
/-- a name's list, frozen from here on -/
def varF (env : Env) (i : Nat) (k : R → Env → Prop) : Prop := match env[i]? with
  | some (some (.lst a ds)) => k (.t (.va (.list ds))) (setP i [] (.va (.list ds)) env)
  | some (some (.dic a kvs)) => k (.t (.va (.dict (kvs.map fun p => (kD p.1, p.2))))) (setP i [] (.va (.dict (kvs.map fun p => (kD p.1, p.2)))) env)
  | _ => False
theorem w_varF (i : Nat) {x : Str} (h : varF env i P) (hN : X.N[i]? = some x := by rfl) (hv : Vis X.env.scope x := by first | exact Or.inl rfl | exact Or.inr (Or.inl rfl) | exact Or.inr (Or.inr rfl))
    (hd : (x == ("__debug__" : Str)) = false := by decide) (hcd : (x == ("__classdict__" : Str)) = false := by decide) : WE Z X (.Name x pos) env P := we_of (pe_var hN hv hd hcd) fun σ H F O b o => by
  unfold varF at h
  have fin : ∀ {a : Addr} {t : T} {d : D}, env[i]? = some (some t) → t.addr = some a → frzT t = some d → P (.t (.va d)) (setP i [] (.va d) env) → tVar i σ H (Post Z σ H F O P) := fun {a t d} hi ha hf q => by
    obtain ⟨w, hw, Oj, O', h1, h2, h3⟩ := o.focusI hi
    have hg : getP i [] env = some t := by unfold getP; rw [hi]; rfl
    obtain ⟨F', O1, ds, e1, b1, o1, r1, fr1, q1⟩ := absorb_ok (k := fun ds e => ∃ d, ds = [d] ∧ P (.t (.va d)) e) (.cons (a := .bor a i []) rfl .nil) b o (by
      unfold absorb; simp only [hg]; exact ⟨ha, by simp only [hf]; exact ⟨d, rfl, q⟩⟩)
    obtain ⟨d', ed, q1⟩ := q1
    subst ed
    cases r1 with
    | cons r1 _ =>
      have hw' := h1.ref ha
      subst hw'
      exact ⟨_, hw, F', O1, .t (.va d'), e1, b1, ⟨O1, [], (List.append_nil O1).symm, o1, .va r1⟩, fr1, q1⟩
  split at h
  · rename_i a ds hi; exact fin hi rfl rfl h
  · rename_i a ds hi; exact fin hi rfl rfl h
  · exact h.elim
def revG (d : D) (k : T → Prop) : Prop := match d with
  | .tuple xs => k (.va (.tuple xs.reverse))
  | .list xs => ∀ p, k (.lst p xs.reverse)
  | _ => False
theorem w_rev (h : WA Z X e env fun a1 e1 => View a1 e1 fun d => revG d fun t => P (.t t) e1) : WE Z X (.Subscript e (.Slice none none (some (.UnaryOp .USub (.Constant (.int 1) k p1) p2)) p3) pos) env P :=
  we_of (pe_revA (pe_A (Z := Z))) fun σ H F O b o => ⟨env, F, O, _, b, o, h, fun v H1 ⟨F1, O1, a1, e1, b1, o1, st, fr, q⟩ => by
    obtain ⟨d, w, q⟩ := View.vw q o1 st
    unfold revG at q
    split at q
    · obtain ⟨p, vs, rfl, h1, r1⟩ := w.tup
      exact ⟨p, vs, rfl, .inr ⟨(.inl (rd_mono b1.sub h1)), fun p' hp' => ((NewV.tup b1.sub r1.rev hp' (k := fun t => t = .va (.tuple _)) rfl).post b1 o1 (fun t e => by subst e; exact q)).from fr⟩⟩
    · obtain ⟨p, vs, rfl, h1, r1⟩ := w.lst' b1.sub
      exact ⟨p, vs, rfl, .inl ⟨SqL.of h1, fun p' hp' => ((NewV.lst b1.sub r1.rev hp' (k := fun t => t = .lst p' _) rfl).post b1 o1 (fun t e => by subst e; exact q p')).from fr⟩⟩
    · exact q.elim⟩
/-- [elt for x in ds if c]: c of x is t x -/
theorem lc_filt {scope : Scope} {f : TF} (fm : FMo f) {vs : List Nat} {ds : List D} {e1 : Env} {α : Type} (enc : α → D) (xs : List α) (t : α → Bool) (g : α → D) (env0 : Env) (h0 : wipeE e1 vs = env0) (hd : ds = xs.map enc) (hl : xs.length < sizeLine)
    (step : ∀ (k : Nat) x, xs[k]? = some x → f (enc x) env0 fun e' => Blk X scope fun X' => WT Z X' c e' fun bb e2 => bb = t x ∧ (t x = true → Blk X scope fun X' => WA Z X' elt e2 fun a e3 => absorb [a] e3 fun ds e4 => ds = [g x] ∧ wipeE e4 vs = env0) ∧ (t x = false → wipeE e2 vs = env0))
    (fin : ∀ p, P (.t (.lst p ((xs.filter t).map g))) env0) : LcI Z X scope f elt vs (fun e k => Blk X scope fun X' => WT Z X' c e k) P ds e1 := by
  subst hd
  refine ⟨fun k acc e => e = env0 ∧ acc = ((xs.take k).filter t).map g, ⟨h0, rfl⟩, ?_, ?_⟩
  · rintro k d acc e hk ⟨rfl, rfl⟩
    rw [List.getElem?_map, Option.map_eq_some_iff] at hk
    obtain ⟨x, hx, rfl⟩ := hk
    have q := step k x hx
    have tk : xs.take (k + 1) = xs.take k ++ [x] := by rw [List.take_add_one, hx]; rfl
    refine fm.mo q fun e' w s H C cl fp => ?_
    refine WT.imp (w s H C cl fp) fun bb e2 ⟨hb, hT, hF⟩ => ?_
    subst hb
    refine ⟨fun ht s2 H2 C2 cl2 fp2 => ?_, fun hf => ⟨hF hf, ?_⟩⟩
    · refine WE.imp (hT ht s2 H2 C2 cl2 fp2) fun r e3 hr => ?_
      have ab : ∀ {a : A} {e3 : Env}, absorb [a] e3 (fun ds e4 => ds = [g x] ∧ wipeE e4 vs = e) → absorb [a] e3 fun ds e4 => match ds with | [y] => (((xs.take k).filter t).map g).length < sizeLine ∧ (fun acc e0 => e0 = e ∧ acc = ((xs.take (k + 1)).filter t).map g) (((xs.take k).filter t).map g ++ [y]) (wipeE e4 vs) | _ => False := fun {a e3} h => by
        have fin : ∀ {y : D} {e4 : Env}, [y] = [g x] ∧ wipeE e4 vs = e → (((xs.take k).filter t).map g).length < sizeLine ∧ (wipeE e4 vs = e ∧ ((xs.take k).filter t).map g ++ [y] = ((xs.take (k + 1)).filter t).map g) := fun {y e4} ⟨h1, h2⟩ => by
          cases h1
          refine ⟨?_, h2, ?_⟩
          · rw [List.length_map]
            have := List.length_filter_le t (xs.take k)
            rw [List.length_take] at this
            omega
          · rw [tk, List.filter_append]; simp [ht]
        cases a with
        | va d => exact fin h
        | bor a i p =>
          unfold absorb at h ⊢
          split at h
          · refine ⟨h.1, ?_⟩
            have h := h.2
            split at h
            · exact fin h
            · exact h.elim
          · exact h.elim
      cases r with
      | bor a i p => exact ab hr
      | t t =>
        unfold toA at hr ⊢
        simp only at hr ⊢
        split at hr
        · exact ab (a := .va _) hr
        · exact hr.elim
    · show ((xs.take k).filter t).map g = ((xs.take (k + 1)).filter t).map g
      rw [tk, List.filter_append]; simp [hf]
  · rintro acc e ⟨rfl, rfl⟩ p
    rw [List.length_map, List.take_length]
    exact fin p
end
end QL

/-! QR: o.m(..), o.f where o is made on the spot. -/
namespace QL
open PySem PySem.Spec PyProof.Rows L2
section
variable {Tq : List (Addr × Str)} {Z : Zb Tq} {X : Cx} {e a b c o value : Expr} {es : List Expr} {env : Env} {pos pos' apos p : Pos} {P : R → Env → Prop} {f x m : Str} {k : Nat} {C : Addr} {ps : List Str} {sp : Spc}
def callT (sp : Spc) (tx : T) (as : List A) (env : Env) (PT : T → Env → Prop) (ET : Ex → Env → Prop) : Prop :=
  deref as env fun ts e2 => sp (tx :: ts) (fun t ts' => match ts' with
      | _ :: ts'' => putb as ts'' e2 fun e3 => PT t e3
      | _ => False)
    (fun ex ts' => match ts' with
      | _ :: ts'' => putb as ts'' e2 fun e3 => ET ex e3
      | [] => False)
theorem call_own {fI : Addr} {fd : FuncData} {ET : Ex → Env → Prop} {as : List A} {vs : List V} {us us0 : List Value} {kw : List (Str × Value)} {pins : List (Addr × Obj)} {s : Shared} {σ : L2.St} {H F : Hp} {O Ox : List Addr} {vx : V} {ux : Value} {tx : T}
    (G : FnG X.prog X.w X.K X.mg X.base Tq k fI fd ps sp) (hr : Room k X.A) (hg : X.A.guards = some []) (tk : Takes X (wxOf Z ET)) (hb : BindsTo s fd ⟨us0, kw⟩ (ps.zip (ux :: us))) (I : Inv X pins σ H s) (b : Bas Z F H (O ++ Ox)) (o : OwE F H O σ env) (wx : Ow F H Ox vx tx) (rx : RelV vx ux)
    (st : StAs F vs as) (r : Vals vs us) (h : callT sp tx as env (fun t e => P (.t t) e) ET) : wpAny (model X.prog X.w) X.A (call (.ref fI) us0 kw) (EP X pins σ (Post Z σ H F (O ++ Ox) P)) X.xe s := by
  obtain ⟨ts, e2, Oc, Or, pm, sv, o2, h⟩ := deref_ok st o h
  have ex : ∀ c ∈ Or, Held H c := o2.held
  have pm2 : (O ++ Ox).Perm ((Ox ++ Oc) ++ Or) := (List.perm_append_comm (l₁ := O)).trans (by rw [List.append_assoc]; exact pm.append_left Ox)
  have bc := (b.perm pm2).left.entry
  have sv2 : StV F H (Ox ++ Oc) (vx :: vs) (tx :: ts) := .cons wx sv
  have r2 : Vals (vx :: vs) (ux :: us) := .cons rx r
  refine wpAny_call (codeAny_mono (G.run X.A X.stack s H ⟨us0, kw⟩ (ux :: us) (vx :: vs) F (Ox ++ Oc) (tx :: ts) _ _
    (fun cls d H' => ∃ e ts' F' O', Bas ⟨H, F, Ox ++ Oc, (b.perm pm2).left.tabs⟩ F' H' O' ∧ StVO F' H' O' (vx :: vs) ts' ∧ ExAt F' e cls d ∧ (match ts' with | _ :: ts'' => putb as ts'' e2 fun e3 => ET e e3 | [] => False)) (b.perm pm2).left.tabs hr hg I.env0 hb r2 bc sv2 h
    fun e ts' cls d H' F' O' b' s' x' q => ⟨e, ts', F', O', b', s', x', q⟩) fun rs s' hq => ?_)
  have back : ∀ {F' H' : Hp} {O1 O2 : List Addr} {ts' : List (Option T)} {kk : Env → Prop}, Bas ⟨H, F, Ox ++ Oc, (b.perm pm2).left.tabs⟩ F' H' (O1 ++ O2) → StVO F' H' O1 vs ts' → putb as ts' e2 kk →
      ∃ e3 O3, OwE F' H' O3 σ e3 ∧ Bas Z F' H' (O3 ++ O2) ∧ Frm Tq H F (O ++ Ox) H' F' (O3 ++ O2) ∧ kk e3 := fun {F' H' O1 O2 ts' kk} b' s' q => by
    have fr := b'.abs
    have b3 := Bas.frame fr (b.perm pm2) b' ex
    have keep := fr.rest (R := Or) (pm2.nodup b.nd) ex
    obtain ⟨e3, O3, Od, o3, p3, q3⟩ := putb_ok st s' (o2.stay fr.fz keep) q
    have p4 : ((O1 ++ O2) ++ Or).Perm ((O3 ++ O2) ++ Od) := by
      have e1 : ((O1 ++ O2) ++ Or).Perm ((O1 ++ Or) ++ O2) := by
        rw [List.append_assoc, List.append_assoc]
        exact List.perm_append_comm.append_left O1
      have e2 : ((O3 ++ O2) ++ Od).Perm ((O3 ++ Od) ++ O2) := by
        rw [List.append_assoc, List.append_assoc]
        exact List.perm_append_comm.append_left O3
      exact e1.trans ((p3.append_right O2).trans e2.symm)
    exact ⟨e3, O3, o3, (b3.perm p4).left, (fr.frame (R := Or)).perm (fun c => pm2.symm.mem_iff) (fun c hc => p4.mem_iff.mpr (List.mem_append_left _ hc)), q3⟩
  cases rs with
  | error e =>
    refine tk e s' (XE.of_call I (fun cls d H' hE => ?_) hq)
    obtain ⟨y, ts', F', O', b', sv', xa, q⟩ := hE
    cases sv' with
    | un sv' =>
      obtain ⟨e3, O3, o3, b3, fr3, q3⟩ := back (O2 := []) (by rw [List.append_nil]; exact b') sv' q
      rw [List.append_nil] at b3 fr3
      exact ⟨F', O3, e3, y, b3, o3, xa, q3⟩
    | cons w sv' =>
      rename_i Ou O1' u ts''
      obtain ⟨e3, O3, o3, b3, fr3, q3⟩ := back (O1 := O1') (O2 := Ou) (b'.perm List.perm_append_comm) sv' q
      exact ⟨F', O3, e3, y, b3.left, o3, xa, q3⟩
  | ok fl =>
    cases fl with
    | ret u =>
      refine EP.imp (fun v H' q => ?_) u s' (I.after hq)
      obtain ⟨F', O1, O2, t, ts', b', sv', w', q⟩ := q
      cases sv' with
      | un sv' =>
        obtain ⟨e3, O3, o3, b3, fr3, q3⟩ := back b' sv' q
        exact ⟨F', O3 ++ O2, .t t, e3, b3, ⟨O3, O2, rfl, o3, w'⟩, fr3, q3⟩
      | cons wu sv' =>
        rename_i Ou O1' u' ts''
        have pmx : ((Ou ++ O1') ++ O2).Perm (O1' ++ (O2 ++ Ou)) := by
          rw [List.append_assoc]
          refine List.perm_append_comm.trans ?_
          rw [List.append_assoc]
        obtain ⟨e3, O3, o3, b3, fr3, q3⟩ := back (O1 := O1') (O2 := O2 ++ Ou) (b'.perm pmx) sv' q
        rw [← List.append_assoc] at b3 fr3
        exact ⟨F', O3 ++ O2, .t t, e3, b3.left, ⟨O3, O2, rfl, o3, w'⟩, fr3.perm (fun _ => Iff.rfl) fun c hc => List.mem_append_left _ hc, q3⟩
    | next => exact hq.elim
    | brk => exact hq.elim
    | cont => exact hq.elim
/-- the receiver is made on the spot -/
def methTR {Tq : List (Addr × Str)} (as : List Expr) (Z : Zb Tq) (X : Cx) (C : Addr) (m : Str) (r : R) (e1 : Env) (k : T → List A → Env → Prop) : Prop := match r with
  | .t (.ins a C' fs) => (C' = C ∧ fs.lookup m = none) ∧ WAs Z X as e1 fun as' e2 => k (.ins a C fs) as' e2
  | _ => False
theorem methTR_ok {σ : L2.St} {F H : Hp} {O : List Addr} {v : V} {r : R} {e1 : Env} {kk : T → List A → Env → Prop} (st : StR F H O σ e1 v r) (h : methTR es Z X C m r e1 kk) :
    ∃ a fs dx vs Oa Ob, v = .ref a ∧ H a = some (.ins C dx vs) ∧ vs.lookup m = none ∧ O = Oa ++ Ob ∧ OwE F H Oa σ e1 ∧ Ow F H Ob v (.ins a C fs) ∧ WAs Z X es e1 fun as' e2 => kk (.ins a C fs) as' e2 := by
  unfold methTR at h
  split at h
  · rename_i a C' fs
    obtain ⟨⟨rfl, hm⟩, h⟩ := h
    obtain ⟨Oa, Ob, rfl, o1, w1⟩ := st
    cases w1 with
    | ins ha hd rr =>
      refine ⟨_, fs, _, _, Oa, _, rfl, ha, ?_, rfl, o1, .ins ha hd rr, h⟩
      rcases rr.look (f := m) with ⟨_, e2⟩ | ⟨t, w, Ot, e2, _, _⟩
      · exact e2
      · rw [hm] at e2; cases e2
  · exact h.elim
theorem w_methT0 {pl : Sem Bool} (G : Mf X.prog X.w X.K X.mg X.base Tq k C m ps sp) (hr : Room k X.A) (hgd : X.A.guards = some [])
    (h : WE Z X o env fun r e1 => methTR [] Z X C m r e1 fun tx as e2 => callT sp tx as e2 (fun t e => P (.t t) e) fun _ _ => False)
    (ht : eval (.Call (.Attribute o m apos) [] [] pos) X.env = (do
      let ov ← eval o X.env
      standAt apos.atName
      let (f, first) ← holding [ov] (getMethod ov m pl)
      callWith pos f first (backTo pos (starEach [] X.env)) (backToKw pos (keywordEach [] X.env))) := by rfl) :
    WE Z X (.Call (.Attribute o m apos) [] [] pos) env P := fun pins s σ H F O I b o0 => by
  obtain ⟨f, fd, g, c, hm, hb⟩ := G.ex
  refine PySem.W.methodCall_KW (pl := pl) (thn (h pins s σ H F O I b o0) fun u s1 ⟨v, H1, I1, rx, F1, O1, r, e1, b1, st, fr, q⟩ => ?_) ht
  obtain ⟨a, fs, dx, vs, Oa, Ob, rfl, ha, hl, rfl, o1, wx, q⟩ := methTR_ok st q
  obtain rfl : u = Value.ref a := rx
  refine getmeth_ok I1 ha c hm hl ?_
  replace q : callT sp (.ins a C fs) [] e1 (fun t e => P (R.t t) e) fun _ _ => False := q
  have hl2 : ([Value.ref a] ++ []).length = ps.length := by
    obtain ⟨ts, e3, Oc, Or, pm, sv, o3, hh⟩ := deref_ok (as := []) (vs := []) .nil o1 q
    cases sv
    rw [← g.len _ _ _ hh]
    rfl
  have hb2 := hb s1 [Value.ref a] I1.kIn hl2
  rw [List.append_nil] at hb2
  exact PySem.W.callWith_K0 (first := [.ref a]) I1.kIn hm.kp (thn (call_own (us0 := [.ref a]) (kw := []) (us := []) (vs := []) (as := []) g hr hgd takes_no hb2 I1 b1 o1 wx rfl .nil .nil q) (EP.imp fun v H' q => q.from fr))
end
end QL

/-! QTJ: classes and methods called by names alone. -/
namespace QL
open PySem PySem.Spec PyProof.Rows L2
/-- what is written by names, behind the object -/
def KwOkS (K : PySem.W.Frag) (fd : FuncData) (ps ks : List Str) (ns : List Nat) : Prop := ∀ (s : Shared) (v : Value) (us : List Value), K.In s.heap → us.length = ks.length → BindsTo s fd ⟨[v], ks.zip us⟩ (ps.zip (v :: pick ns us))
structure MfK (P : Program) (w : World) (K : PySem.W.Frag) (mg : Str → Option Value) (base : Heap) (Tq : List (Addr × Str)) (k : Nat) (C : Addr) (m : Str) (ps ks : List Str) (ns : List Nat) (sp : Spc) : Prop where
  ex : ∃ f fd, FnG P w K mg base Tq k f fd ps sp ∧ Cls K C ∧ Meth K C m f ∧ KwOkS K fd ps ks ns
theorem MfK.mono {P : Program} {w : World} {K : PySem.W.Frag} {mg : Str → Option Value} {base : Heap} {Tq : List (Addr × Str)} {j k : Nat} {C : Addr} {m : Str} {ps ks : List Str} {ns : List Nat} {sp : Spc} (G : MfK P w K mg base Tq j C m ps ks ns sp) (h : j ≤ k) : MfK P w K mg base Tq k C m ps ks ns sp :=
  let ⟨f, fd, g, r⟩ := G.ex; ⟨f, fd, g.mono h, r⟩
structure CkK (P : Program) (w : World) (K : PySem.W.Frag) (mg : Str → Option Value) (base : Heap) (Tq : List (Addr × Str)) (k : Nat) (x : Str) (C : Addr) (ps ks : List Str) (ns : List Nat) (sp : Spc) : Prop where
  ex : ∃ f fd, FnG P w K mg base Tq k f fd ps sp ∧ Mk K C f ∧ mg x = some (.ref C) ∧ KwOkS K fd ps ks ns
theorem CkK.mono {P : Program} {w : World} {K : PySem.W.Frag} {mg : Str → Option Value} {base : Heap} {Tq : List (Addr × Str)} {j k : Nat} {x : Str} {C : Addr} {ps ks : List Str} {ns : List Nat} {sp : Spc} (G : CkK P w K mg base Tq j x C ps ks ns sp) (h : j ≤ k) : CkK P w K mg base Tq k x C ps ks ns sp :=
  let ⟨f, fd, g, r⟩ := G.ex; ⟨f, fd, g.mono h, r⟩
section
variable {Tq : List (Addr × Str)} {Z : Zb Tq} {X : Cx} {e a b c o value : Expr} {es : List Expr} {env : Env} {pos pos' apos p : Pos} {P : R → Env → Prop} {f x m : Str} {k : Nat} {C : Addr} {ps ks : List Str} {ns : List Nat} {sp : Spc} {kws : List Keyword}
theorem make_gK {us0 : List Value} {kw : List (Str × Value)} {fI : Addr} {fd : FuncData} {ET : Ex → Env → Prop} {as : List A} {vs : List V} {us : List Value} {pins : List (Addr × Obj)} {s : Shared} {σ : L2.St} {H F : Hp} {O : List Addr}
    (M : Mk X.K C fI) (G : FnG X.prog X.w X.K X.mg X.base Tq k fI fd ps sp) (hr : Room (k + 1) X.A) (hg : X.A.guards = some []) (tk : Takes X (wxOf Z ET)) (hb : ∀ (s : Shared) (v : Value), X.K.In s.heap → ps.length = us.length + 1 → BindsTo s fd ⟨v :: us0, kw⟩ (ps.zip (v :: us))) (I : Inv X pins σ H s) (b : Bas Z F H O) (o : OwE F H O σ env)
    (st : StAs F vs as) (r : Vals vs us) (h : callN sp C as env (fun t e => P (.t t) e) ET) : wpAny (model X.prog X.w) X.A (call (.ref C) us0 kw) (EP X pins σ (Post Z σ H F O P)) X.xe s := by
  have nx : H (s.heap.objs.size + 1) = none := I.hok.fresh (Nat.le_succ _)
  have ndx : H s.heap.objs.size = none := I.hok.fresh (Nat.le_refl _)
  have nex : s.heap.objs.size ≠ s.heap.objs.size + 1 := Nat.ne_of_lt (Nat.lt_succ_self _)
  have h := h (s.heap.objs.size + 1)
  have I2 := Inv.made (C := C) I
  generalize eH : upd (upd H s.heap.objs.size (.own (s.heap.objs.size + 1))) (s.heap.objs.size + 1) (.ins C s.heap.objs.size []) = H2 at I2
  have h2x : H2 (s.heap.objs.size + 1) = some (.ins C s.heap.objs.size []) := by rw [← eH, upd_same]
  have h2d : H2 s.heap.objs.size = some (.own (s.heap.objs.size + 1)) := by rw [← eH, upd_ne nex, upd_same]
  have s2 : Same H H2 := fun c y e => by rw [← eH, upd_ne (ne_of_none e nx), upd_ne (ne_of_none e ndx)]; exact e
  obtain ⟨ts, e2, Oc, Or, pm, sv, o2, h⟩ := deref_ok st o h
  have ex : ∀ c ∈ Or, Held H c := o2.held
  have exc : ∀ c ∈ Oc, Held H c := fun c hc => o.held c (pm.mem_iff.mpr (List.mem_append_left _ hc))
  have keep2 : ∀ c, H c ≠ none → H2 c = H c := fun c hc => by
    cases q : H c with
    | none => exact absurd q hc
    | some y => exact s2 c y q
  -- the new instance beside the arguments
  have Fx : F (s.heap.objs.size + 1) = none := b.sub.free nx
  have Fd : F s.heap.objs.size = none := b.sub.free ndx
  have fr0 : Frm Tq H F O H2 F (O ++ [s.heap.objs.size + 1, s.heap.objs.size]) := ⟨Same.refl _, fun c y e _ _ => s2 c y e, fun c e => by rw [keep2 c e]; exact e, fun c e => .inl e, fun c hc => by
    rcases List.mem_append.mp hc with z | z
    · exact .inl z
    · rcases List.mem_cons.mp z with rfl | z
      · exact .inr nx
      · rw [List.mem_singleton.mp z]; exact .inr ndx, tab_same s2⟩
  have b0 : Bas Z F H2 (O ++ [s.heap.objs.size + 1, s.heap.objs.size]) := ⟨b.sub.trans s2, List.nodup_append.mpr ⟨b.nd, List.nodup_cons.mpr ⟨fun z => nex (List.mem_singleton.mp z).symm, List.nodup_cons.mpr ⟨fun z => (nomatch z), List.nodup_nil⟩⟩, fun c hc d hd z => by
      subst z
      have := o.there c hc
      rcases List.mem_cons.mp hd with z | z
      · exact this (z ▸ nx)
      · exact this ((List.mem_singleton.mp z) ▸ ndx)⟩, fun c hc => by
      rcases List.mem_append.mp hc with z | z
      · exact b.dis c z
      · rcases List.mem_cons.mp z with rfl | z
        · exact Fx
        · rw [List.mem_singleton.mp z]; exact Fd, b.abs.trans fr0⟩
  have pm2 : (O ++ [s.heap.objs.size + 1, s.heap.objs.size]).Perm (((s.heap.objs.size + 1) :: s.heap.objs.size :: Oc) ++ Or) := (List.perm_append_comm (l₁ := O)).trans ((pm.cons s.heap.objs.size).cons (s.heap.objs.size + 1))
  have bc := (b0.perm pm2).left.entry
  have sv2 : StV F H2 ((s.heap.objs.size + 1) :: s.heap.objs.size :: Oc) (.ref (s.heap.objs.size + 1) :: vs) (.ins (s.heap.objs.size + 1) C [] :: ts) := by
    have w0 : Ow F H2 [s.heap.objs.size + 1, s.heap.objs.size] (.ref (s.heap.objs.size + 1)) (.ins (s.heap.objs.size + 1) C []) := .ins h2x h2d .nil
    have svs : StV F H2 Oc vs ts := by
      have key : ∀ {Oc : List Addr} {vs : List V} {ts : List T}, StV F H Oc vs ts → (∀ c ∈ Oc, H2 c = H c) → StV F H2 Oc vs ts := fun {Oc vs ts} z => by
        induction z with
        | nil => intro _; exact .nil
        | cons w r ih => intro kk; exact .cons (w.stay (Same.refl _) fun c hc => kk c (List.mem_append_left _ hc)) (ih fun c hc => kk c (List.mem_append_right _ hc))
      exact key sv fun c hc => keep2 c (exc c hc).ne
    exact .cons w0 svs
  have r2 : Vals (V.ref (s.heap.objs.size + 1) :: vs) (Value.ref (s.heap.objs.size + 1) :: us) := .cons rfl r
  have hl : (Value.ref (s.heap.objs.size + 1) :: us ++ []).length = ps.length := by
    rw [List.append_nil, ← r2.length, sv2.len, G.len _ _ _ h]
  have ex2 : ∀ c ∈ Or, Held H2 c := fun c hc => let ⟨y, e, n⟩ := ex c hc; ⟨y, s2 c y e, n⟩
  refine wpAny_call (make_map (f := fI) I.kIn M.makes M.init (beq_iff_eq.mp M.fn) ?_)
  have hb2 := hb _ (Value.ref (s.heap.objs.size + 1)) I2.kIn (by rw [List.append_nil] at hl; exact hl.symm)
  have run := G.run (X.A.under (.builtin "type.__call__" ⟨.ref C :: us0, kw⟩)) X.stack _ H2 ⟨Value.ref (s.heap.objs.size + 1) :: us0, kw⟩ (Value.ref (s.heap.objs.size + 1) :: us) (V.ref (s.heap.objs.size + 1) :: vs) F ((s.heap.objs.size + 1) :: s.heap.objs.size :: Oc) (.ins (s.heap.objs.size + 1) C [] :: ts) _ _
    (fun cls d H' => ∃ e ts' F' O', Bas ⟨H2, F, (s.heap.objs.size + 1) :: s.heap.objs.size :: Oc, (b0.perm pm2).left.tabs⟩ F' H' O' ∧ StVO F' H' O' (.ref (s.heap.objs.size + 1) :: vs) ts' ∧ ExAt F' e cls d ∧ (match ts' with | _ :: ts'' => putb as ts'' e2 fun e3 => ET e e3 | [] => False)) (b0.perm pm2).left.tabs (hr.make C us0 kw) (guards_make hg) (I2.env0.make C us0 kw) hb2 r2 bc sv2 h
    fun e ts' cls d H' F' O' b' s' x' q => ⟨e, ts', F', O', b', s', x', q⟩
  refine codeAny_mono (run) fun rs s' hq => ?_
  have back : ∀ {F' H' : Hp} {O1 O2 : List Addr} {ts' : List (Option T)} {kk : Env → Prop}, Bas ⟨H2, F, _ :: s.heap.objs.size :: Oc, (b0.perm pm2).left.tabs⟩ F' H' (O1 ++ O2) → StVO F' H' O1 vs ts' → putb as ts' e2 kk →
      ∃ e3 O3, OwE F' H' O3 σ e3 ∧ Bas Z F' H' (O3 ++ O2) ∧ Frm Tq H F O H' F' (O3 ++ O2) ∧ kk e3 := fun {F' H' O1 O2 ts' kk} b' s' q => by
    have fr := b'.abs
    have b3 := Bas.frame fr (b0.perm pm2) b' ex2
    have keep := fr.rest (R := Or) (pm2.nodup b0.nd) ex2
    obtain ⟨e3, O3, Od, o3, p3, q3⟩ := putb_ok (F := F') (H := H') (st) s' (o2.stay fr.fz fun c hc => (keep c hc).trans (keep2 c (ex c hc).ne)) q
    have p4 : ((O1 ++ O2) ++ Or).Perm ((O3 ++ O2) ++ Od) := by
      have e1 : ((O1 ++ O2) ++ Or).Perm ((O1 ++ Or) ++ O2) := by
        rw [List.append_assoc, List.append_assoc]
        exact List.perm_append_comm.append_left O1
      have e2 : ((O3 ++ O2) ++ Od).Perm ((O3 ++ Od) ++ O2) := by
        rw [List.append_assoc, List.append_assoc]
        exact List.perm_append_comm.append_left O3
      exact e1.trans ((p3.append_right O2).trans e2.symm)
    exact ⟨e3, O3, o3, (b3.perm p4).left, fr0.trans ((fr.frame (R := Or)).perm (fun c => pm2.symm.mem_iff) (fun c hc => p4.mem_iff.mpr (List.mem_append_left _ hc))), q3⟩
  cases rs with
  | error e =>
    refine tk e s' (XE.of_call I2 (fun cls d H' hE => ?_) hq)
    obtain ⟨y, ts', F', O', b', sv', xa, q⟩ := hE
    cases sv' with
    | un sv' =>
      obtain ⟨e3, O3, o3, b3, fr3, q3⟩ := back (O2 := []) (by rw [List.append_nil]; exact b') sv' q
      rw [List.append_nil] at b3 fr3
      exact ⟨F', O3, e3, y, b3, o3, xa, q3⟩
    | cons w sv' =>
      rename_i Ou O1' u ts''
      obtain ⟨e3, O3, o3, b3, fr3, q3⟩ := back (O1 := O1') (O2 := Ou) (b'.perm List.perm_append_comm) sv' q
      exact ⟨F', O3, e3, y, b3.left, o3, xa, q3⟩
  | ok fl =>
    cases fl with
    | ret u =>
      obtain ⟨v, H', I3, rv, F', O1, O2, t, ts', b', sv', w', rfl, q⟩ := I2.after hq
      cases w' with
      | va rr =>
        cases rr
        refine ⟨rv, ?_⟩
        cases sv' with
        | un sv' => exact q.elim
        | cons w sv' =>
          rename_i Ou O1' u ts''
          obtain ⟨hu, q⟩ := q
          have pmx : ((Ou ++ O1') ++ []).Perm (O1' ++ Ou) := by rw [List.append_nil]; exact List.perm_append_comm
          obtain ⟨e3, O3, o3, b3, fr3, q3⟩ := back (O1 := O1') (O2 := Ou) (b'.perm pmx) sv' q
          exact ⟨V.ref (s.heap.objs.size + 1), H', I3, rfl, F', O3 ++ Ou, .t u, e3, b3, ⟨O3, Ou, rfl, o3, w⟩, fr3, q3⟩
    | next => exact hq.elim
    | brk => exact hq.elim
    | cont => exact hq.elim

end
end QL

/-! QS: a, b, c = x, y, z. -/
namespace QL
open PySem PySem.Spec PyProof.Rows L2
end QL

/-! QT: dicts: d[k]; dicts locked for good. -/
namespace QL
open PySem PySem.Spec PyProof.Rows L2
def valT (kvs : List (Key × D)) (k : Key) : Option D := (kvs.find? fun kv => decide (kv.1 = k)).map (·.2)
theorem kD_inj : ∀ {a b : Key}, kD a = kD b → a = b
  | .inl _, .inl _, h => by cases h; rfl
  | .inr _, .inr _, h => by cases h; rfl
  | .inl _, .inr _, h => nomatch h
  | .inr _, .inl _, h => nomatch h
theorem RpK.val {F : Hp} : ∀ {kvs : List (Key × V)} {ds : List (Key × D)} {k : Key} {d : D}, RpK F kvs (ds.map fun p => (kD p.1, p.2)) → valT ds k = some d → ∃ v, valV kvs k = some v ∧ Rp F v d
  | [], [], k, d, _, h => nomatch h
  | [], q :: ds, k, d, r, h => nomatch r
  | p :: kvs, [], k, d, r, h => nomatch r
  | p :: kvs, q :: ds, k, d, r, h => by
    obtain ⟨k1, v1⟩ := p
    obtain ⟨k2, d2⟩ := q
    have r' : RpK F ((k1, v1) :: kvs) ((kD k2, d2) :: ds.map fun p => (kD p.1, p.2)) := r
    generalize hz : kD k2 = z at r'
    cases r' with
    | cons r1 r2 =>
      have ek : k2 = k1 := kD_inj hz
      subst ek
      unfold valT valV at *
      rw [List.find?_cons] at h ⊢
      by_cases e : k2 = k
      · simp only [e, decide_true] at h ⊢
        cases h
        exact ⟨v1, rfl, r1⟩
      · simp only [e, decide_false] at h ⊢
        exact RpK.val r2 h
def dixG (d1 d2 : D) (k : T → Prop) : Prop := ∃ (kvs : List (Key × D)) (y : Key) (v : D), d1 = .dict (kvs.map fun p => (kD p.1, p.2)) ∧ d2 = kD y ∧ valT kvs y = some v ∧ k (.va v)
section
variable {Tq : List (Addr × Str)} {Z : Zb Tq} {X : Cx} {env : Env} {P : R → Env → Prop} {a b : Expr} {pos : Pos}
theorem Rp.key {F : Hp} {v : V} {y : Key} (r : Rp F v (kD y)) : v = kV y := by
  cases y with
  | inl i => cases r; rfl
  | inr x => cases r; rfl
theorem w_dix (hu : X.A.units + 1 < cLine) (h : WA Z X a env fun a1 e1 => WA Z X b e1 fun a2 e2 => View a1 e2 fun d1 => View a2 e2 fun d2 => dixG d1 d2 fun t => P (.t t) e2) (hs : NoSl b := by intro _ _; rfl) : WE Z X (.Subscript a b pos) env P :=
  we_of (pe_dget hu (pe_A (Z := Z)) (pe_A (Z := Z)) hs) fun σ H F O b0 o => ⟨env, F, O, _, b0, o, h, fun x H1 ⟨F1, O1, a1, e1, b1, o1, st1, fr1, h1⟩ => ⟨e1, F1, O1, _, b1, o1, h1, fun y H2 ⟨F2, O2, a2, e2, b2, o2, st2, fr2, h2⟩ => by
    obtain ⟨d1, w1, h3⟩ := View.vw h2 o2 (st1.mono fr2.fz)
    obtain ⟨d2, w2, kvs, k, v, rfl, rfl, hv, q⟩ := View.vw h3 o2 st2
    have ey : y = kV k := by
      cases k with
      | inl i => cases w2; rename_i r; exact r.key (y := .inl i)
      | inr x => cases w2; rename_i r; exact r.key (y := .inr x)
    cases w1 with
    | pure r =>
      cases r with
      | dic hd rk =>
        obtain ⟨z, hz, rz⟩ := RpK.val rk hv
        refine ⟨_, z, rfl, .inl ⟨_, k, rd_mono b2.sub hd, ey, hz.symm⟩, ?_⟩
        exact ⟨F2, O2, .t (.va v), e2, b2, ⟨O2, [], (List.append_nil O2).symm, o2, .va rz⟩, fr1.trans fr2, q⟩
    | dic hd rk =>
      obtain ⟨z, hz, rz⟩ := RpK.val rk hv
      refine ⟨_, z, rfl, .inl ⟨_, k, .inl hd, ey, hz.symm⟩, ?_⟩
      exact ⟨F2, O2, .t (.va v), e2, b2, ⟨O2, [], (List.append_nil O2).symm, o2, .va rz⟩, fr1.trans fr2, q⟩⟩⟩
theorem RpT.at_ {F : Hp} : ∀ {vs : List (Key × V)} {ds : List (Key × D)} {i : Nat} {k : Key} {d : D}, RpT F vs ds → ds[i]? = some (k, d) → ∃ v, vs[i]? = some (k, v) ∧ Rp F v d
  | _, _, i, k, d, .nil, h => by simp at h
  | _, _, 0, k, d, .cons r _, h => by simp at h; obtain ⟨rfl, rfl⟩ := h; exact ⟨_, rfl, r⟩
  | _, _, i + 1, k, d, .cons _ r, h => by
    rw [List.getElem?_cons_succ] at h ⊢
    exact RpT.at_ r h
theorem RpT.len {F : Hp} : ∀ {vs : List (Key × V)} {ds : List (Key × D)}, RpT F vs ds → vs.length = ds.length
  | _, _, .nil => rfl
  | _, _, .cons _ r => congrArg (· + 1) r.len
end
end QL

/-! QTd: a dict comprehension whose dict is locked for good. -/
namespace QL
open PySem PySem.Spec PyProof.Rows L2
theorem RpT.app {F : Hp} {k : Key} {v : V} {d : D} : ∀ {vs : List (Key × V)} {ds : List (Key × D)}, RpT F vs ds → Rp F v d → RpT F (vs ++ [(k, v)]) (ds ++ [(k, d)])
  | _, _, .nil, r => .cons r .nil
  | _, _, .cons r1 r2, r => .cons r1 (r2.app r)
theorem RpT.put {F : Hp} {k : Key} {v : V} {d : D} {vs : List (Key × V)} {ds : List (Key × D)} (r : RpT F vs ds) (q : Rp F v d) (h : ∀ p ∈ ds, p.1 ≠ k) : RpT F (putK vs k v) (ds ++ [(k, d)]) := by
  have e : (vs.any fun kv => decide (kv.1 = k)) = false := by
    induction r with
    | nil => rfl
    | cons r1 r2 ih =>
      rw [List.any_cons, ih fun p hp => h p (List.mem_cons_of_mem _ hp), decide_eq_false (h _ List.mem_cons_self)]
      rfl
  unfold putK
  rw [e, if_neg (by decide)]
  exact r.app q
section
variable {Tq : List (Addr × Str)} {Z : Zb Tq} {X : Cx} {env : Env} {PR : R → Env → Prop} {tg iter kx vx c : Expr} {pos : Pos}
/-- one turn's entry -/
def ElD {Tq : List (Addr × Str)} (Z : Zb Tq) (X : Cx) (scope : Scope) (kx vx : Expr) (vs : List Nat) (I : List (Key × D) → Env → Prop) (acc : List (Key × D)) (e2 : Env) : Prop :=
  Blk X scope fun X' => WA Z X' kx e2 fun a3 e3 => ∃ k : Key, a3 = .va (kD k) ∧ Blk X scope fun X' => WA Z X' vx e3 fun a4 e4 => ∃ y, a4 = .va y ∧ acc.length < sizeLine ∧ (∀ p ∈ acc, p.1 ≠ k) ∧ I (acc ++ [(k, y)]) (wipeE e4 vs)
structure DcI {Tq : List (Addr × Str)} (Z : Zb Tq) (X : Cx) (scope : Scope) (f : TF) (kx vx : Expr) (vs : List Nat) (T : Env → (Bool → Env → Prop) → Prop) (P : R → Env → Prop) (ds : List D) (e1 : Env) : Prop where
  ex : ∃ I : Nat → List (Key × D) → Env → Prop, I 0 [] (wipeE e1 vs) ∧ (∀ k d acc e, ds[k]? = some d → I k acc e → f d e fun e' => T e' fun bb e2 => (bb = true → ElD Z X scope kx vx vs (I (k + 1)) acc e2) ∧ (bb = false → I (k + 1) acc (wipeE e2 vs))) ∧
    ∀ acc e, I ds.length acc e → ∀ p, P (.t (.fdc p acc)) e
end
end QL

/-! QTe: dict comprehensions by a filter and two functions. -/
namespace QL
open PySem PySem.Spec PyProof.Rows L2
end QL

/-! QTs: sorted(a set of ints), the set a comprehension. -/
namespace QL
open PySem PySem.Spec PyProof.Rows L2
/-! ### a set comprehension of ints, over the kit's turn of its loop -/
section
variable {Tq : List (Addr × Str)} {Z : Zb Tq} {X : Cx} {env : Env} {PR : R → Env → Prop} {tg iter elt : Expr} {pos : Pos}
/-- a set comprehension of ints, sorted -/
structure ScI {Tq : List (Addr × Str)} (Z : Zb Tq) (X : Cx) (scope : Scope) (f : TF) (elt : Expr) (vs : List Nat) (P : R → Env → Prop) (ds : List D) (e1 : Env) : Prop where
  ex : ds.length < 4000 ∧ ∃ I : Nat → List Int → Env → Prop, I 0 [] (wipeE e1 vs) ∧ (∀ k d acc e, ds[k]? = some d → I k acc e → f d e fun e' => Blk X scope fun X' => WA Z X' elt e' fun a e2 => ∃ c : Int, a = .va (.int c) ∧ I (k + 1) (acc ++ [c]) (wipeE e2 vs)) ∧
    ∀ acc e, I ds.length acc e → ∀ (ns : List Int) p, ns.Pairwise (· < ·) → (∀ c, c ∈ ns ↔ c ∈ acc) → P (.t (.lst p (ns.map PyData.int))) e
end
end QL

/-! QTu: sorted(set(e)), e a list or a tuple of ints. -/
namespace QL
open PySem PySem.Spec PyProof.Rows L2
end QL

/-! QTw: xs.extend(list); d[k] = v, sorted(d) and d.get(k, x) of a dict that this name alone holds. -/
namespace QL
open PySem PySem.Spec PyProof.Rows L2
section
variable {Tq : List (Addr × Str)} {Z : Zb Tq} {X : Cx} {env : Env} {P : R → Env → Prop} {PO : Out → Prop} {e o ix f : Expr} {pos : Pos}
theorem w_extend {apos : Pos} (h : WE Z X o env fun r e1 => ∃ a i p ds0, r = .bor a i p ∧ getP i p e1 = some (.lst a ds0) ∧ WA Z X e e1 fun a1 e2 => View a1 e2 fun d => ∃ ys ds1, d = .list ys ∧ getP i p e2 = some (.lst a ds1) ∧ ds1.length + ys.length ≤ sizeLine ∧ P (.t (.va .none)) (setP i p (.lst a (ds1 ++ ys)) e2))
    (hbase : attributeBase o "extend" X.env (eval o X.env) = eval o X.env := by rfl)
    (hfew : ((backTo pos (starEach [e] X.env)).all (fun x => !x.1) && (backToKw pos (keywordEach [] X.env)).all (fun x => x.1.isSome)
      && decide (([e] : List Expr).length + ([] : List Keyword).length + (if ([] : List Keyword).isEmpty then 0 else 1) < 30)) = true := by rfl)
    (hline : (apos.endLine == pos.line) = true := by rfl) (hs : starEach [e] X.env = (false, eval e X.env) :: starEach [] X.env := by rfl) (hpl : (backTo pos (starEach [] X.env)).any (·.1) = false := by rfl) :
    WE Z X (.Call (.Attribute o "extend" apos) [e] [] pos) env P :=
  we_of (pe_bm PySem.F.plainAttrs_list PySem.F.slot_list_extend PySem.F.type_list_extend mt_extend (pe_E (Z := Z)) (pa_cons (pe_A (Z := Z)) pa_nil hs) hbase hfew hline hs hpl) fun σ H F O b0 o0 =>
    ⟨env, F, O, _, b0, o0, h, fun v H1 ⟨F1, O1, r, e1, b1, st, fr1, a, i, p, ds0, er, hg, q⟩ => by
      subst er
      obtain ⟨o1, ev⟩ := st
      subst ev
      refine ⟨lst_at o1 hg, e1, F1, O1, _, b1, o1, q, fun v2 H2 ⟨F2, O2, a2, e2, b2, o2, st2, fr2, q2⟩ => ?_⟩
      obtain ⟨d, w, ys, ds1, rfl, hg3, hz, q3⟩ := View.vw q2 o2 st2
      obtain ⟨pb, vs, rfl, hb, r1⟩ := w.lst' b2.sub
      obtain ⟨xs, hH, rx, up⟩ := mutL b2 o2 hg3
      obtain ⟨O4, b4, o4, fr4⟩ := up (xs ++ vs) (ds1 ++ ys) (rx.app r1)
      exact ⟨a, pb, xs, vs, rfl, rfl, hH, hb, by rw [rx.len, r1.len]; exact hz, (post_val b4 o4 .non q3).from ((fr1.trans fr2).trans fr4)⟩⟩
/-! ### dicts that are owned -/
theorem mutD {F H : Hp} {O : List Addr} {σ : L2.St} {i : Nat} {p : List Str} {a : Addr} {ds : List (Key × D)} (b : Bas Z F H O) (o : OwE F H O σ env) (hg : getP i p env = some (.dic a ds)) :
    ∃ xs, H a = some (.dK xs) ∧ RpT F xs ds ∧ ∀ ys es, RpT F ys es → ∃ O', Bas Z F (upd H a (.dK ys)) O' ∧ OwE F (upd H a (.dK ys)) O' σ (setP i p (.dic a es) env) ∧ Frm Tq H F O (upd H a (.dK ys)) F O' := by
  obtain ⟨w, ⟨Oj, O', h1, h2, h3⟩, _⟩ := o.focus hg
  cases h1 with
  | dic hH r =>
    refine ⟨_, hH, r, fun ys es r' => ?_⟩
    have nd := h2.nodup b.nd
    have ha : a ∈ O := h2.mem_iff.mpr (List.mem_append_left _ (List.mem_singleton.mpr rfl))
    have hn : ∀ c ∈ O', c ≠ a := fun c hc z => (List.nodup_append.mp nd).2.2 a (List.mem_singleton.mpr rfl) c hc z.symm
    obtain ⟨O'', q1, q2⟩ := h3 F (upd H a (.dK ys)) [a] (.dic a es) (Same.refl _) (fun c hc => upd_ne (hn c hc)) (.dic upd_same r')
    have pm : O.Perm O'' := h2.trans q2.symm
    have fr : Frm Tq H F O (upd H a (.dK ys)) F O'' := ⟨Same.refl _, fun c x e _ n => by rw [upd_ne fun z => n (by rw [z]; exact ha)]; exact e, fun c e => by
      by_cases z : c = a
      · subst z; rw [upd_same]; exact fun z => nomatch z
      · rw [upd_ne z]; exact e, fun c e => .inl e, fun c hc => .inl (pm.mem_iff.mpr hc), tab_own hH⟩
    have da := b.dis a ha
    refine ⟨O'', ⟨fun c x e => ?_, pm.nodup b.nd, fun c hc => b.dis c (pm.mem_iff.mpr hc), b.abs.trans fr⟩, q1, fr⟩
    rw [upd_ne fun z => by rw [z, da] at e; cases e]
    exact b.sub c x e
/-- the entry put, the key's place kept -/
def putT2 (kvs : List (Key × D)) (k : Key) (d : D) : List (Key × D) := if (kvs.any fun kv => decide (kv.1 = k)) = true then kvs.map fun kv => if kv.1 = k then (kv.1, d) else kv else kvs ++ [(k, d)]
theorem RpT.anyK {F : Hp} {k : Key} : ∀ {vs : List (Key × V)} {ds : List (Key × D)}, RpT F vs ds → (vs.any fun kv => decide (kv.1 = k)) = ds.any fun kv => decide (kv.1 = k)
  | _, _, .nil => rfl
  | _, _, .cons _ r => by rw [List.any_cons, List.any_cons, r.anyK]
theorem RpT.mapK {F : Hp} {k : Key} {v : V} {d : D} (q : Rp F v d) : ∀ {vs : List (Key × V)} {ds : List (Key × D)}, RpT F vs ds → RpT F (vs.map fun kv => if kv.1 = k then (kv.1, v) else kv) (ds.map fun kv => if kv.1 = k then (kv.1, d) else kv)
  | _, _, .nil => .nil
  | _, _, .cons (k := k2) r1 r => by
    rw [List.map_cons, List.map_cons]
    by_cases e : k2 = k
    · simp only [e, if_true]; exact .cons q (RpT.mapK q r)
    · simp only [e, if_false]; exact .cons r1 (RpT.mapK q r)
theorem RpT.putAny {F : Hp} {k : Key} {v : V} {d : D} {vs : List (Key × V)} {ds : List (Key × D)} (r : RpT F vs ds) (q : Rp F v d) : RpT F (putK vs k v) (putT2 ds k d) := by
  unfold putK putT2
  rw [r.anyK]
  split
  · exact RpT.mapK q r
  · exact r.app q
theorem ws_dput {sp : Pos} (hu : X.A.units + 1 < cLine) (h : WA Z X e env fun a1 e1 => WE Z X o e1 fun r e2 => ∃ a i p, r = .bor a i p ∧ WA Z X ix e2 fun a2 e3 => ∃ (k : Key) (d : D) (ds : List (Key × D)), a2 = .va (kD k) ∧ a1 = .va d ∧ getP i p e3 = some (.dic a ds) ∧ ds.length < sizeLine ∧ PO (.nx (setP i p (.dic a (putT2 ds k d)) e3)))
    (hs : swapsWith e (some (.Subscript o ix sp)) pos.line X.env = pure false := by rfl) : WS Z X (.Assign [.Subscript o ix sp] e pos) env PO :=
  ws_of (ps_dput hu (pe_E (Z := Z)) (pe_A (Z := Z)) (pe_A (Z := Z)) hs) fun σ H F O b0 o0 => ⟨env, F, O, _, b0, o0, h, fun v H1 ⟨F1, O1, a1, e1, b1, o1, st1, fr1, q1⟩ => ⟨e1, F1, O1, _, b1, o1, q1, fun x H2 ⟨F2, O2, r, e2, b2, st2, fr2, a, i, p, er, q2⟩ => by
    subst er
    obtain ⟨o2, ev⟩ := st2
    subst ev
    refine ⟨e2, F2, O2, _, b2, o2, q2, fun y H3 ⟨F3, O3, a2, e3, b3, o3, st3, fr3, k, d, ds, ea2, ea1, hg, hz, q3⟩ => ?_⟩
    subst ea1 ea2
    have ey : y = kV k := Rp.key st3
    have rv : Rp F1 v d := st1
    obtain ⟨xs, hH, rx, up⟩ := mutD b3 o3 hg
    obtain ⟨O4, b4, o4, fr4⟩ := up (putK xs k v) (putT2 ds k d) (rx.putAny (rv.mono (fr2.fz.trans fr3.fz)))
    exact ⟨a, _, rfl, .inl ⟨xs, k, hH, ey, by rw [rx.len]; exact hz, rfl⟩, F3, O4, _, b4, o4, (((fr1.trans fr2).trans fr3).trans fr4), q3⟩⟩⟩
end
end QL

/-! QW: data whose text is short; data that may be compared. -/
namespace QL
open PySem PySem.Spec PyProof.Rows L2
mutual
def nodes : D → Nat
  | .list xs => 1 + nodesA xs
  | .tuple xs => 1 + nodesA xs
  | _ => 1
def nodesA : List D → Nat
  | [] => 0
  | x :: xs => nodes x + nodesA xs
end
mutual
/-- no text, no dict; ints below 2 ** 200 -/
def smallD : D → Bool
  | .list xs => smallA xs
  | .tuple xs => smallA xs
  | .int i => decide (i.natAbs < 2 ^ 200)
  | .none => true
  | .bool _ => true
  | _ => false
def smallA : List D → Bool
  | [] => true
  | x :: xs => smallD x && smallA xs
end
theorem small_int {i : Int} (h : i.natAbs < 2 ^ 200) : (PyData.shown (.int i)).length ≤ 256 ∧ (PyData.int i).weight ≤ 200 ∧ i.natAbs.log2 < 1920 := by
  have l : i.natAbs.log2 < 200 := by
    by_cases z : i.natAbs = 0
    · rw [z]; decide
    · exact (Nat.log2_lt z).mpr h
  refine ⟨?_, ?_, by omega⟩
  · show (PySem.Str.ofString (toString i)).length ≤ 256
    have big : (2 : Nat) ^ 200 < 10 ^ 61 := by decide
    by_cases z : i < 0
    · rw [len_text_neg z]
      have := PyProof.Rows.toString_length_le (v := 0 - i) (by omega) (k := 61) (by decide) (by omega)
      omega
    · have := PyProof.Rows.toString_length_le (v := i) (by omega) (k := 61) (by decide) (by omega)
      omega
  · show (if i == 0 then 0 else i.natAbs.log2 + 1) ≤ 200
    split <;> omega
mutual
theorem show_sm : ∀ d : D, smallD d = true → d.leavesShort 256 = true ∧ d.weight + 1 ≤ 203 * nodes d ∧ d.showable = true ∧ d.hasDict = false ∧ d.canLay0 = true
  | .none, _ => ⟨rfl, (by decide : 0 + 1 ≤ 203 * 1), rfl, rfl, rfl⟩
  | .bool _, _ => ⟨rfl, (by decide : 0 + 1 ≤ 203 * 1), rfl, rfl, rfl⟩
  | .int i, h => by
    obtain ⟨h1, h2, h3⟩ := small_int (of_decide_eq_true (by simpa only [smallD] using h))
    exact ⟨by simp only [PyData.leavesShort, decide_eq_true_eq]; exact h1, (by simp only [nodes]; omega), by simp only [PyData.showable, decide_eq_true_eq]; exact h3, rfl, rfl⟩
  | .str _, h => by simp [smallD] at h
  | .dict _, h => by simp [smallD] at h
  | .list xs, h => by
    obtain ⟨h1, h2, h3, h4, h5⟩ := show_smA xs (by simpa only [smallD] using h)
    exact ⟨by simpa only [PyData.leavesShort] using h1, by simp only [PyData.weight, nodes]; omega, by simpa only [PyData.showable] using h3, by simpa only [PyData.hasDict] using h4, by simpa only [PyData.canLay0] using h5⟩
  | .tuple xs, h => by
    obtain ⟨h1, h2, h3, h4, h5⟩ := show_smA xs (by simpa only [smallD] using h)
    exact ⟨by simpa only [PyData.leavesShort] using h1, by simp only [PyData.weight, nodes]; omega, by simpa only [PyData.showable] using h3, by simpa only [PyData.hasDict] using h4, by simpa only [PyData.canLay0] using h5⟩
theorem show_smA : ∀ ds : List D, smallA ds = true → PyData.leavesShortAll 256 ds = true ∧ PyData.weightAll ds ≤ 203 * nodesA ds ∧ PyData.showableAll ds = true ∧ PyData.hasDictAll ds = false ∧ PyData.canLayAll0 ds = true
  | [], _ => ⟨rfl, Nat.zero_le _, rfl, rfl, rfl⟩
  | d :: ds, h => by
    simp only [smallA, Bool.and_eq_true] at h
    obtain ⟨h1, h2, h3, h4, h5⟩ := show_sm d h.1
    obtain ⟨g1, g2, g3, g4, g5⟩ := show_smA ds h.2
    have np : 1 ≤ nodes d := by cases d <;> simp only [nodes] <;> omega
    exact ⟨by simp only [PyData.leavesShortAll, h1, g1, Bool.and_self], by simp only [PyData.weightAll, nodesA]; omega, by simp only [PyData.showableAll, h3, g3, Bool.and_self], by simp only [PyData.hasDictAll, h4, g4, Bool.or_self], by simp only [PyData.canLayAll0, h5, g5, Bool.and_self]⟩
end
theorem show0 {d : D} (h : smallD d = true) (hn : nodes d ≤ 300) (hd : d.depth ≤ 60) : showOk0 d := by
  obtain ⟨h1, h2, h3, h4, _⟩ := show_sm d h
  refine ⟨h4, h3, by omega, ?_⟩
  have := PyData.shown_le 256 (by decide) d h1
  show d.shown.length ≤ 16777216
  omega
theorem shaped_sm {d : D} (h : smallD d = true) (hd : d.depth ≤ 60) : SeqAt.shaped d = true := by
  unfold SeqAt.shaped
  rw [(show_sm d h).2.2.2.2, Bool.true_and]
  exact decide_eq_true (by omega)
theorem smallA_map {α : Type} {f : α → D} : ∀ {xs : List α}, (∀ x ∈ xs, smallD (f x) = true) → smallA (xs.map f) = true
  | [], _ => rfl
  | x :: xs, h => by simp only [List.map_cons, smallA, h x List.mem_cons_self, smallA_map (fun y hy => h y (List.mem_cons_of_mem _ hy)), Bool.and_self]
theorem nodesA_map {α : Type} {f : α → D} {k : Nat} : ∀ {xs : List α}, (∀ x ∈ xs, nodes (f x) ≤ k) → nodesA (xs.map f) ≤ k * xs.length
  | [], _ => Nat.zero_le _
  | x :: xs, h => by
    have h1 := h x List.mem_cons_self
    have h2 := nodesA_map (xs := xs) fun y hy => h y (List.mem_cons_of_mem _ hy)
    simp only [List.map_cons, nodesA, List.length_cons, Nat.mul_add, Nat.mul_one]
    omega
theorem depthAll_map {α : Type} {f : α → D} {k : Nat} : ∀ {xs : List α}, (∀ x ∈ xs, (f x).depth ≤ k) → PyData.depthAll (xs.map f) ≤ k
  | [], _ => Nat.zero_le _
  | x :: xs, h => by
    have h1 := h x List.mem_cons_self
    have h2 := depthAll_map (xs := xs) fun y hy => h y (List.mem_cons_of_mem _ hy)
    simp only [List.map_cons, PyData.depthAll]
    omega
theorem iDs_small {ns : List Int} (h : ∀ x ∈ ns, x.natAbs < 2 ^ 200) : smallA (iDs ns) = true := smallA_map fun x hx => by simp only [smallD, decide_eq_true_eq]; exact h x hx
theorem iDs_nodes (ns : List Int) : nodesA (iDs ns) ≤ ns.length := by
  have h : nodesA (iDs ns) ≤ 1 * ns.length := nodesA_map fun x _ => by simp only [nodes]; omega
  omega
theorem iDs_depth (ns : List Int) : PyData.depthAll (iDs ns) = 0 := Nat.le_zero.mp (depthAll_map fun x _ => Nat.le_refl 0)
end QL

/-! QTz: in, not in rows of ints; xs[i] += n; {k: x, l: y}; d.get(k, x); xs.remove(n); max(xs, default=n). -/
namespace QL
open PySem PySem.Spec PyProof.Rows L2
section
variable {Tq : List (Addr × Str)} {Z : Zb Tq} {X : Cx} {env : Env} {P : R → Env → Prop} {PO : Out → Prop} {e o ix f : Expr} {pos : Pos}
theorem lt1 {n : Nat} (h : n + 64 < cLine) : n + 1 < cLine := by omega
end
end QL

/-! QTn: for i, x in enumerate(t), enumerate(t, k), t a tuple. -/
namespace QL
open PySem PySem.Spec PyProof.Rows L2
end QL

/-! QTm: x = a list that is frozen at once. -/
namespace QL
open PySem PySem.Spec PyProof.Rows L2
theorem toA_imp {r : R} {k k' : A → Prop} (h : toA r k) (hk : ∀ a, k a → k' a) : toA r k' := by
  cases r with
  | bor a i p => exact hk _ h
  | t t =>
    unfold toA at h ⊢
    revert h
    simp only
    cases frzT t with
    | none => exact fun z => z
    | some d => exact hk _
theorem WA.imp {Tq : List (Addr × Str)} {Z : Zb Tq} {X : Cx} {e : Expr} {env : Env} {P P' : A → Env → Prop} (h : WA Z X e env P) (hp : ∀ a env, P a env → P' a env) : WA Z X e env P' := WE.imp h fun _ env q => toA_imp q fun a => hp a env
end QL

/-! QTo: `is` and `is not` between booleans. -/
namespace QL
open PySem PySem.Spec PyProof.Rows L2
variable {X : Cx}
end QL

/-! QTA: x, y, z = anything, anything, anything. -/
namespace QL
open PySem PySem.Spec PyProof.Rows L2
variable {Tq : List (Addr × Str)} {Z : Zb Tq} {X : Cx} {env : Env} {PO : Out → Prop} {a b c : Expr} {pos : Pos}
end QL

/-! QTC: things of one's own, one after another; o.f, o.g = e1, e2. -/
namespace QL
open PySem PySem.Spec PyProof.Rows L2
theorem StV.stay {F H F' H' : Hp} (s : Same F F') : ∀ {O : List Addr} {vs : List V} {ts : List T}, StV F H O vs ts → (∀ a ∈ O, H' a = H a) → StV F' H' O vs ts
  | _, _, _, .nil, _ => .nil
  | _, _, _, .cons h r, k => .cons (h.stay s fun a ha => k a (List.mem_append_left _ ha)) (r.stay s fun a ha => k a (List.mem_append_right _ ha))
theorem StV.held {F H : Hp} : ∀ {O : List Addr} {vs : List V} {ts : List T}, StV F H O vs ts → ∀ a ∈ O, Held H a
  | _, _, _, .nil, a, ha => nomatch ha
  | _, _, _, .cons h r, a, ha => (List.mem_append.mp ha).elim (h.held a) (r.held a)
theorem StV.there {F H : Hp} : ∀ {O : List Addr} {vs : List V} {ts : List T}, StV F H O vs ts → ∀ a ∈ O, H a ≠ none
  | _, _, _, .nil, a, ha => nomatch ha
  | _, _, _, .cons h r, a, ha => (List.mem_append.mp ha).elim (h.there a) (r.there a)
end QL

/-! QTD: f(e), e a thing that has no name yet. -/
namespace QL
open PySem PySem.Spec PyProof.Rows L2
end QL

/-! QTK: methods with *args: def m(self, *xs). -/
namespace QL
open PySem PySem.Spec PyProof.Rows L2 StX
/-- a def's promise to its callers, by the arguments as they are written (by place alone) -/
structure FnS (P : Program) (w : World) (K : PySem.W.Frag) (mg : Str → Option Value) (base : Heap) (Tq : List (Addr × Str)) (k : Nat) (f : Addr) (sp : Spc) : Prop where
  run : ∀ (A : Around) (outer : List PySem.Env) (s : Shared) (H : Hp) (us : List Value) (vs : List V) (F : Hp) (O : List Addr) (ts : List T) (QT : T → List (Option T) → Prop) (ET : Ex → List (Option T) → Prop) (E : XK) (tbs : TabZ Tq H F O),
    Room k A → A.guards = some [] → Env0 P w K mg base A outer s H → Vals vs us → Bas ⟨H, F, O, tbs⟩ F H O → StV F H O vs ts → sp ts QT ET →
    (∀ ex ts' cls d H' F' O', Bas ⟨H, F, O, tbs⟩ F' H' O' → StVO F' H' O' vs ts' → ExAt F' ex cls d → ET ex ts' → E cls d H') →
    codeAny (model P w) A (.call (.ref f) ⟨us, []⟩) (CR (L2.CX P w) outer P w H s (fun v H' => ∃ F' O1 O2 t ts', Bas ⟨H, F, O, tbs⟩ F' H' (O1 ++ O2) ∧ StVO F' H' O1 vs ts' ∧ Ow F' H' O2 v t ∧ QT t ts') E) s
theorem FnS.mono {P : Program} {w : World} {K : PySem.W.Frag} {mg : Str → Option Value} {base : Heap} {Tq : List (Addr × Str)} {j k : Nat} {f : Addr} {sp : Spc} (G : FnS P w K mg base Tq j f sp) (h : j ≤ k) : FnS P w K mg base Tq k f sp :=
  ⟨fun A outer s H us vs F O ts QT ET E tbs hr => G.run A outer s H us vs F O ts QT ET E tbs (hr.mono h)⟩
/-- one thing, then data that make a tuple -/
def spStar (sp : Spc) : Spc := fun ts QT ET => ∃ t0 ds, ts = t0 :: ds.map T.va ∧ ds.length ≤ sizeLine ∧
  sp [t0, .va (.tuple ds)] (fun t ts' => match ts' with | x :: _ => QT t (x :: ds.map fun _ => none) | [] => False) (fun ex ts' => match ts' with | x :: _ => ET ex (x :: ds.map fun _ => none) | [] => False)
structure MfS (P : Program) (w : World) (K : PySem.W.Frag) (mg : Str → Option Value) (base : Heap) (Tq : List (Addr × Str)) (k : Nat) (C : Addr) (m : Str) (sp : Spc) : Prop where
  ex : ∃ f, FnS P w K mg base Tq k f (spStar sp) ∧ Cls K C ∧ Meth K C m f ∧ (PySem.W.specialIn K (.ref f) "__get__" = some (some (.builtin "function.__get__")) ∧ PySem.W.takesIn K (.ref f) = some false ∧ PySem.W.copiedNames.contains m = false ∧ PySem.W.fnIn K f = true)
theorem MfS.mono {P : Program} {w : World} {K : PySem.W.Frag} {mg : Str → Option Value} {base : Heap} {Tq : List (Addr × Str)} {j k : Nat} {C : Addr} {m : Str} {sp : Spc} (G : MfS P w K mg base Tq j C m sp) (h : j ≤ k) : MfS P w K mg base Tq k C m sp :=
  let ⟨f, g, r⟩ := G.ex; ⟨f, g.mono h, r⟩
end QL

/-! QLa: a lambda without parameters, handed to a def that calls it. -/
namespace QL
open PySem PySem.Spec PyProof.Rows L2
theorem lam_ne (q : Str) : q ++ "<lambda>" ≠ ("()" : Str) := fun e => by
  have h : (q.cps ++ ("<lambda>" : Str).cps).size = ("()" : Str).cps.size := congrArg (fun s : Str => s.cps.size) e
  have h8 : ("<lambda>" : Str).cps.size = 8 := by decide +kernel
  have h2 : ("()" : Str).cps.size = 2 := by decide +kernel
  rw [Array.size_append] at h
  omega


/-- what a lambda promises: of its maker's names as they are -/
abbrev LamB := Env → (T → Env → Prop) → (Ex → Env → Prop) → Prop
/-- the rule that a()  gets, in the def that holds the lambda in slot i -/
def Act {Tq : List (Addr × Str)} (Z : Zb Tq) (Xc : Cx) (a : Str) (i : Nat) (lam : Env → T) (LB : LamB) : Prop :=
  ∀ (Z' : Zb Tq) (pn : List (Addr × Obj)) (xe : Value → Shared → Prop) (p1 p2 : Pos) (env e : Env) (P : R → Env → Prop) (ET : Ex → Env → Prop), TabM Tq Z.H Z'.H → Takes (Xc.tr pn xe) (wxOf Z' ET) → env[i]? = some (some (lam e)) →
    LB e (fun t e' => P (.t t) (env.set i (some (lam e')))) (fun ex e' => ET ex (env.set i (some (lam e')))) → WE Z' (Xc.tr pn xe) (.Call (.Name a p1) [] [] p2) env P
/-- what a def promises that gets a lambda and calls it; tg: what is wanted of the lambda, from what is wanted of the answer and of the maker's names then -/
abbrev Tg := ((T → Env → Prop) → (Ex → Env → Prop) → Prop) → (T → Env → Prop) → Prop
structure GvL (P : Program) (w : World) (K : PySem.W.Frag) (mg : Str → Option Value) (base : Heap) (Tq : List (Addr × Str)) (k : Nat) (x a : Str) (tg : Tg) : Prop where
  ex : ∃ (Ng : List Str) (st : Stmt) (g : Addr) (fd : FuncData), Fun K x x st g fd ∧ mg x = some (.ref g) ∧ PySem.W.keepIn K (.ref g) = true ∧ L2.Binds K fd [a] [] ∧ FnScope Ng [a] (defScope st) ∧ Ng[0]? = some a ∧ Vis (defScope st) a ∧
    ∀ (cdg : Value) (A : Around) (outer : List PySem.Env) (s : Shared) (H : Hp) (Z : Zb Tq) (lam : Env → T) (LB : LamB) (e0 : Env) (QT : T → Env → Prop),
      Room k (BX P w K mg base Ng x st g cdg A outer s H fun _ _ _ => False).A → (BX P w K mg base Ng x st g cdg A outer s H fun _ _ _ => False).A.guards = some [] →
      PassesOwn (model P w) (BX P w K mg base Ng x st g cdg A outer s H fun _ _ _ => False).A (BX P w K mg base Ng x st g cdg A outer s H fun _ _ _ => False).env (BX P w K mg base Ng x st g cdg A outer s H fun _ _ _ => False).xe →
      Act Z (BX P w K mg base Ng x st g cdg A outer s H fun _ _ _ => False) a 0 lam LB → tg (LB e0) QT →
      WSs Z (BX P w K mg base Ng x st g cdg A outer s H fun _ _ _ => False) (defBody st) (startE Ng [lam e0]) fun o => match o with
        | .ret t env => ∃ e', env[0]? = some (some (lam e')) ∧ QT t e'
        | _ => False
end QL

/-! QLb: try: .. except C as e: x = e; what x is afterwards. -/
namespace QL
open PySem PySem.Spec PyProof.Rows L2

theorem ExAt.mono {F F' : Hp} {ex : Ex} {cls : Value} {d : Option Addr} (s : Same F F') (h : ExAt F ex cls d) : ExAt F' ex cls d := by
  obtain ⟨e, h | ⟨dd, vfs, ed, hd, r⟩⟩ := h
  · exact ⟨e, .inl h⟩
  · exact ⟨e, .inr ⟨dd, vfs, ed, s _ _ hd, r.mono s⟩⟩
theorem endsOf.back {Tq : List (Addr × Str)} {Z : Zb Tq} {F H : Hp} {O : List Addr} {P : Out → Prop} (b : Bas Z F H O) : EndsLe (endsOf ⟨H, F, O, b.tabs⟩ H F O P) (endsOf Z H F O P) :=
  have to : ∀ {F' H' : Hp} {O' : List Addr}, Bas ⟨H, F, O, b.tabs⟩ F' H' O' → Bas Z F' H' O' := fun b' => ⟨b'.sub, b'.nd, b'.dis, b.abs.trans b'.abs⟩
  ⟨fun σ H' ⟨F', O', e, b', o', fr, q⟩ => ⟨F', O', e, to b', o', fr, q⟩, fun v H' ⟨F', Oa, Ob, σ, t, e, b', o', w', fr, q⟩ => ⟨F', Oa, Ob, σ, t, e, to b', o', w', fr, q⟩,
    fun σ H' ⟨F', O', e, b', o', fr, q⟩ => ⟨F', O', e, to b', o', fr, q⟩, fun σ H' ⟨F', O', e, b', o', fr, q⟩ => ⟨F', O', e, to b', o', fr, q⟩⟩
end QL

/-! QLc: an exception that a name holds: isinstance, is None, its fields. -/
namespace QL
open PySem PySem.Spec PySem.Calls PyProof.Rows L2
section
variable {Tq : List (Addr × Str)} {Z : Zb Tq} {X : Cx} {env : Env} {P : R → Env → Prop} {pos p p1 p2 apos : Pos} {y : Str} {a : Addr} {ex : Ex}
theorem ExAt.dict {F H : Hp} {cls : Value} {d : Option Addr} (s : Same F H) (h : ExAt F ex cls d) : d = none ∨ ∃ dd fs, d = some dd ∧ H dd = some (.xd fs) := by
  obtain ⟨_, h | ⟨dd, vfs, ed, hd, _⟩⟩ := h
  · exact .inl h.1
  · exact .inr ⟨dd, vfs, ed, s _ _ hd⟩
end
end QL

/-! QLd: raise C(v), C a class of one's own whose __init__ calls B.__init__(self, '..') and sets one field. -/
namespace QL
open PySem PySem.Spec PySem.Calls PyProof.Rows L2
/-- what such an __init__ does: one field, with the value that it got -/
def spX (K : PySem.W.Frag) (C : Addr) (f : Str) : Sp := fun vs H Q E => ∃ (a : Addr) (v : V), vs = [.ref a, v] ∧ OexC K C ∧ H a = some (exo a C none) ∧ ∀ dx, H dx = none → dx ≠ a → Q .non (upd (upd H dx (exd dx [(f, v)])) a (exo a C (some dx)))
/-- what an __init__ without fields does -/
def spX0 (K : PySem.W.Frag) (C : Addr) : Sp := fun vs H Q E => ∃ (a : Addr), vs = [.ref a] ∧ OexC K C ∧ H a = some (exo a C none) ∧ Q .non H
end QL

/-! QLe: calls whose errors pass on; makers of lambdas; errors that a module makes. -/
namespace QL
open PySem PySem.Spec PySem.Calls PyProof.Rows L2
/-! ### errors that a module makes -/
/-- an error class with one field f -/
structure Rz (P : Program) (w : World) (K : PySem.W.Frag) (mg : Str → Option Value) (base : Heap) (k : Nat) (x : Str) (C : Addr) (f : Str) : Prop where
  ex : ∃ (fI : Addr) (fd : FuncData) (ps : List Str), OexC K C ∧ PySem.W.findIn K (.ref C) "__init__" = some (some (.ref fI)) ∧ PySem.W.typeIn K (.ref fI) = some (.type "function") ∧ FnOk P w K mg base (L2.CX P w) k fI fd ps (spX K C f) ∧ L2.Binds K fd ps [] ∧ mg x = some (.ref C)
theorem Rz.mono {P : Program} {w : World} {K : PySem.W.Frag} {mg : Str → Option Value} {base : Heap} {j k : Nat} {x : Str} {C : Addr} {f : Str} (R : Rz P w K mg base j x C f) (h : j ≤ k) : Rz P w K mg base k x C f :=
  let ⟨fI, fd, ps, a, b, c, d, e⟩ := R.ex; ⟨fI, fd, ps, a, b, c, d.mono h, e⟩
/-- an error class without fields -/
structure Rz0 (P : Program) (w : World) (K : PySem.W.Frag) (mg : Str → Option Value) (base : Heap) (k : Nat) (x : Str) (C : Addr) : Prop where
  ex : ∃ (fI : Addr) (fd : FuncData) (ps : List Str), OexC K C ∧ PySem.W.findIn K (.ref C) "__init__" = some (some (.ref fI)) ∧ PySem.W.typeIn K (.ref fI) = some (.type "function") ∧ FnOk P w K mg base (L2.CX P w) k fI fd ps (spX0 K C) ∧ L2.Binds K fd ps [] ∧ mg x = some (.ref C)
theorem Rz0.mono {P : Program} {w : World} {K : PySem.W.Frag} {mg : Str → Option Value} {base : Heap} {j k : Nat} {x : Str} {C : Addr} (R : Rz0 P w K mg base j x C) (h : j ≤ k) : Rz0 P w K mg base k x C :=
  let ⟨fI, fd, ps, a, b, c, d, e⟩ := R.ex; ⟨fI, fd, ps, a, b, c, d.mono h, e⟩
/-- a def with defaults -/
structure FunV (K : PySem.W.Frag) (x qual : Str) (st : Stmt) (f : Addr) (fd : FuncData) : Prop where
  ex : ∃ (oc : Value) (od : Option Addr) (dV kV doc pm : Value) (an : Option Addr) (cdv ct : Value) (osl : Array (Option Value)),
    fd = PySem.W.fnOf x qual (defArgs st) (defBody st) (defScope st) dV kV doc pm an cdv ct ∧ K.lookup f = some ⟨oc, od, .func fd, osl⟩ ∧ PySem.W.codeIn K cdv qual = true
theorem GvL.mono {P : Program} {w : World} {K : PySem.W.Frag} {mg : Str → Option Value} {base : Heap} {Tq : List (Addr × Str)} {j k : Nat} {x a : Str} {tg : Tg} (G : GvL P w K mg base Tq j x a tg) (h : j ≤ k) : GvL P w K mg base Tq k x a tg := by
  obtain ⟨Ng, st, g, fd, Fn, hm, hk, hb, Sg, hNg, hva, hG⟩ := G.ex
  exact ⟨Ng, st, g, fd, Fn, hm, hk, hb, Sg, hNg, hva, fun cdg A outer s H Z lam LB e0 QT hr => hG cdg A outer s H Z lam LB e0 QT (hr.mono h)⟩
end QL

/-! QHd: a law's head by one kernel run; what the end leans on is read off the heap by a Hook of one's own. -/
namespace QL
open PySem PySem.Spec PyProof.Rows L2

/-- one def: where it stands, its names, its text, whether it has one default -/
structure FnQ where
  at_ : PySem.W.Frag → Addr
  name : Str
  qual : Str
  st : Stmt
  dfl : Bool
def FnQ.val (d : FnQ) : He.FnW := some (d.name, d.qual, defArgs d.st, .stmts (defBody d.st), defScope d.st, mainGlobals, [], builtinsNs)
def fnAt (K : PySem.W.Frag) (a : Addr) : He.FnW := match K.lookup a with
  | some ⟨_, _, .func fd, _⟩ => some (fd.name, fd.qualname, fd.params, fd.body, fd.scope, fd.globals, fd.closure, fd.builtins)
  | _ => none
def dflQ (K : PySem.W.Frag) (b : Bool) (v : Value) : Bool := match v with
  | .none => !b
  | .ref T => b && (match K.lookup T with
    | some ⟨_, _, .seq its _, _⟩ => decide (its.size = 1)
    | _ => false)
  | _ => false
def FnQ.ok (K : PySem.W.Frag) (d : FnQ) : Bool := match K.lookup (d.at_ K) with
  | some ⟨_, _, .func fd, _⟩ => PySem.W.codeIn K fd.code d.qual && dflQ K d.dfl fd.defaults
  | _ => false
theorem FnQ.get {K : PySem.W.Frag} {d : FnQ} (e : fnAt K (d.at_ K) = d.val) (c : d.ok K = true) :
    ∃ oc od dV kV doc pm an cd ct sl, K.lookup (d.at_ K) = some ⟨oc, od, .func (PySem.W.fnOf d.name d.qual (defArgs d.st) (defBody d.st) (defScope d.st) dV kV doc pm an cd ct), sl⟩ ∧ PySem.W.codeIn K cd d.qual = true ∧ dflQ K d.dfl dV = true := by
  unfold FnQ.ok at c
  unfold fnAt at e
  cases q : K.lookup (d.at_ K) with
  | none => rw [q] at c; cases c
  | some o =>
    obtain ⟨oc, od, dt, osl⟩ := o
    rw [q] at c e
    cases dt with
    | func fd =>
      obtain ⟨n1, n2, n3, n4, n5, n6, n7, n8, n9, n10, n11, n12, n13, n14, n15⟩ := fd
      have e2 : (some (n1, n2, n3, n4, n5, n6, n7, n15) : He.FnW) = some (d.name, d.qual, defArgs d.st, .stmts (defBody d.st), defScope d.st, mainGlobals, [], builtinsNs) := e
      simp only [Option.some.injEq, Prod.mk.injEq] at e2
      obtain ⟨h1, h2, h3, h4, h5, h6, h7, h8⟩ := e2
      subst h1 h2 h3 h4 h5 h6 h7 h8
      have c3 : (PySem.W.codeIn K n13 d.qual && dflQ K d.dfl n8) = true := c
      obtain ⟨k1, k2⟩ := He.ba c3
      exact ⟨oc, od, n8, n9, n10, n11, n12, n13, n14, osl, rfl, k1, k2⟩
    | _ => cases c
theorem FnQ.get0 {K : PySem.W.Frag} {d : FnQ} (e : fnAt K (d.at_ K) = d.val) (c : d.ok K = true) (hd : d.dfl = false) :
    ∃ oc od kV doc pm an cd ct sl, K.lookup (d.at_ K) = some ⟨oc, od, .func (PySem.W.fnOf d.name d.qual (defArgs d.st) (defBody d.st) (defScope d.st) .none kV doc pm an cd ct), sl⟩ ∧ PySem.W.codeIn K cd d.qual = true := by
  obtain ⟨oc, od, dV, kV, doc, pm, an, cd, ct, sl, h1, h2, h3⟩ := FnQ.get e c
  rw [hd] at h3
  cases dV with
  | none => exact ⟨oc, od, kV, doc, pm, an, cd, ct, sl, h1, h2⟩
  | _ => cases h3
/-- the code object of the function at a -/
def cdAt (K : PySem.W.Frag) (a : Addr) : Addr := match K.lookup a with
  | some ⟨_, _, .func fd, _⟩ => (match fd.code with
    | .ref c => c
    | _ => 0)
  | _ => 0
theorem exF {xs : List (PySem.W.Frag → Bool)} {K : PySem.W.Frag} (h : xs.all (fun f => f K) = true) (j : Nat) {f : PySem.W.Frag → Bool} (e : xs[j]? = some f) : f K = true := List.all_eq_true.mp h f (List.mem_of_getElem? e)

/-! ### the Hook -/
/-- all that stands behind the top, the youngest first -/
def KQ (n : Nat) (g : Addr → Option Obj) : PySem.W.Frag := He.frT g (List.range n).reverse
def tabsQ (g : Addr → Option Obj) (mk : List (PySem.W.Frag → Addr)) (K : PySem.W.Frag) : Bool := mk.all fun m => PySem.W.codeHdIn K (cdAt K (m K)) (He.tabOf K (cdAt K (m K))) && (match g (He.tabOf K (cdAt K (m K))) with
  | some o => He.emptyTab o
  | none => false)
abbrev AlQ : Type := Bool × List He.FnW
def obsK (fn : List FnQ) (xs : List (PySem.W.Frag → Bool)) (mk : List (PySem.W.Frag → Addr)) (g : Addr → Option Obj) (K : PySem.W.Frag) : AlQ :=
  ((fn.all fun d => d.ok K) && (xs.all (fun f => f K) && tabsQ g mk K), fn.map fun d => fnAt K (d.at_ K))
def valQ (fn : List FnQ) : AlQ := (true, fn.map FnQ.val)
structure SaysQ (fn : List FnQ) (xs : List (PySem.W.Frag → Bool)) (mk : List (PySem.W.Frag → Addr)) (h : Heap) (K : PySem.W.Frag) : Prop where
  fns : ∀ (i : Nat) (d : FnQ), fn[i]? = some d → fnAt K (d.at_ K) = d.val ∧ d.ok K = true
  xs : xs.all (fun f => f K) = true
  hd : ∀ m ∈ mk, PySem.W.codeHdIn K (cdAt K (m K)) (He.tabOf K (cdAt K (m K))) = true
  out : ∀ m ∈ mk, K.lookup (He.tabOf K (cdAt K (m K))) = none
  empty : ∀ m ∈ mk, h.get? (He.tabOf K (cdAt K (m K))) = some { cls := .none, data := .fields #[] }
theorem saysQ_of {fn : List FnQ} {xs : List (PySem.W.Frag → Bool)} {mk : List (PySem.W.Frag → Addr)} {h : Heap} {n : Nat} (e : obsK fn xs mk h.get? (KQ n h.get?) = valQ fn) : SaysQ fn xs mk h (KQ n h.get?) := by
  have e1 : ((fn.all fun d => d.ok (KQ n h.get?)) && (xs.all (fun f => f (KQ n h.get?)) && tabsQ h.get? mk (KQ n h.get?))) = true := congrArg (fun z : AlQ => z.1) e
  have e2 : (fn.map fun d => fnAt (KQ n h.get?) (d.at_ (KQ n h.get?))) = fn.map FnQ.val := congrArg (fun z : AlQ => z.2) e
  obtain ⟨h1, h2⟩ := He.ba e1
  obtain ⟨h2, h3⟩ := He.ba h2
  have key : ∀ m ∈ mk, PySem.W.codeHdIn (KQ n h.get?) (cdAt (KQ n h.get?) (m (KQ n h.get?))) (He.tabOf (KQ n h.get?) (cdAt (KQ n h.get?) (m (KQ n h.get?)))) = true ∧ ∃ o, h.get? (He.tabOf (KQ n h.get?) (cdAt (KQ n h.get?) (m (KQ n h.get?)))) = some o ∧ He.emptyTab o = true := fun m hm => by
    obtain ⟨h4, h5⟩ := He.ba (List.all_eq_true.mp h3 m hm)
    refine ⟨h4, ?_⟩
    cases q : h.get? (He.tabOf (KQ n h.get?) (cdAt (KQ n h.get?) (m (KQ n h.get?)))) with
    | none => rw [q] at h5; cases h5
    | some o => rw [q] at h5; exact ⟨o, rfl, h5⟩
  refine ⟨fun i d hd => ⟨?_, List.all_eq_true.mp h1 d (List.mem_of_getElem? hd)⟩, h2, fun m hm => (key m hm).1, fun m hm => ?_, fun m hm => ?_⟩
  · have e3 : (fn.map fun d => fnAt (KQ n h.get?) (d.at_ (KQ n h.get?)))[i]? = (fn.map FnQ.val)[i]? := by rw [e2]
    rw [List.getElem?_map, List.getElem?_map, hd] at e3
    exact Option.some.inj e3
  · obtain ⟨_, o, q, z⟩ := key m hm
    exact He.frT_none q z
  · obtain ⟨_, o, q, z⟩ := key m hm
    rw [q, He.emptyTab_eq z]
def hookQ (fn : List FnQ) (xs : List (PySem.W.Frag → Bool)) (mk : List (PySem.W.Frag → Addr)) : PySem.W.Hook where
  α := AlQ
  obs := fun s => obsK fn xs mk s.heap.get? (KQ s.heap.objs.size s.heap.get?)
  val := fun _ => valQ fn
  says := fun _ h => ∃ K : PySem.W.Frag, K.In h ∧ SaysQ fn xs mk h K
  of := fun _ _ e => ⟨_, He.frT_in, saysQ_of e⟩
  keeps := fun _ _ _ ⟨K, hK, c⟩ k => ⟨K, PySem.W.Frag.In.keeps hK k, ⟨c.fns, c.xs, c.hd, c.out, fun m hm => k _ _ (c.empty m hm)⟩⟩
/-- for head_any: off the tree -/
def obQ (fn : List FnQ) (xs : List (PySem.W.Frag → Bool)) (mk : List (PySem.W.Frag → Addr)) (s : PySem.W.SharedT) : AlQ := obsK fn xs mk (HandSHeadRun.getT s) (KQ s.n (HandSHeadRun.getT s))
theorem obQ_eq (fn : List FnQ) (xs : List (PySem.W.Frag → Bool)) (mk : List (PySem.W.Frag → Addr)) (s : PySem.W.SharedT) : obQ fn xs mk s = (hookQ fn xs mk).obs s.abs := by
  have e : HandSHeadRun.getT s = s.abs.heap.get? := funext (HandSHeadRun.getT_eq s)
  show obsK fn xs mk (HandSHeadRun.getT s) (KQ s.n (HandSHeadRun.getT s)) = obsK fn xs mk s.abs.heap.get? (KQ s.abs.heap.objs.size s.abs.heap.get?)
  rw [e, show s.abs.heap.objs.size = s.n from PySem.W.absHeap_size ..]
/-- the tables of the defs that make lambdas -/
theorem SaysQ.cs {fn : List FnQ} {xs : List (PySem.W.Frag → Bool)} {mk : List (PySem.W.Frag → Addr)} {h : Heap} {K : PySem.W.Frag} (KX : K.In h) (c : SaysQ fn xs mk h K) (ms : List ((PySem.W.Frag → Addr) × Str)) (hm : ∀ m ∈ ms, m.1 ∈ mk) (hq : ∀ m ∈ ms, m.2 ≠ "()" := by intro m hm; first | (cases hm; done) | (simp only [List.mem_cons, List.not_mem_nil, or_false] at hm; rcases hm with rfl | rfl | rfl | rfl | rfl | rfl | rfl | rfl <;> exact lam_ne _) | (simp only [List.mem_cons, List.not_mem_nil, or_false] at hm; rcases hm with rfl | rfl | rfl <;> exact lam_ne _) | (simp only [List.mem_cons, List.not_mem_nil, or_false] at hm; rcases hm with rfl | rfl <;> exact lam_ne _) | (simp only [List.mem_cons, List.not_mem_nil, or_false] at hm; subst hm; exact lam_ne _)) :
    CsAt K h (ms.map fun m => (cdAt K (m.1 K), He.tabOf K (cdAt K (m.1 K)), m.2)) := by
  refine ⟨fun p hp => ?_, fun p hp => ?_, fun p hp => ?_, fun p hp => ?_⟩ <;> (obtain ⟨m, hm1, rfl⟩ := List.mem_map.mp hp)
  · exact c.empty _ (hm m hm1)
  · exact c.out _ (hm m hm1)
  · exact PySem.W.codeHd_of_K KX (c.hd _ (hm m hm1))
  · exact hq m hm1
end QL

/-! LM: mathematics of layouts: sums, lines, layouts, least costs, the table. -/
namespace LM
open PySem
def sumsF (a : Int) : List Int → List Int
  | [] => [a]
  | w :: r => a :: sumsF (a + w + 1) r
theorem sumsF_len : ∀ (a : Int) (ws : List Int), (sumsF a ws).length = ws.length + 1
  | _, [] => rfl
  | a, w :: r => congrArg (· + 1) (sumsF_len (a + w + 1) r)
theorem sumsF_snoc : ∀ (a : Int) (ws : List Int) (w : Int), ∃ z, (sumsF a ws).getLast? = some z ∧ sumsF a (ws ++ [w]) = sumsF a ws ++ [z + w + 1]
  | a, [], w => ⟨a, rfl, rfl⟩
  | a, x :: r, w => by
    obtain ⟨z, h1, h2⟩ := sumsF_snoc (a + x + 1) r w
    refine ⟨z, ?_, ?_⟩
    · show (a :: sumsF (a + x + 1) r).getLast? = some z
      rw [List.getLast?_cons, h1]
      rfl
    · show a :: sumsF (a + x + 1) (r ++ [w]) = _
      rw [h2]
      rfl
theorem sumsF_get : ∀ (ws : List Int) (a : Int) (j : Nat), j ≤ ws.length → (sumsF a ws).getD j 0 = a + (ws.take j).sum + j
  | [], a, j, h => by
    have : j = 0 := Nat.le_zero.mp h
    subst this
    simp [sumsF]
  | w :: r, a, 0, _ => by simp [sumsF]
  | w :: r, a, j + 1, h => by
    have ih := sumsF_get r (a + w + 1) j (Nat.le_of_succ_le_succ h)
    show (sumsF (a + w + 1) r).getD j 0 = _
    rw [ih, List.take_succ_cons, List.sum_cons]
    omega
theorem atI_getD {xs : List Int} {i : Nat} (h : i < xs.length) : L2.atI xs (i : Int) = some (xs.getD i 0) := by
  refine L2.atI_nat ?_
  rw [List.getD_eq_getElem?_getD, List.getElem?_eq_getElem h]
  rfl
/-- words of a width -/
structure Wd (wd : Int) (ws : List Int) : Prop where
  w1 : 1 ≤ wd
  w2 : wd ≤ 1000000000
  len : ws.length ≤ 1000
  wrd : ∀ x ∈ ws, 1 ≤ x ∧ x ≤ wd
def sm (ws : List Int) (j : Nat) : Int := (sumsF 0 ws).getD j 0
/-- the length of a line -/
def ln (ws : List Int) (i j : Nat) : Int := sm ws j - sm ws i - 1
def sq (wd : Int) (ws : List Int) (i j : Nat) : Int := (wd - ln ws i j) ^ 2
theorem sm_at (ws : List Int) {j : Nat} (h : j ≤ ws.length) : L2.atI (sumsF 0 ws) (j : Int) = some (sm ws j) := atI_getD (by rw [sumsF_len]; omega)
theorem sm_eq (ws : List Int) {j : Nat} (h : j ≤ ws.length) : sm ws j = (ws.take j).sum + j := by
  unfold sm; rw [sumsF_get ws 0 j h]; omega
theorem sm_succ (ws : List Int) {j : Nat} (h : j < ws.length) : sm ws (j + 1) = sm ws j + ws[j] + 1 := by
  rw [sm_eq ws (by omega), sm_eq ws (by omega), List.take_add_one, List.getElem?_eq_getElem h, List.sum_append]
  simp
  omega
section
variable {wd : Int} {ws : List Int} (W : Wd wd ws)
include W
theorem sm_step {j : Nat} (h : j < ws.length) : sm ws j + 2 ≤ sm ws (j + 1) ∧ sm ws (j + 1) ≤ sm ws j + wd + 1 := by
  have := W.wrd ws[j] (List.getElem_mem h)
  rw [sm_succ ws h]; omega
theorem sm_mono {i j : Nat} (hij : i ≤ j) (h : j ≤ ws.length) : sm ws i + 2 * ((j : Int) - i) ≤ sm ws j ∧ sm ws j ≤ sm ws i + (wd + 1) * ((j : Int) - i) := by
  induction j with
  | zero =>
    have : i = 0 := by omega
    subst this; simp
  | succ j ih =>
    by_cases e : i = j + 1
    · subst e; simp
    · have h1 := ih (by omega) (by omega)
      have h2 := sm_step W (j := j) (by omega)
      have e2 : (wd + 1) * (((j + 1 : Nat) : Int) - i) = (wd + 1) * ((j : Int) - i) + (wd + 1) := by
        have : (((j + 1 : Nat) : Int) - i) = ((j : Int) - i) + 1 := by omega
        rw [this, Int.mul_add]; omega
      rw [e2]
      omega
theorem sm_bd {j : Nat} (h : j ≤ ws.length) : 0 ≤ sm ws j ∧ sm ws j ≤ 1000000001000 := by
  have h1 := sm_mono W (Nat.zero_le j) h
  have h0 : sm ws 0 = 0 := by rw [sm_eq ws (Nat.zero_le _)]; simp
  have h2 := W.len
  have h3 : (wd + 1) * ((j : Int) - (0 : Nat)) ≤ 1000000001 * 1000 := Int.mul_le_mul (by have := W.w2; omega) (by omega) (by omega) (by decide)
  omega
theorem ln_bd {i j : Nat} (hi : i ≤ ws.length) (hj : j ≤ ws.length) : -1000000001001 ≤ ln ws i j ∧ ln ws i j ≤ 1000000001000 := by
  have h1 := sm_bd W hi
  have h2 := sm_bd W hj
  unfold ln; omega
theorem ln_anti {i i' j : Nat} (h : i ≤ i') (h2 : i' ≤ j) (hj : j ≤ ws.length) : ln ws i' j ≤ ln ws i j := by
  have := (sm_mono W h (by omega)).1
  unfold ln; omega
theorem ln_one {j : Nat} (h : j < ws.length) : ln ws j (j + 1) = ws[j] := by
  unfold ln; rw [sm_succ ws h]; omega
theorem ln_fit1 {j : Nat} (h : j < ws.length) : ln ws j (j + 1) ≤ wd := by
  rw [ln_one W h]; exact (W.wrd ws[j] (List.getElem_mem h)).2
end
/-! ### the places at which a line can begin -/
def bgF (wd : Int) (ws : List Int) (e : Nat) : Nat → List Nat
  | 0 => []
  | b + 1 => if ln ws b e ≤ wd then b :: bgF wd ws e b else []
/-- the latest one first -/
def bg (wd : Int) (ws : List Int) (e : Nat) : List Nat := bgF wd ws e e
theorem bgF_mem {wd : Int} {ws : List Int} (W : Wd wd ws) {e : Nat} (he : e ≤ ws.length) : ∀ {m b : Nat}, m ≤ e → (b ∈ bgF wd ws e m ↔ b < m ∧ ln ws b e ≤ wd)
  | 0, b, _ => by simp [bgF]
  | m + 1, b, hm => by
    unfold bgF
    by_cases h : ln ws m e ≤ wd
    · rw [if_pos h, List.mem_cons, bgF_mem W he (by omega : m ≤ e)]
      constructor
      · rintro (rfl | ⟨h1, h2⟩)
        · exact ⟨by omega, h⟩
        · exact ⟨by omega, h2⟩
      · rintro ⟨h1, h2⟩
        by_cases e1 : b = m
        · exact .inl e1
        · exact .inr ⟨by omega, h2⟩
    · rw [if_neg h]
      constructor
      · intro z; cases z
      · rintro ⟨h1, h2⟩
        have := ln_anti W (i := b) (i' := m) (j := e) (by omega) (by omega) he
        omega
theorem bg_mem {wd : Int} {ws : List Int} (W : Wd wd ws) {e b : Nat} (he : e ≤ ws.length) : b ∈ bg wd ws e ↔ b < e ∧ ln ws b e ≤ wd := bgF_mem W he (Nat.le_refl e)
theorem bg_ne {wd : Int} {ws : List Int} (W : Wd wd ws) {e : Nat} (h0 : 0 < e) (he : e ≤ ws.length) : bg wd ws e ≠ [] := by
  obtain ⟨e, rfl⟩ : ∃ e', e = e' + 1 := ⟨e - 1, by omega⟩
  have : e ∈ bg wd ws (e + 1) := (bg_mem W he).mpr ⟨by omega, ln_fit1 W (by omega)⟩
  exact List.ne_nil_of_mem this
theorem bg_len {wd : Int} {ws : List Int} {e : Nat} : (bg wd ws e).length ≤ e := by
  have key : ∀ m, (bgF wd ws e m).length ≤ m := fun m => by
    induction m with
    | zero => exact Nat.le_refl _
    | succ m ih => unfold bgF; split <;> simp <;> omega
  exact key e
/-! ### the least of pairs -/
def minP (a : Int × Int) (xs : List (Int × Int)) : Int × Int := xs.foldl (fun a y => if y.1 < a.1 ∨ (y.1 = a.1 ∧ y.2 < a.2) then y else a) a
def pD (p : Int × Int) : PyData := .tuple [.int p.1, .int p.2]
theorem minD_pairs (xs : List (Int × Int)) : ∀ a, W.minD (pD a) (xs.map pD) = pD (minP a xs) := by
  unfold W.minD minP
  induction xs with
  | nil => intro a; rfl
  | cons x xs ih =>
    intro a
    rw [List.map_cons, List.foldl_cons, List.foldl_cons]
    have e : W.dataLt (pD x) (pD a) = decide (x.1 < a.1 ∨ (x.1 = a.1 ∧ x.2 < a.2)) := W.dataLt_ii _ _ _ _
    rw [e]
    by_cases h : x.1 < a.1 ∨ (x.1 = a.1 ∧ x.2 < a.2)
    · rw [if_pos (decide_eq_true h), if_pos h]; exact ih x
    · rw [if_neg (by simpa using h), if_neg h]; exact ih a
theorem minP_spec (xs : List (Int × Int)) : ∀ a, minP a xs ∈ a :: xs ∧ ∀ y ∈ a :: xs, (minP a xs).1 < y.1 ∨ ((minP a xs).1 = y.1 ∧ (minP a xs).2 ≤ y.2) := by
  induction xs with
  | nil => intro a; exact ⟨List.mem_cons_self, fun y hy => by rw [List.mem_singleton.mp hy]; exact .inr ⟨rfl, Int.le_refl _⟩⟩
  | cons x xs ih =>
    intro a
    have e : minP a (x :: xs) = minP (if x.1 < a.1 ∨ (x.1 = a.1 ∧ x.2 < a.2) then x else a) xs := rfl
    rw [e]
    by_cases h : x.1 < a.1 ∨ (x.1 = a.1 ∧ x.2 < a.2)
    · rw [if_pos h]
      obtain ⟨h1, h2⟩ := ih x
      refine ⟨List.mem_cons_of_mem _ h1, fun y hy => ?_⟩
      rcases List.mem_cons.mp hy with rfl | hy
      · have := h2 x List.mem_cons_self
        omega
      · exact h2 y hy
    · rw [if_neg h]
      obtain ⟨h1, h2⟩ := ih a
      refine ⟨?_, fun y hy => ?_⟩
      · rcases List.mem_cons.mp h1 with e | e
        · rw [e]; exact List.mem_cons_self
        · exact List.mem_cons_of_mem _ (List.mem_cons_of_mem _ e)
      · rcases List.mem_cons.mp hy with rfl | hy
        · exact h2 y List.mem_cons_self
        · rcases List.mem_cons.mp hy with rfl | hy
          · have := h2 a List.mem_cons_self
            omega
          · exact h2 y (List.mem_cons_of_mem _ hy)
def minL : List (Int × Int) → Int × Int
  | [] => (0, 0)
  | a :: xs => minP a xs
/-- the least, of equal ones the latest place: costs f at the places bs -/
def best (f : Nat → Int) (bs : List Nat) : Int × Int := minL (bs.map fun b => (f b, -(b : Int)))
theorem best_spec (f : Nat → Int) {bs : List Nat} (h : bs ≠ []) : ∃ b ∈ bs, best f bs = (f b, -(b : Int)) ∧ ∀ c ∈ bs, f b < f c ∨ (f b = f c ∧ c ≤ b) := by
  cases bs with
  | nil => exact absurd rfl h
  | cons a bs =>
    obtain ⟨h1, h2⟩ := minP_spec (bs.map fun b => (f b, -(b : Int))) (f a, -(a : Int))
    have e : best f (a :: bs) = minP (f a, -(a : Int)) (bs.map fun b => (f b, -(b : Int))) := rfl
    rw [← e] at h1 h2
    have m : best f (a :: bs) ∈ (a :: bs).map fun b => (f b, -(b : Int)) := h1
    obtain ⟨b, hb, eb⟩ := List.mem_map.mp m
    refine ⟨b, hb, eb.symm, fun c hc => ?_⟩
    have := h2 (f c, -(c : Int)) (by have : (f c, -(c : Int)) ∈ (a :: bs).map fun b => (f b, -(b : Int)) := List.mem_map.mpr ⟨c, hc, rfl⟩; exact this)
    rw [← eb] at this
    simp only at this
    omega
/-! ### the table -/
/-- costs and befores of the ends up to n -/
def tab (wd : Int) (ws : List Int) : Nat → List (Int × Nat)
  | 0 => [(0, 0)]
  | n + 1 =>
    let t := tab wd ws n
    let p := best (fun b => (t.getD b (0, 0)).1 + sq wd ws b (n + 1)) (bg wd ws (n + 1))
    t ++ [(p.1, (-p.2).toNat)]
theorem tab_len (wd : Int) (ws : List Int) : ∀ n, (tab wd ws n).length = n + 1
  | 0 => rfl
  | n + 1 => by unfold tab; simp [tab_len wd ws n]
theorem tab_pre (wd : Int) (ws : List Int) {m n : Nat} (h : m ≤ n) : (tab wd ws n).take (m + 1) = tab wd ws m := by
  induction n with
  | zero =>
    have : m = 0 := by omega
    subst this; rfl
  | succ n ih =>
    by_cases e : m = n + 1
    · subst e
      rw [List.take_of_length_le]; rw [tab_len]; omega
    · show List.take (m + 1) (tab wd ws n ++ _) = _
      rw [List.take_append_of_le_length (by rw [tab_len]; omega)]
      exact ih (by omega)
/-- the least full cost up to an end; where its last line begins -/
def C (wd : Int) (ws : List Int) (e : Nat) : Int := ((tab wd ws e).getD e (0, 0)).1
def B (wd : Int) (ws : List Int) (e : Nat) : Nat := ((tab wd ws e).getD e (0, 0)).2
theorem tab_get {wd : Int} {ws : List Int} {m n : Nat} (h : m ≤ n) : (tab wd ws n).getD m (0, 0) = (C wd ws m, B wd ws m) := by
  have e := tab_pre wd ws h
  have : (tab wd ws n).getD m (0, 0) = (tab wd ws m).getD m (0, 0) := by
    rw [← e, List.getD_eq_getElem?_getD, List.getD_eq_getElem?_getD, List.getElem?_take]
    simp
  rw [this]
  rfl
theorem CB_succ (wd : Int) (ws : List Int) (n : Nat) : best (fun b => C wd ws b + sq wd ws b (n + 1)) (bg wd ws (n + 1)) = best (fun b => ((tab wd ws n).getD b (0, 0)).1 + sq wd ws b (n + 1)) (bg wd ws (n + 1)) := by
  unfold best
  congr 1
  apply List.map_congr_left
  intro b hb
  have : b ≤ n := by
    have key : ∀ m, m ≤ n + 1 → b ∈ bgF wd ws (n + 1) m → b < m := fun m => by
      induction m with
      | zero => intro _ z; cases z
      | succ m ih =>
        intro hm z
        unfold bgF at z
        split at z
        · rcases List.mem_cons.mp z with rfl | z
          · omega
          · have := ih (by omega) z; omega
        · cases z
    have := key (n + 1) (Nat.le_refl _) hb
    omega
  show (C wd ws b + sq wd ws b (n + 1), -(b : Int)) = (((tab wd ws n).getD b (0, 0)).1 + sq wd ws b (n + 1), -(b : Int))
  rw [tab_get this]
theorem CB_at {wd : Int} {ws : List Int} (W : Wd wd ws) {e : Nat} (h0 : 0 < e) (he : e ≤ ws.length) : B wd ws e < e ∧ ln ws (B wd ws e) e ≤ wd ∧ C wd ws e = C wd ws (B wd ws e) + sq wd ws (B wd ws e) e ∧
    best (fun b => C wd ws b + sq wd ws b e) (bg wd ws e) = (C wd ws e, -(B wd ws e : Int)) ∧ ∀ b, b < e → ln ws b e ≤ wd → C wd ws e < C wd ws b + sq wd ws b e ∨ (C wd ws e = C wd ws b + sq wd ws b e ∧ b ≤ B wd ws e) := by
  obtain ⟨n, rfl⟩ : ∃ n, e = n + 1 := ⟨e - 1, by omega⟩
  obtain ⟨b, hb, eb, hm⟩ := best_spec (fun b => C wd ws b + sq wd ws b (n + 1)) (bg_ne W h0 he)
  have eg : (tab wd ws (n + 1)).getD (n + 1) (0, 0) = ((C wd ws b + sq wd ws b (n + 1)), b) := by
    show (tab wd ws n ++ [((best (fun b => ((tab wd ws n).getD b (0, 0)).1 + sq wd ws b (n + 1)) (bg wd ws (n + 1))).1, (-(best (fun b => ((tab wd ws n).getD b (0, 0)).1 + sq wd ws b (n + 1)) (bg wd ws (n + 1))).2).toNat)]).getD (n + 1) (0, 0) = _
    rw [← CB_succ, eb]
    simp only
    rw [List.getD_eq_getElem?_getD, List.getElem?_append_right (by rw [tab_len]; omega), tab_len]
    simp
  have eC : C wd ws (n + 1) = C wd ws b + sq wd ws b (n + 1) := by unfold C; rw [eg]; rfl
  have eB : B wd ws (n + 1) = b := by unfold B; rw [eg]
  have hb2 := (bg_mem W he).mp hb
  rw [eB, eC]
  refine ⟨hb2.1, hb2.2, rfl, eb, fun c hc hl => ?_⟩
  exact hm c ((bg_mem W he).mpr ⟨hc, hl⟩)
/-! ### ways -/
def wayN (B : Nat → Nat) : Nat → Nat → List Nat
  | 0, _ => []
  | k + 1, e => if e = 0 then [] else wayN B k (B e) ++ [e]
/-- the ends up to a place -/
def way (wd : Int) (ws : List Int) (e : Nat) : List Nat := wayN (B wd ws) e e
theorem wayN_one {f : Nat → Nat} {n : Nat} (hf : ∀ e, 0 < e → e ≤ n → f e < e) : ∀ k e, e ≤ k → e ≤ n → wayN f (k + 1) e = wayN f k e
  | 0, e, he, _ => by
    have : e = 0 := by omega
    subst this; rfl
  | k + 1, e, he, hn => by
    by_cases h0 : e = 0
    · subst h0; rfl
    · have := hf e (by omega) hn
      show (if e = 0 then [] else wayN f (k + 1) (f e) ++ [e]) = (if e = 0 then [] else wayN f k (f e) ++ [e])
      rw [if_neg h0, if_neg h0, wayN_one hf k (f e) (by omega) (by omega)]
theorem wayN_more {f : Nat → Nat} {n : Nat} (hf : ∀ e, 0 < e → e ≤ n → f e < e) (d e : Nat) (hn : e ≤ n) : wayN f (e + d) e = wayN f e e := by
  induction d with
  | zero => rfl
  | succ d ih =>
    have := wayN_one hf (e + d) e (by omega) hn
    rw [← ih, ← this]
    rfl
theorem way_step {wd : Int} {ws : List Int} (W : Wd wd ws) {e : Nat} (h0 : 0 < e) (he : e ≤ ws.length) : way wd ws e = way wd ws (B wd ws e) ++ [e] := by
  obtain ⟨m, rfl⟩ : ∃ m, e = m + 1 := ⟨e - 1, by omega⟩
  have hf : ∀ e, 0 < e → e ≤ ws.length → B wd ws e < e := fun e h1 h2 => (CB_at W h1 h2).1
  have := hf (m + 1) h0 he
  show (if m + 1 = 0 then [] else wayN (B wd ws) m (B wd ws (m + 1)) ++ [m + 1]) = _
  rw [if_neg (by omega)]
  show _ = wayN (B wd ws) (B wd ws (m + 1)) (B wd ws (m + 1)) ++ [m + 1]
  have e1 := wayN_more hf (m - B wd ws (m + 1)) (B wd ws (m + 1)) (by omega)
  have e2 : B wd ws (m + 1) + (m - B wd ws (m + 1)) = m := by omega
  rw [e2] at e1
  rw [e1]
end LM

/-! LN: layouts and which are best. -/
namespace LM
open PySem
def prsN (ns : List Nat) : List (Nat × Nat) := (0 :: ns.dropLast).zip ns
theorem prsN_snoc (ns : List Nat) (h : Nat) : prsN (ns ++ [h]) = prsN ns ++ [(ns.getLastD 0, h)] := by
  unfold prsN
  rw [List.dropLast_concat]
  rcases List.eq_nil_or_concat ns with e | ⟨ms, l, e⟩
  · subst e; rfl
  · rw [List.concat_eq_append] at e
    subst e
    rw [List.dropLast_concat]
    have e1 : (0 :: (ms ++ [l])) = (0 :: ms) ++ [l] := rfl
    rw [e1, List.zip_append (by simp)]
    simp
def sqsN (wd : Int) (ws : List Int) (ns : List Nat) : List Int := (prsN ns).map fun p => sq wd ws p.1 p.2
theorem sqsN_snoc (wd : Int) (ws : List Int) (ns : List Nat) (h : Nat) : sqsN wd ws (ns ++ [h]) = sqsN wd ws ns ++ [sq wd ws (ns.getLastD 0) h] := by
  unfold sqsN; rw [prsN_snoc, List.map_append]; rfl
def fc (wd : Int) (ws : List Int) (ns : List Nat) : Int := (sqsN wd ws ns).sum
def cost (wd : Int) (ws : List Int) (ns : List Nat) : Int := (sqsN wd ws ns).dropLast.sum
theorem fc_snoc (wd : Int) (ws : List Int) (ns : List Nat) (h : Nat) : fc wd ws (ns ++ [h]) = fc wd ws ns + sq wd ws (ns.getLastD 0) h := by
  unfold fc; rw [sqsN_snoc, List.sum_append]; simp
theorem cost_snoc (wd : Int) (ws : List Int) (ns : List Nat) (h : Nat) : cost wd ws (ns ++ [h]) = fc wd ws ns := by
  unfold cost fc; rw [sqsN_snoc, List.dropLast_concat]
/-- the layouts of the first words; their ends -/
inductive Lay (wd : Int) (ws : List Int) : List Nat → Nat → Prop
  | nil : Lay wd ws [] 0
  | snoc {ns : List Nat} {l h : Nat} : Lay wd ws ns l → l < h → ln ws l h ≤ wd → Lay wd ws (ns ++ [h]) h
theorem Lay.last {wd : Int} {ws : List Int} {ns : List Nat} {l : Nat} (c : Lay wd ws ns l) : ns.getLastD 0 = l := by
  cases c with
  | nil => rfl
  | snoc _ _ _ => simp
theorem Lay.inv {wd : Int} {ws : List Int} {ns : List Nat} {h e : Nat} (c : Lay wd ws (ns ++ [h]) e) : e = h ∧ ∃ l, Lay wd ws ns l ∧ l < h ∧ ln ws l h ≤ wd := by
  generalize hm : ns ++ [h] = ms at c
  cases c with
  | nil => simp at hm
  | snoc c1 h1 h2 =>
    obtain ⟨e1, e2⟩ := List.append_inj' hm rfl
    cases e2
    subst e1
    exact ⟨rfl, _, c1, h1, h2⟩
theorem Lay.ne {wd : Int} {ws : List Int} {ns : List Nat} {e : Nat} (c : Lay wd ws ns e) (h : 0 < e) : ∃ ms l, ns = ms ++ [e] ∧ Lay wd ws ms l ∧ l < e ∧ ln ws l e ≤ wd := by
  cases c with
  | nil => exact absurd h (Nat.lt_irrefl 0)
  | snoc c1 h1 h2 => exact ⟨_, _, rfl, c1, h1, h2⟩
theorem Lay.zero {wd : Int} {ws : List Int} {ns : List Nat} (c : Lay wd ws ns 0) : ns = [] := by
  cases c with
  | nil => rfl
  | snoc c1 h1 h2 => exact absurd h1 (Nat.not_lt_zero _)
theorem Lay.len {wd : Int} {ws : List Int} {ns : List Nat} {l : Nat} (c : Lay wd ws ns l) : ns.length ≤ l := by
  induction c with
  | nil => exact Nat.le_refl _
  | snoc _ h _ ih => rw [List.length_append, List.length_singleton]; omega
theorem Lay.mem {wd : Int} {ws : List Int} {ns : List Nat} {l : Nat} (c : Lay wd ws ns l) : ∀ x ∈ ns, 1 ≤ x ∧ x ≤ l := by
  induction c with
  | nil => intro x hx; cases hx
  | snoc _ h _ ih =>
    intro x hx
    rcases List.mem_append.mp hx with z | z
    · have := ih x z; omega
    · rw [List.mem_singleton.mp z]; omega
theorem Lay.prs {wd : Int} {ws : List Int} {ns : List Nat} {l : Nat} (c : Lay wd ws ns l) : ∀ p ∈ prsN ns, p.1 < p.2 ∧ p.2 ≤ l ∧ ln ws p.1 p.2 ≤ wd := by
  induction c with
  | nil => intro p hp; cases hp
  | @snoc ns l h c hl hf ih =>
    intro p hp
    rw [prsN_snoc] at hp
    rcases List.mem_append.mp hp with z | z
    · have := ih p z; omega
    · rw [List.mem_singleton.mp z, c.last]; exact ⟨hl, Nat.le_refl _, hf⟩
/-- later: the reversed ends as a tuple -/
def rv (ns : List Nat) : List Int := ns.reverse.map fun (n : Nat) => (n : Int)
theorem rv_snoc (ns : List Nat) (h : Nat) : rv (ns ++ [h]) = (h : Int) :: rv ns := by unfold rv; simp
theorem rv_inj {ns ms : List Nat} (h : rv ns = rv ms) : ns = ms := by
  unfold rv at h
  have := List.map_inj_right (f := fun (n : Nat) => (n : Int)) (fun a b e => by exact Int.ofNat.inj e) |>.mp h
  exact List.reverse_inj.mp this
section
variable {wd : Int} {ws : List Int} (W : Wd wd ws)
include W
theorem way_lay : ∀ e, e ≤ ws.length → Lay wd ws (way wd ws e) e ∧ fc wd ws (way wd ws e) = C wd ws e := by
  intro e
  induction e using Nat.strongRecOn with
  | _ e ih =>
    intro he
    by_cases h0 : e = 0
    · subst h0; exact ⟨.nil, rfl⟩
    · obtain ⟨h1, h2, h3, _, _⟩ := CB_at W (by omega : 0 < e) he
      obtain ⟨i1, i2⟩ := ih _ h1 (by omega)
      rw [way_step W (by omega) he]
      exact ⟨.snoc i1 h1 h2, by rw [fc_snoc, i1.last, i2, h3]⟩
theorem opt_full {ns : List Nat} {e : Nat} (c : Lay wd ws ns e) : e ≤ ws.length → C wd ws e ≤ fc wd ws ns ∧ (fc wd ws ns = C wd ws e → rv ns ≤ rv (way wd ws e)) := by
  induction c with
  | nil => intro _; exact ⟨Int.le_refl _, fun _ => List.le_refl _⟩
  | @snoc ns l h c hl hf ih =>
    intro he
    obtain ⟨i1, i2⟩ := ih (by omega)
    obtain ⟨h1, h2, h3, _, h5⟩ := CB_at W (by omega : 0 < h) he
    have q := h5 l hl hf
    rw [fc_snoc, c.last]
    refine ⟨by omega, fun e => ?_⟩
    rw [way_step W (by omega) he, rv_snoc, rv_snoc, List.cons_le_cons_iff]
    refine .inr ⟨rfl, ?_⟩
    have e1 : fc wd ws ns = C wd ws l := by omega
    have q2 : l ≤ B wd ws h := by omega
    by_cases e2 : l = B wd ws h
    · subst e2; exact i2 e1
    · have lb : l < B wd ws h := by omega
      rw [way_step W (e := B wd ws h) (by omega) (by omega), rv_snoc]
      by_cases l0 : l = 0
      · subst l0
        rw [c.zero]
        exact List.nil_le _
      · obtain ⟨ms, l', e3, _⟩ := c.ne (by omega)
        rw [e3, rv_snoc, List.cons_le_cons_iff]
        exact .inl (by omega)
end
/-! ### the best layout -/
def LS (wd : Int) (ws : List Int) : Nat := if ws.length = 0 then 0 else (-(best (C wd ws) (bg wd ws ws.length)).2).toNat
def bestLay (wd : Int) (ws : List Int) : List Nat := if ws.length = 0 then [] else way wd ws (LS wd ws) ++ [ws.length]
section
variable {wd : Int} {ws : List Int} (W : Wd wd ws)
include W
theorem LS_at (h0 : 0 < ws.length) : LS wd ws < ws.length ∧ ln ws (LS wd ws) ws.length ≤ wd ∧ best (C wd ws) (bg wd ws ws.length) = (C wd ws (LS wd ws), -(LS wd ws : Int)) ∧ ∀ b, b < ws.length → ln ws b ws.length ≤ wd → C wd ws (LS wd ws) < C wd ws b ∨ (C wd ws (LS wd ws) = C wd ws b ∧ b ≤ LS wd ws) := by
  obtain ⟨b, hb, eb, hm⟩ := best_spec (C wd ws) (bg_ne W h0 (Nat.le_refl _))
  have e : LS wd ws = b := by unfold LS; rw [if_neg (by omega), eb]; simp
  have hb2 := (bg_mem W (Nat.le_refl _)).mp hb
  rw [e]
  exact ⟨hb2.1, hb2.2, eb, fun c h1 h2 => hm c ((bg_mem W (Nat.le_refl _)).mpr ⟨h1, h2⟩)⟩
theorem LS_le : LS wd ws ≤ ws.length := by
  by_cases h : ws.length = 0
  · unfold LS; rw [if_pos h]; omega
  · have := (LS_at W (by omega)).1; omega
theorem best_lay : Lay wd ws (bestLay wd ws) ws.length ∧ cost wd ws (bestLay wd ws) = C wd ws (LS wd ws) := by
  by_cases h : ws.length = 0
  · unfold bestLay LS
    rw [if_pos h, if_pos h, h]
    exact ⟨.nil, rfl⟩
  · obtain ⟨h1, h2, h3, h4⟩ := LS_at W (by omega)
    obtain ⟨i1, i2⟩ := way_lay W (LS wd ws) (by omega)
    unfold bestLay
    rw [if_neg h]
    exact ⟨.snoc i1 h1 h2, by rw [cost_snoc, i2]⟩
theorem best_opt {ns : List Nat} (c : Lay wd ws ns ws.length) : cost wd ws (bestLay wd ws) ≤ cost wd ws ns ∧ (cost wd ws ns = cost wd ws (bestLay wd ws) → rv ns ≤ rv (bestLay wd ws)) := by
  rw [(best_lay W).2]
  by_cases h : ws.length = 0
  · rw [h] at c
    have e := c.zero
    subst e
    have e2 : LS wd ws = 0 := by unfold LS; rw [if_pos h]
    rw [e2]
    exact ⟨Int.le_refl _, fun _ => List.nil_le _⟩
  · obtain ⟨h1, h2, h3, h4⟩ := LS_at W (by omega)
    obtain ⟨ms, l, rfl, c1, hl, hf⟩ := c.ne (by omega)
    obtain ⟨i1, i2⟩ := opt_full W c1 (by omega)
    have q := h4 l hl hf
    rw [cost_snoc]
    refine ⟨by omega, fun e => ?_⟩
    unfold bestLay
    rw [if_neg h, rv_snoc, rv_snoc, List.cons_le_cons_iff]
    refine .inr ⟨rfl, ?_⟩
    have e1 : fc wd ws ms = C wd ws l := by omega
    by_cases e2 : l = LS wd ws
    · rw [← e2]; exact i2 e1
    · have lb : l < LS wd ws := by omega
      rw [way_step W (e := LS wd ws) (by omega) (by omega), rv_snoc]
      by_cases l0 : l = 0
      · subst l0
        rw [c1.zero]
        exact List.nil_le _
      · obtain ⟨ms', l', e3, _⟩ := c1.ne (by omega)
        rw [e3, rv_snoc, List.cons_le_cons_iff]
        exact .inl (by omega)
end
abbrev nDs (ns : List Nat) : List PyData := ns.map fun (n : Nat) => PyData.int (n : Int)
end LM

namespace K08
open PySem PySem.Spec PyProof.Rows L2 QL
def topS (i : Nat) : Stmt := PySem.Challenge.pw_settledlines_k08_all_best_layouts_in_ord.main.body.getD i (.Pass ⟨0, 0, 0, 0⟩)
open LM
/-- what is known of the class -/
structure Txt_Table (K : PySem.W.Frag) (a : Addr) : Prop where
  cl : Cls K a
  n_wide : NoAttr K a "wide"
  n_sums : NoAttr K a "sums"
  n_costs : NoAttr K a "costs"
  n_befores : NoAttr K a "befores"
def spSums : Spc := fun ts QT _ => ∃ ws : List Int, ts = [.va (.tuple (iDs ws))] ∧ ws.length ≤ 1000 ∧ QT (.va (.tuple (iDs (sumsF 0 ws)))) [none]
def spLenBy : Spc := fun ts QT _ => ∃ (ws : List Int) (i j : Nat), ts = [.va (.tuple (iDs (sumsF 0 ws))), .va (.int i), .va (.int j)] ∧ i ≤ ws.length ∧ j ≤ ws.length ∧ QT (.va (.int (ln ws i j))) [none, none, none]
section
variable {P : Program} {w : World} {K : PySem.W.Frag} {mg : Str → Option Value} {base : Heap} {Tq : List (Addr × Str)}
abbrev N_sums_of : List Str := ["text", "found", "word"]
theorem sc_sums_of : FnScope N_sums_of ["text"] (defScope (topS 2)) := ⟨rfl, rfl, rfl, by decide +kernel, rfl, by decide +kernel, by decide +kernel⟩
theorem g_sums_of {f : Addr} {fd : FuncData} {k : Nat} (Fn : Fun K "sums_of" "sums_of" (topS 2) f fd) (m_tuple : mg "tuple" = none) : FnG P w K mg base Tq (k + 1) f fd ["text"] spSums := by
  refine fn_g Fn sc_sums_of (fun ts Q E h => ?_) fun cdv A outer s H E Z ts QT ET hr hgd hp tk h => ?_
  · obtain ⟨ws, rfl, hl, q⟩ := h; rfl
  · obtain ⟨ws, rfl, hl, q⟩ := h
    -- line 6
    refine wss_cons (ws_set 1 (w_lst ⟨rfl, (w_int ⟨(by first | decide | (simp only [List.length_append, List.length_map, List.length_cons, List.length_nil, List.length_singleton, List.length_replicate, List.length_range, List.length_take, List.length_drop, List.length_dropLast, List.length_reverse, Bool.false_eq_true, eq_self, reduceIte, sizeLine_eq]; omega)), fun p1 => ⟨Nat.lt_of_sub_eq_succ rfl, ?_⟩⟩)⟩) sc_sums_of.nd)
    -- line 7
    refine wss_cons (ws_for hp rfl (pg_name (i := 2) sc_sums_of.nd rfl (by first | exact Or.inl rfl | exact Or.inr rfl)) (gok_name 2) (wi_tup (w_var 0 ?_)))
    refine ⟨fun k e => ∃ y, e = [some (.va (.tuple (iDs ws))), some (.lst p1 (iDs (sumsF 0 (ws.take k)))), y], ⟨none, rfl⟩, ?_, ?_⟩
    · rintro k d e hd ⟨y, rfl⟩
      rw [List.getElem?_map, Option.map_eq_some_iff] at hd
      obtain ⟨x, hx, rfl⟩ := hd
      obtain ⟨z, hz, hs⟩ := sumsF_snoc 0 (ws.take k) x
      have hk : k < ws.length := (List.getElem?_eq_some_iff.mp hx).1
      have ht : ws.take (k + 1) = ws.take k ++ [x] := by rw [List.take_add_one, hx]; rfl
      have hla : atI (iDs (sumsF 0 (ws.take k))) (-1) = some (.int z) := by
        refine atI_last' ?_
        rw [List.getLast?_map, hz]
        rfl
      have hlen : (sumsF 0 (ws.take k)).length ≤ 1001 := by rw [sumsF_len, List.length_take]; omega
      refine ⟨Nat.lt_of_sub_eq_succ rfl, ?_⟩
      -- line 8
      refine wss_one (ws_expr (w_append (w_var 1 ⟨_, _, _, _, rfl, rfl, (w_bin dop_add (w_bin dop_add (w_ix (w_var 1 (w_neg (w_int ⟨rfl, ⟨rfl, rfl, _, hla, (w_var 2 ⟨rfl, rfl, (w_int ⟨rfl, rfl, ⟨_, _, rfl, rfl, (by simp only [List.length_append, List.length_map, List.length_cons, List.length_nil, List.length_singleton, List.length_replicate, List.length_range, List.length_take, List.length_drop, List.length_dropLast, List.length_reverse, Bool.false_eq_true, eq_self, reduceIte, sizeLine_eq]; omega), ?_⟩⟩)⟩)⟩⟩))))))⟩)))
      refine ⟨some (.va (.int x)), ?_⟩
      rw [ht, hs]
      show [_, some (T.lst p1 (iDs (sumsF 0 (ws.take k)) ++ [PyData.int (z + x + 1)])), _] = _
      rw [← List.map_singleton, ← List.map_append]
    · rintro e ⟨y, rfl⟩
      -- line 9
      refine wss_one (ws_ret (w_callTy dc_tuple m_tuple rfl ⟨rfl, (w_var 1 ⟨rfl, ?_⟩)⟩))
      show QT (.va (.tuple (iDs (sumsF 0 (ws.take (iDs ws).length))))) [none]
      rw [List.length_map, List.take_length]
      exact q
abbrev N_length_by : List Str := ["sums", "begin", "end"]
theorem sc_length_by : FnScope N_length_by ["sums", "begin", "end"] (defScope (topS 3)) := ⟨rfl, rfl, rfl, by decide +kernel, rfl, by decide +kernel, by decide +kernel⟩
theorem g_length_by {f : Addr} {fd : FuncData} {k : Nat} (Fn : Fun K "length_by" "length_by" (topS 3) f fd) : FnG P w K mg base Tq (k + 1) f fd ["sums", "begin", "end"] spLenBy := by
  refine fn_g Fn sc_length_by (fun ts Q E h => ?_) fun cdv A outer s H E Z ts QT ET hr hgd hp tk h => ?_
  · obtain ⟨ws, i, j, rfl, hi, hj, q⟩ := h; rfl
  · obtain ⟨ws, i, j, rfl, hi, hj, q⟩ := h
    -- line 11
    refine wss_one (ws_ret (w_bin dop_sub (w_bin dop_sub (w_ix (w_var 0 (w_var 2 ⟨rfl, rfl, _, (atI_map _ (sm_at ws hj)), (w_ix (w_var 0 (w_var 1 ⟨rfl, rfl, _, (atI_map _ (sm_at ws hi)), ⟨rfl, rfl, (w_int ⟨rfl, rfl, ?_⟩)⟩⟩)))⟩))))))
    exact q
end
/-- a table whose rows up to m stand -/
def csL (wd : Int) (ws : List Int) (m : Nat) : List Int := (List.range (m + 1)).map (C wd ws)
def bsL (wd : Int) (ws : List Int) (m : Nat) : List Nat := (List.range (m + 1)).map (B wd ws)
abbrev tabF (wd : Int) (ws : List Int) (m : Nat) (pc pb : Addr) : List (Str × T) := [("wide", .va (.int wd)), ("sums", .va (.tuple (iDs (sumsF 0 ws)))), ("costs", .lst pc (iDs (csL wd ws m))), ("befores", .lst pb (nDs (bsL wd ws m)))]
def spInit (aC : Addr) : Spc := fun ts QT _ => ∃ (a : Addr) (wd : Int) (ws : List Int), ts = [.ins a aC [], .va (.int wd), .va (.tuple (iDs ws))] ∧ Wd wd ws ∧ ∀ pc pb, QT (.va .none) [some (.ins a aC (tabF wd ws ws.length pc pb)), none, none]
def spBegins (aC : Addr) : Spc := fun ts QT _ => ∃ (a : Addr) (wd : Int) (ws : List Int) (m : Nat) (pc pb : Addr) (e : Nat), ts = [.ins a aC (tabF wd ws m pc pb), .va (.int e)] ∧ Wd wd ws ∧ e ≤ ws.length ∧ ∀ p, QT (.lst p (nDs (bg wd ws e))) [some (.ins a aC (tabF wd ws m pc pb)), none]
def spSquare (aC : Addr) : Spc := fun ts QT _ => ∃ (a : Addr) (wd : Int) (ws : List Int) (m : Nat) (pc pb : Addr) (b e : Nat), ts = [.ins a aC (tabF wd ws m pc pb), .va (.int b), .va (.int e)] ∧ Wd wd ws ∧ b ≤ ws.length ∧ e ≤ ws.length ∧ QT (.va (.int (sq wd ws b e))) [some (.ins a aC (tabF wd ws m pc pb)), none, none]
def spLast (aC : Addr) : Spc := fun ts QT _ => ∃ (a : Addr) (wd : Int) (ws : List Int) (pc pb : Addr), ts = [.ins a aC (tabF wd ws ws.length pc pb)] ∧ Wd wd ws ∧ QT (.va (.int (LS wd ws))) [some (.ins a aC (tabF wd ws ws.length pc pb))]
theorem min_pairs {f : Nat → Int} {bs : List Nat} (h : bs ≠ []) : ∃ x xs, bs.map (fun (b : Nat) => PyData.tuple [.int (f b), .int (-(b : Int))]) = x :: xs ∧ W.minD x xs = pD (best f bs) ∧ PyData.hasDictAll (x :: xs) = false ∧ W.AlikeAll (x :: xs) ∧ PyData.depthAll (x :: xs) ≤ 60 := by
  have e : bs.map (fun (b : Nat) => PyData.tuple [.int (f b), .int (-(b : Int))]) = (bs.map fun b => (f b, -(b : Int))).map pD := by rw [List.map_map]; rfl
  rw [e]
  unfold best
  generalize hp : (bs.map fun b => (f b, -(b : Int))) = ps
  cases ps with
  | nil => simp at hp; exact absurd hp h
  | cons p ps =>
    refine ⟨pD p, ps.map pD, rfl, minD_pairs ps p, ?_, ?_, ?_⟩
    · rw [← List.map_cons (f := pD)]
      generalize p :: ps = qs
      induction qs with
      | nil => rfl
      | cons q qs ih => show (false || PyData.hasDictAll _) = false; rw [ih]; rfl
    · rw [← List.map_cons (f := pD)]
      refine ⟨fun x hx y hy => ?_, fun x hx => ?_⟩
      · obtain ⟨p, _, rfl⟩ := List.mem_map.mp hx
        obtain ⟨q, _, rfl⟩ := List.mem_map.mp hy
        rfl
      · obtain ⟨p, _, rfl⟩ := List.mem_map.mp hx
        exact fun z => nomatch z
    · rw [← List.map_cons (f := pD)]
      refine Nat.le_trans (depthAll_map (k := 1) fun p _ => ?_) (by decide)
      simp [pD, PyData.depth, PyData.depthAll]
theorem csL_at {wd : Int} {ws : List Int} {m j : Nat} (h : j ≤ m) : atI (iDs (csL wd ws m)) (j : Int) = some (.int (C wd ws j)) := by
  refine atI_nat ?_
  unfold csL
  simp [iDs, List.getElem?_range (show j < m + 1 by omega)]
theorem csL_snoc {wd : Int} {ws : List Int} {m : Nat} : iDs (csL wd ws m) ++ [PyData.int (C wd ws (m + 1))] = iDs (csL wd ws (m + 1)) := by
  unfold csL
  rw [List.range_succ (n := m + 1)]; simp [iDs]
theorem bsL_snoc {wd : Int} {ws : List Int} {m : Nat} : nDs (bsL wd ws m) ++ [PyData.int (B wd ws (m + 1))] = nDs (bsL wd ws (m + 1)) := by
  unfold bsL
  rw [List.range_succ (n := m + 1)]; simp [nDs]
theorem csL_len {wd : Int} {ws : List Int} {m : Nat} : (csL wd ws m).length = m + 1 := by simp [csL]
theorem bsL_len {wd : Int} {ws : List Int} {m : Nat} : (bsL wd ws m).length = m + 1 := by simp [bsL]
section
variable {P : Program} {w : World} {K : PySem.W.Frag} {mg : Str → Option Value} {base : Heap} {Tq : List (Addr × Str)}
abbrev N_Table_begins : List Str := ["self", "end", "found", "begin"]
theorem sc_Table_begins : FnScope N_Table_begins ["self", "end"] (defScope (inClass (topS 5) 1)) := ⟨rfl, rfl, rfl, by decide +kernel, rfl, by decide +kernel, by decide +kernel⟩
theorem g_Table_begins {f : Addr} {fd : FuncData} {k : Nat} {aTable : Addr} (Fn : Fun K "begins" "Table.begins" (inClass (topS 5) 1) f fd) (TX : Txt_Table K aTable) (G_length_by : Df P w K mg base Tq k "length_by" ["sums", "begin", "end"] spLenBy) : FnG P w K mg base Tq (k + 1) f fd ["self", "end"] (spBegins aTable) := by
  refine fn_g Fn sc_Table_begins (fun ts Q E h => ?_) fun cdv A outer s H E Z ts QT ET hr hgd hp tk h => ?_
  · obtain ⟨a, wd, ws, m, pc, pb, e, rfl, W, he, q⟩ := h; rfl
  · obtain ⟨a, wd, ws, m, pc, pb, e, rfl, W, he, q⟩ := h
    -- line 26
    refine wss_cons (ws_par 2 3 rfl sc_Table_begins.nd (w_lst ⟨(by first | decide | (simp only [List.length_append, List.length_map, List.length_cons, List.length_nil, List.length_singleton, List.length_replicate, List.length_range, List.length_take, List.length_drop, List.length_dropLast, List.length_reverse, Bool.false_eq_true, eq_self, reduceIte, sizeLine_eq]; omega)), fun p1 => ⟨_, rfl, (w_bin dop_sub (w_var 1 (w_int ⟨rfl, rfl, ⟨_, rfl, Nat.lt_of_sub_eq_succ rfl, Nat.lt_of_sub_eq_succ rfl, ?_⟩⟩)))⟩⟩))
    let Iv : Nat → QL.Env → Prop := fun m1 en => m1 ≤ e ∧ ∃ fs, bg wd ws e = fs ++ bgF wd ws e m1 ∧ en = [some (.ins a aTable (tabF wd ws m pc pb)), some (.va (.int e)), some (.lst p1 (nDs fs)), some (.va (.int ((m1 : Int) - 1)))]
    -- line 27
    refine wss_cons (ws_while Iv e ⟨Nat.le_refl e, [], rfl, rfl⟩ ?step hp)
    case step =>
      rintro m1 en ⟨hm, fs, hb, rfl⟩
      rcases m1 with _ | b
      · refine WW.t (ww_and (wt_cmp dop_ge (w_var 3 (w_int ⟨rfl, rfl, _, rfl, ⟨fun h => ?_, fun h => ?_⟩⟩))))
        · exact absurd h (by decide)
        have hb : bg wd ws e = fs := by rw [hb]; simp [bgF]
        refine ⟨fun z => (nomatch z), fun _ => ?_⟩
        show WSs _ _ _ _ _
        -- line 30
        refine wss_one (ws_ret (w_var 2 ⟨rfl, ?_⟩))
        rw [← hb]; exact ⟨rfl, q p1⟩
      · have eb : (((b + 1 : Nat) : Int) - 1) = (b : Int) := by omega
        rw [eb]
        refine (WW.t (ww_and (wt_cmp dop_ge (w_var 3 (w_int ⟨rfl, rfl, _, rfl, ⟨fun h => (ww_and1 (wt_cmp dop_le (w_fn G_length_by hr hgd ⟨rfl, (w_fld (w_var 0 ⟨rfl, ⟨TX.cl, TX.n_sums⟩, ⟨rfl, (w_var 3 ⟨rfl, (w_var 1 ⟨_, _, _, rfl, (by first | assumption | omega | decide), (by first | assumption | omega | decide), (w_fld (w_var 0 ⟨rfl, ⟨TX.cl, TX.n_wide⟩, ⟨rfl, rfl, _, rfl, ⟨fun h => ?_, fun h => ?_⟩⟩⟩))⟩)⟩)⟩⟩))⟩))), fun h => ?_⟩⟩)))))
        · have hl : ln ws b e ≤ wd := of_decide_eq_true h
          have hf : bgF wd ws e (b + 1) = b :: bgF wd ws e b := by show (if _ then _ else _) = _; rw [if_pos hl]
          have hn : fs.length ≤ 1000 := by have h1 := bg_len (wd := wd) (ws := ws) (e := e); have h2 := W.len; rw [hb] at h1; simp only [List.length_append] at h1; omega
          -- line 28
          refine wss_cons (ws_expr (w_append (w_var 2 ⟨_, _, _, _, rfl, rfl, (w_var 3 ⟨_, _, rfl, rfl, (by simp only [List.length_append, List.length_map, List.length_cons, List.length_nil, List.length_singleton, List.length_replicate, List.length_range, List.length_take, List.length_drop, List.length_dropLast, List.length_reverse, Bool.false_eq_true, eq_self, reduceIte, sizeLine_eq]; omega), ?_⟩)⟩)))
          -- line 29
          refine wss_one (ws_aug 3 dip_sub ⟨_, rfl, (w_int ⟨rfl, Nat.lt_of_sub_eq_succ rfl, ?_⟩)⟩ sc_Table_begins.nd)
          exact ⟨b, by omega, by omega, fs ++ [b], by rw [hb, hf]; simp, by simp only [nDs, List.map_append]; rfl⟩
        · have hl : ¬ ln ws b e ≤ wd := of_decide_eq_false h
          have hf : bgF wd ws e (b + 1) = [] := by show (if _ then _ else _) = _; rw [if_neg hl]
          have hb : bg wd ws e = fs := by rw [hb, hf, List.append_nil]
          show WSs _ _ _ _ _
          -- line 30
          refine wss_one (ws_ret (w_var 2 ⟨rfl, ?_⟩))
          rw [← hb]; exact ⟨rfl, q p1⟩
        · exact absurd (of_decide_eq_false h) (by omega)
abbrev N_Table_square : List Str := ["self", "begin", "end"]
theorem sc_Table_square : FnScope N_Table_square ["self", "begin", "end"] (defScope (inClass (topS 5) 2)) := ⟨rfl, rfl, rfl, by decide +kernel, rfl, by decide +kernel, by decide +kernel⟩
theorem g_Table_square {f : Addr} {fd : FuncData} {k : Nat} {aTable : Addr} (Fn : Fun K "square" "Table.square" (inClass (topS 5) 2) f fd) (TX : Txt_Table K aTable) (G_length_by : Df P w K mg base Tq k "length_by" ["sums", "begin", "end"] spLenBy) : FnG P w K mg base Tq (k + 1) f fd ["self", "begin", "end"] (spSquare aTable) := by
  refine fn_g Fn sc_Table_square (fun ts Q E h => ?_) fun cdv A outer s H E Z ts QT ET hr hgd hp tk h => ?_
  · obtain ⟨a, wd, ws, m, pc, pb, b, e, rfl, W, hb, he, q⟩ := h; rfl
  · obtain ⟨a, wd, ws, m, pc, pb, b, e, rfl, W, hb, he, q⟩ := h
    have hl := ln_bd W hb he
    have w1 := W.w1
    have w2 := W.w2
    -- line 33
    refine wss_one (ws_ret (w_bin dop_pow (w_bin dop_sub (w_fld (w_var 0 ⟨rfl, ⟨TX.cl, TX.n_wide⟩, (w_fn G_length_by hr hgd ⟨rfl, (w_fld (w_var 0 ⟨rfl, ⟨TX.cl, TX.n_sums⟩, ⟨rfl, (w_var 1 ⟨rfl, (w_var 2 ⟨_, _, _, rfl, (by first | assumption | omega | decide), (by first | assumption | omega | decide), ⟨rfl, rfl, (w_int ⟨rfl, rfl, (.inl ⟨by decide, by decide, by omega⟩), ?_⟩)⟩⟩)⟩)⟩⟩))⟩)⟩)))))
    exact ⟨rfl, q⟩
abbrev N_Table_last_start : List Str := ["self", "count", "begin"]
theorem sc_Table_last_start : FnScope N_Table_last_start ["self"] (defScope (inClass (topS 5) 4)) := ⟨rfl, rfl, rfl, by decide +kernel, rfl, by decide +kernel, by decide +kernel⟩
theorem g_Table_last_start {f : Addr} {fd : FuncData} {k : Nat} {aTable : Addr} (Fn : Fun K "last_start" "Table.last_start" (inClass (topS 5) 4) f fd) (TX : Txt_Table K aTable) (M_begins : Mf P w K mg base Tq k aTable "begins" ["self", "end"] (spBegins aTable)) (m_len : mg "len" = none) (m_min : mg "min" = none) : FnG P w K mg base Tq (k + 1) f fd ["self"] (spLast aTable) := by
  refine fn_g Fn sc_Table_last_start (fun ts Q E h => ?_) fun cdv A outer s H E Z ts QT ET hr hgd hp tk h => ?_
  · obtain ⟨a, wd, ws, pc, pb, rfl, W, q⟩ := h; rfl
  · obtain ⟨a, wd, ws, pc, pb, rfl, W, q⟩ := h
    have hu := room110 hr
    have hlen := W.len
    have hcs : (iDs (csL wd ws ws.length)).length = ws.length + 1 := by rw [List.length_map, csL_len]
    -- line 39
    refine wss_cons (ws_set 1 (w_bin dop_sub (w_callB dc_len m_len rfl ⟨rfl, (w_fld (w_var 0 ⟨rfl, ⟨TX.cl, TX.n_costs⟩, ⟨rfl, (w_int ⟨rfl, rfl, ⟨Nat.lt_of_sub_eq_succ rfl, ?_⟩⟩)⟩⟩))⟩)) sc_Table_last_start.nd)
    rw [hcs, show (((ws.length + 1 : Nat) : Int) - 1) = (ws.length : Int) by omega]
    -- line 40
    refine wss_cons (ws_if (wt_cmp (dop_eq (room64 hr)) (w_var 1 (w_int ⟨rfl, rfl, _, rfl, ⟨fun h => ?_, fun h => ?_⟩⟩))))
    · have h0 : ws.length = 0 := by have := of_decide_eq_true h; omega
      -- line 41
      refine wss_one (ws_ret (w_int ?_))
      have e1 : LS wd ws = 0 := by unfold LS; rw [if_pos h0]
      rw [e1] at q
      exact ⟨rfl, q⟩
    · refine wss_nil ?_
      have h0 : 0 < ws.length := by have := of_decide_eq_false h; omega
      obtain ⟨l1, l2, l3, l4⟩ := LS_at W h0
      obtain ⟨x, xs, m1, m2, m3, m4, m5⟩ := min_pairs (f := C wd ws) (bg_ne W h0 (Nat.le_refl _))
      have hbl := bg_len (wd := wd) (ws := ws) (e := ws.length)
      -- line 42
      refine wss_one (ws_ret (w_neg (w_ix (w_callB (dc_minL rfl hu) m_min rfl ⟨rfl, (w_lc (own := [("begin", 2)]) rfl sc_Table_last_start.nd (blkOk_by (N := N_Table_last_start) (sc := defScope (inClass (topS 5) 4)) (by decide +kernel)) (fun _ _ _ _ _ => pg_name (i := 2) sc_Table_last_start.nd rfl (by first | exact Or.inl rfl | exact Or.inr rfl)) (gok_name 2) (by decide) (wi_list (w_meth M_begins hr hgd (w_var 0 ⟨⟨rfl, rfl, rfl⟩, ⟨rfl, (w_var 1 ⟨rfl, ⟨_, _, _, _, _, _, _, rfl, (by first | assumption | omega | decide), (by first | assumption | omega | decide), fun p_1 => ⟨rfl, rfl, (lc_map fm_name (fun (b : Nat) => PyData.int b) (bg wd ws ws.length) (fun (b : Nat) => PyData.tuple [.int (C wd ws b), .int (-(b : Int))]) _ rfl (rfl) (by simp only [sizeLine_eq]; omega) (fun k2 b hx => by have hm := (bg_mem W (Nat.le_refl _)).mp (List.mem_of_getElem? hx); exact ⟨Nat.lt_of_sub_eq_succ rfl, fun s2 H2 C2 cl2 fp2 => (w_tup ⟨rfl, (w_ix (w_fld (w_var 0 ⟨rfl, ⟨TX.cl, TX.n_costs⟩, (w_var 2 ⟨rfl, rfl, _, (csL_at (by omega)), ⟨rfl, (w_neg (w_var 2 ⟨rfl, ⟨(by first | decide | (simp only [List.length_append, List.length_map, List.length_cons, List.length_nil, List.length_singleton, List.length_replicate, List.length_range, List.length_take, List.length_drop, List.length_dropLast, List.length_reverse, Bool.false_eq_true, eq_self, reduceIte, sizeLine_eq]; omega)), ⟨rfl, rfl⟩⟩⟩))⟩⟩)⟩)))⟩)⟩) (fun p1 => ⟨rfl, ⟨_, _, _, (.inl (congrArg (fun z => [PyData.list z]) m1)), m3, m4, m5, (m2.trans (congrArg pD l3)), (w_int ⟨rfl, rfl, _, rfl, ⟨rfl, ?_⟩⟩)⟩⟩))⟩⟩⟩)⟩⟩))))⟩))))
      have e1 : - (-(LS wd ws : Int)) = (LS wd ws : Int) := by omega
      refine ⟨rfl, ?_⟩
      show QT (.va (.int (- (-(LS wd ws : Int))))) _
      rw [e1]
      exact q
end
end K08

namespace K08
open PySem PySem.Spec PyProof.Rows L2 QL
open LM
section
variable {P : Program} {w : World} {K : PySem.W.Frag} {mg : Str → Option Value} {base : Heap} {Tq : List (Addr × Str)}
abbrev N_Table___init__ : List Str := ["self", "width", "text", "end", "least", "before", "at"]
theorem sc_Table___init__ : FnScope N_Table___init__ ["self", "width", "text"] (defScope (inClass (topS 5) 0)) := ⟨rfl, rfl, rfl, by decide +kernel, rfl, by decide +kernel, by decide +kernel⟩
theorem g_Table___init__ {f : Addr} {fd : FuncData} {k : Nat} {aTable : Addr} (Fn : Fun K "__init__" "Table.__init__" (inClass (topS 5) 0) f fd) (TX : Txt_Table K aTable) (G_sums_of : Df P w K mg base Tq k "sums_of" ["text"] spSums) (M_begins : Mf P w K mg base Tq k aTable "begins" ["self", "end"] (spBegins aTable)) (M_square : Mf P w K mg base Tq k aTable "square" ["self", "begin", "end"] (spSquare aTable)) (m_len : mg "len" = none) (m_min : mg "min" = none) (m_range : mg "range" = none) : FnG P w K mg base Tq (k + 1) f fd ["self", "width", "text"] (spInit aTable) := by
  refine fn_g Fn sc_Table___init__ (fun ts Q E h => ?_) fun cdv A outer s H E Z ts QT ET hr hgd hp tk h => ?_
  · obtain ⟨a, wd, ws, rfl, W, q⟩ := h; rfl
  · obtain ⟨a, wd, ws, rfl, W, q⟩ := h
    have hu := room110 hr
    have hlen := W.len
    -- line 16
    refine wss_cons (ws_fld 0 (w_var 1 ⟨⟨TX.cl, TX.n_wide, Nat.lt_of_sub_eq_succ rfl⟩, ?_⟩))
    -- line 17
    refine wss_cons (ws_fld 0 (w_fn G_sums_of hr hgd ⟨rfl, (w_var 2 ⟨_, rfl, (by first | assumption | omega | decide), ⟨⟨TX.cl, TX.n_sums, Nat.lt_of_sub_eq_succ rfl⟩, ?_⟩⟩)⟩))
    -- line 18
    refine wss_cons (ws_fld 0 (w_lst ⟨rfl, (w_int ⟨(by first | decide | (simp only [List.length_append, List.length_map, List.length_cons, List.length_nil, List.length_singleton, List.length_replicate, List.length_range, List.length_take, List.length_drop, List.length_dropLast, List.length_reverse, Bool.false_eq_true, eq_self, reduceIte, sizeLine_eq]; omega)), fun p1 => ⟨⟨TX.cl, TX.n_costs, Nat.lt_of_sub_eq_succ rfl⟩, ?_⟩⟩)⟩))
    -- line 19
    refine wss_cons (ws_fld 0 (w_lst ⟨rfl, (w_int ⟨(by first | decide | (simp only [List.length_append, List.length_map, List.length_cons, List.length_nil, List.length_singleton, List.length_replicate, List.length_range, List.length_take, List.length_drop, List.length_dropLast, List.length_reverse, Bool.false_eq_true, eq_self, reduceIte, sizeLine_eq]; omega)), fun p2 => ⟨⟨TX.cl, TX.n_befores, Nat.lt_of_sub_eq_succ rfl⟩, ?_⟩⟩)⟩))
    have hs : (((iDs (sumsF 0 ws)).length : Nat) : Int) = (ws.length : Int) + 1 := by rw [List.length_map, sumsF_len]; omega
    -- line 20
    refine wss_one (ws_for hp rfl (pg_name (i := 3) sc_Table___init__.nd rfl (by first | exact Or.inl rfl | exact Or.inr rfl)) (gok_name 3) (wi_range2 m_range ⟨rfl, (w_int ⟨rfl, (w_callB dc_len m_len rfl ⟨rfl, (w_fld (w_var 0 ⟨rfl, ⟨TX.cl, TX.n_sums⟩, ⟨rfl, ⟨rfl, rfl, ⟨by omega, by omega, by omega, by omega⟩, ?_⟩⟩⟩))⟩)⟩)⟩))
    rw [show ((((iDs (sumsF 0 ws)).length : Nat) : Int) - 1).toNat = ws.length by rw [hs]; omega]
    refine ⟨fun j e => ∃ o3 o4 o5, e = [some (.ins a aTable (tabF wd ws j p1 p2)), some (.va (.int wd)), some (.va (.tuple (iDs ws))), o3, o4, o5, none], ⟨none, none, none, rfl⟩, ?_, ?_⟩
    · rintro j x e hd ⟨o3, o4, o5, rfl⟩
      obtain ⟨rfl, hj⟩ := rangeD_at hd
      rw [show ((1 : Int) + (j : Int)) = ((j + 1 : Nat) : Int) by omega]
      obtain ⟨c1, c2, c3, c4, c5⟩ := CB_at W (e := j + 1) (by omega) (by omega)
      obtain ⟨x, xs, m1, m2, m3, m4, m5⟩ := min_pairs (f := fun b => C wd ws b + sq wd ws b (j + 1)) (bg_ne W (e := j + 1) (by omega) (by omega))
      have hbl := bg_len (wd := wd) (ws := ws) (e := j + 1)
      refine ⟨Nat.lt_of_sub_eq_succ rfl, ?_⟩
      -- line 21
      refine wss_cons (ws_asg (pg_tup (by rfl) (pgs_cons (pg_name (i := 4) sc_Table___init__.nd rfl (by first | exact Or.inl rfl | exact Or.inr rfl)) (pgs_cons (pg_name (i := 5) sc_Table___init__.nd rfl (by first | exact Or.inl rfl | exact Or.inr rfl)) (pgs_nil)))) (gok_tup (gsok_cons (gok_name 4) (gsok_cons (gok_name 5) (gsok_nil)))) (w_callB (dc_minL rfl hu) m_min rfl ⟨rfl, (w_lc (own := [("at", 6)]) rfl sc_Table___init__.nd (blkOk_by (N := N_Table___init__) (sc := defScope (inClass (topS 5) 0)) (by decide +kernel)) (fun _ _ _ _ _ => pg_name (i := 6) sc_Table___init__.nd rfl (by first | exact Or.inl rfl | exact Or.inr rfl)) (gok_name 6) (by decide) (wi_list (w_meth M_begins hr hgd (w_var 0 ⟨⟨rfl, rfl, rfl⟩, ⟨rfl, (w_var 3 ⟨rfl, ⟨_, _, _, _, _, _, _, rfl, (by first | assumption | omega | decide), (by first | assumption | omega | decide), fun p_2 => ⟨rfl, rfl, (lc_map fm_name (fun (b : Nat) => PyData.int b) (bg wd ws (j + 1)) (fun (b : Nat) => PyData.tuple [.int (C wd ws b + sq wd ws b (j + 1)), .int (-(b : Int))]) _ rfl (rfl) (by simp only [sizeLine_eq]; omega) (fun k2 b hx => by have hm := (bg_mem W (e := j + 1) (by omega)).mp (List.mem_of_getElem? hx); exact ⟨Nat.lt_of_sub_eq_succ rfl, fun s2 H2 C2 cl2 fp2 => (w_tup ⟨rfl, (w_bin dop_add (w_ix (w_fld (w_var 0 ⟨rfl, ⟨TX.cl, TX.n_costs⟩, (w_var 6 ⟨rfl, rfl, _, (csL_at (by omega)), (w_meth M_square hr hgd (w_var 0 ⟨⟨rfl, rfl, rfl⟩, ⟨rfl, (w_var 6 ⟨rfl, (w_var 3 ⟨rfl, ⟨_, _, _, _, _, _, _, _, rfl, (by first | assumption | omega | decide), (by first | assumption | omega | decide), (by first | assumption | omega | decide), ⟨rfl, rfl, ⟨rfl, rfl, ⟨rfl, (w_neg (w_var 6 ⟨rfl, ⟨(by first | decide | (simp only [List.length_append, List.length_map, List.length_cons, List.length_nil, List.length_singleton, List.length_replicate, List.length_range, List.length_take, List.length_drop, List.length_dropLast, List.length_reverse, Bool.false_eq_true, eq_self, reduceIte, sizeLine_eq]; omega)), ⟨rfl, rfl⟩⟩⟩))⟩⟩⟩⟩⟩)⟩)⟩⟩))⟩)⟩))))⟩)⟩) (fun p3 => ⟨rfl, ⟨_, _, _, (.inl (congrArg (fun z => [PyData.list z]) m1)), m3, m4, m5, (m2.trans (congrArg pD c4)), ⟨_, rfl, rfl, ⟨Nat.lt_of_sub_eq_succ rfl, ⟨Nat.lt_of_sub_eq_succ rfl, ⟨rfl, ?_⟩⟩⟩⟩⟩⟩))⟩⟩⟩)⟩⟩))))⟩))
      have l1 := csL_len (wd := wd) (ws := ws) (m := j)
      have l2 := bsL_len (wd := wd) (ws := ws) (m := j)
      -- line 22
      refine wss_cons (ws_expr (w_append (w_fld (w_var 0 ⟨rfl, ⟨TX.cl, TX.n_costs⟩, ⟨_, _, _, _, rfl, rfl, (w_var 4 ⟨_, _, rfl, rfl, (by simp only [List.length_append, List.length_map, List.length_cons, List.length_nil, List.length_singleton, List.length_replicate, List.length_range, List.length_take, List.length_drop, List.length_dropLast, List.length_reverse, Bool.false_eq_true, eq_self, reduceIte, sizeLine_eq]; omega), ?_⟩)⟩⟩))))
      -- line 23
      refine wss_one (ws_expr (w_append (w_fld (w_var 0 ⟨rfl, ⟨TX.cl, TX.n_befores⟩, ⟨_, _, _, _, rfl, rfl, (w_neg (w_var 5 ⟨rfl, ⟨_, _, rfl, rfl, (by simp only [List.length_append, List.length_map, List.length_cons, List.length_nil, List.length_singleton, List.length_replicate, List.length_range, List.length_take, List.length_drop, List.length_dropLast, List.length_reverse, Bool.false_eq_true, eq_self, reduceIte, sizeLine_eq]; omega), ?_⟩⟩))⟩⟩))))
      refine ⟨some (.va (.int ((j + 1 : Nat) : Int))), some (.va (.int (C wd ws (j + 1)))), some (.va (.int (-(B wd ws (j + 1) : Int)))), ?_⟩
      show [some (T.ins a aTable [("wide", .va (.int wd)), ("sums", .va (.tuple (iDs (sumsF 0 ws)))), ("costs", .lst p1 (iDs (csL wd ws j) ++ [.int (C wd ws (j + 1))])), ("befores", .lst p2 (nDs (bsL wd ws j) ++ [.int (-(-(B wd ws (j + 1) : Int)))]))]), _, _, _, _, _, _] = _
      rw [csL_snoc, show (-(-(B wd ws (j + 1) : Int))) = (B wd ws (j + 1) : Int) by omega, bsL_snoc]
    · rintro e ⟨o3, o4, o5, rfl⟩
      rw [show (rangeD 1 ws.length).length = ws.length from rangeD_len _ _]
      exact ⟨rfl, q p1 p2⟩
end
end K08

/-! LP: all layouts, found by going on from their beginnings. -/
namespace LM
open PySem
theorem Lay.pre {wd : Int} {ws : List Int} {ns : List Nat} {h : Nat} : ∀ {r : List Nat} {e : Nat}, Lay wd ws (ns ++ h :: r) e → ∃ l, Lay wd ws ns l ∧ l < h ∧ ln ws l h ≤ wd ∧ h ≤ e := fun {r} => by
  generalize hm : r.length = m
  induction m generalizing r with
  | zero =>
    intro e c
    have : r = [] := List.eq_nil_of_length_eq_zero hm
    subst this
    obtain ⟨rfl, l, h1, h2, h3⟩ := c.inv
    exact ⟨l, h1, h2, h3, Nat.le_refl _⟩
  | succ m ih =>
    intro e c
    rcases List.eq_nil_or_concat r with z | ⟨r', x, z⟩
    · subst z; cases hm
    · rw [List.concat_eq_append] at z
      subst z
      have e1 : ns ++ h :: (r' ++ [x]) = (ns ++ h :: r') ++ [x] := by simp
      rw [e1] at c
      obtain ⟨rfl, l, h1, h2, h3⟩ := c.inv
      obtain ⟨l', k1, k2, k3, k4⟩ := ih (r := r') (by simpa using hm) h1
      exact ⟨l', k1, k2, k3, by omega⟩
theorem Lay.uniq {wd : Int} {ws : List Int} {ns : List Nat} {l l' : Nat} (c : Lay wd ws ns l) (c' : Lay wd ws ns l') : l = l' := by rw [← c.last, ← c'.last]
def wgt (n : Nat) (wt : List (List Nat × Nat)) : Nat := (wt.map fun p => 2 ^ (n - p.2)).sum
theorem wgt_snoc (n : Nat) (wt : List (List Nat × Nat)) (p : List Nat × Nat) : wgt n (wt ++ [p]) = wgt n wt + 2 ^ (n - p.2) := by
  unfold wgt
  rw [List.map_append, List.sum_append]
  simp
theorem wgt_len (n : Nat) : ∀ wt : List (List Nat × Nat), wt.length ≤ wgt n wt
  | [] => Nat.le_refl _
  | p :: wt => by
    have := wgt_len n wt
    have h : 1 ≤ 2 ^ (n - p.2) := Nat.one_le_two_pow
    unfold wgt at this ⊢
    rw [List.map_cons, List.sum_cons, List.length_cons]
    omega
abbrev tN (ns : List Nat) : PyData := .tuple (nDs ns)
def wtD (wt : List (List Nat × Nat)) : List PyData := wt.map fun p => tN p.1
open QL in
theorem tN_small {wd : Int} {ws : List Int} {ns : List Nat} {l : Nat} (c : Lay wd ws ns l) (h : l ≤ 1000) : smallD (tN ns) = true ∧ (tN ns).depth ≤ 1 := by
  have e : nDs ns = iDs (ns.map fun (n : Nat) => (n : Int)) := by simp [nDs, iDs]
  refine ⟨?_, ?_⟩
  · simp only [smallD, e]
    refine iDs_small fun x hx => ?_
    obtain ⟨n, hn, rfl⟩ := List.mem_map.mp hx
    have := c.mem n hn
    have b : (1000 : Nat) < 2 ^ 200 := by decide
    omega
  · simp only [PyData.depth, e, iDs_depth]; omega
/-- found and waiting -/
structure Fnd (wd : Int) (ws : List Int) (fs : List (List Nat)) (wt : List (List Nat × Nat)) : Prop where
  f : ∀ ns ∈ fs, Lay wd ws ns ws.length
  g : ∀ p ∈ wt, Lay wd ws p.1 p.2 ∧ p.2 ≤ ws.length
  all : ∀ ns, Lay wd ws ns ws.length → ns ∈ fs ∨ ∃ p ∈ wt, p.1 <+: ns
  le : fs.length + wgt ws.length wt ≤ 2 ^ ws.length
/-- the children so far of what was taken -/
structure Kid (wd : Int) (ws : List Int) (ns : List Nat) (l j : Nat) (wt0 wt : List (List Nat × Nat)) : Prop where
  old : ∀ p ∈ wt0, p ∈ wt
  g : ∀ p ∈ wt, p ∈ wt0 ∨ (Lay wd ws p.1 p.2 ∧ p.2 ≤ ws.length)
  new : ∀ h, l < h → h ≤ l + j → ln ws l h ≤ wd → (ns ++ [h], h) ∈ wt
  le : wgt ws.length wt + 2 ^ (ws.length - l - j) ≤ wgt ws.length wt0 + 2 ^ (ws.length - l)
theorem Kid.zero {wd : Int} {ws : List Int} {ns : List Nat} {l : Nat} {wt0 : List (List Nat × Nat)} : Kid wd ws ns l 0 wt0 wt0 :=
  ⟨fun _ h => h, fun _ h => .inl h, fun h h1 h2 _ => by omega, Nat.le_refl _⟩
theorem Kid.yes {wd : Int} {ws : List Int} {ns : List Nat} {l j : Nat} {wt0 wt : List (List Nat × Nat)} (K : Kid wd ws ns l j wt0 wt) (c : Lay wd ws ns l) (hj : l + 1 + j ≤ ws.length) (hf : ln ws l (l + 1 + j) ≤ wd) : Kid wd ws ns l (j + 1) wt0 (wt ++ [(ns ++ [l + 1 + j], l + 1 + j)]) := by
  refine ⟨fun p hp => List.mem_append_left _ (K.old p hp), fun p hp => ?_, fun h h1 h2 h3 => ?_, ?_⟩
  · rcases List.mem_append.mp hp with z | z
    · exact K.g p z
    · rw [List.mem_singleton.mp z]; exact .inr ⟨.snoc c (by omega) hf, hj⟩
  · by_cases e : h = l + 1 + j
    · subst e; exact List.mem_append_right _ (List.mem_singleton.mpr rfl)
    · exact List.mem_append_left _ (K.new h h1 (by omega) h3)
  · have := K.le
    rw [wgt_snoc]
    have e1 : ws.length - l - j = (ws.length - (l + 1 + j)) + 1 := by omega
    have e2 : ws.length - l - (j + 1) = ws.length - (l + 1 + j) := by omega
    rw [e1, Nat.pow_succ] at this
    rw [e2]
    show wgt ws.length wt + 2 ^ (ws.length - (l + 1 + j)) + _ ≤ _
    omega
theorem Kid.no {wd : Int} {ws : List Int} {ns : List Nat} {l j : Nat} {wt0 wt : List (List Nat × Nat)} (K : Kid wd ws ns l j wt0 wt) (hf : ¬ ln ws l (l + 1 + j) ≤ wd) : Kid wd ws ns l (j + 1) wt0 wt := by
  refine ⟨K.old, K.g, fun h h1 h2 h3 => ?_, ?_⟩
  · by_cases e : h = l + 1 + j
    · subst e; exact absurd h3 hf
    · exact K.new h h1 (by omega) h3
  · have := K.le
    have : 2 ^ (ws.length - l - (j + 1)) ≤ 2 ^ (ws.length - l - j) := Nat.pow_le_pow_right (by decide) (by omega)
    omega
theorem Fnd.next {wd : Int} {ws : List Int} {fs fs' : List (List Nat)} {ns : List Nat} {l : Nat} {wt0 wt : List (List Nat × Nat)} (F : Fnd wd ws fs (wt0 ++ [(ns, l)])) (K : Kid wd ws ns l (ws.length - l) wt0 wt) (hf : (l = ws.length ∧ fs' = fs ++ [ns]) ∨ (l ≠ ws.length ∧ fs' = fs)) :
    Fnd wd ws fs' wt ∧ wgt ws.length wt < wgt ws.length (wt0 ++ [(ns, l)]) := by
  have hc := F.g (ns, l) (List.mem_append_right _ (List.mem_singleton.mpr rfl))
  have hle := K.le
  have e0 : ws.length - l - (ws.length - l) = 0 := by omega
  rw [e0, Nat.pow_zero] at hle
  have hw := wgt_snoc ws.length wt0 (ns, l)
  have hF := F.le
  simp only at hw
  have sub : ∀ x, x ∈ fs → x ∈ fs' := fun x hx => by
    rcases hf with ⟨_, rfl⟩ | ⟨_, rfl⟩
    · exact List.mem_append_left _ hx
    · exact hx
  refine ⟨⟨fun x hx => ?_, fun p hp => ?_, fun ms hm => ?_, ?_⟩, by rw [hw]; omega⟩
  · rcases hf with ⟨e, rfl⟩ | ⟨_, rfl⟩
    · rcases List.mem_append.mp hx with z | z
      · exact F.f x z
      · rw [List.mem_singleton.mp z, ← e]; exact hc.1
    · exact F.f x hx
  · rcases K.g p hp with z | z
    · exact F.g p (List.mem_append_left _ z)
    · exact z
  · rcases F.all ms hm with z | ⟨p, hp, z⟩
    · exact .inl (sub _ z)
    · rcases List.mem_append.mp hp with y | y
      · exact .inr ⟨p, K.old p y, z⟩
      · rw [List.mem_singleton.mp y] at z
        obtain ⟨r, hr⟩ := z
        cases r with
        | nil =>
          rw [List.append_nil] at hr
          subst hr
          have := hm.uniq hc.1
          rcases hf with ⟨_, rfl⟩ | ⟨e, _⟩
          · exact .inl (List.mem_append_right _ (List.mem_singleton.mpr rfl))
          · exact absurd this.symm e
        | cons h r =>
          rw [← hr] at hm
          obtain ⟨l', k1, k2, k3, k4⟩ := hm.pre
          have := k1.uniq hc.1
          subst this
          exact .inr ⟨_, K.new h k2 (by omega) k3, ⟨r, by rw [← hr]; simp⟩⟩
  · rcases hf with ⟨e, rfl⟩ | ⟨_, rfl⟩
    · rw [List.length_append, List.length_singleton]; omega
    · omega
end LM

/-! LQ: least of rows of data, sorted tuples, what is shown. -/
namespace LM
open PySem QL
theorem hasDict_map {α : Type} {f : α → PyData} (h : ∀ x, (f x).hasDict = false) : ∀ xs : List α, PyData.hasDictAll (xs.map f) = false
  | [] => rfl
  | x :: xs => by show ((f x).hasDict || PyData.hasDictAll (xs.map f)) = false; rw [h x, hasDict_map h xs]; rfl
theorem min_ints {ns : List Int} (h : ns ≠ []) : ∃ x xs m, ns.map PyData.int = x :: xs ∧ W.minD x xs = .int m ∧ m ∈ ns ∧ (∀ y ∈ ns, m ≤ y) ∧ PyData.hasDictAll (x :: xs) = false ∧ W.AlikeAll (x :: xs) ∧ PyData.depthAll (x :: xs) ≤ 60 := by
  cases ns with
  | nil => exact absurd rfl h
  | cons n ns =>
    have key : ∀ (ns : List Int) (a : Int), (ns.foldl min a) ∈ a :: ns ∧ ∀ y ∈ a :: ns, ns.foldl min a ≤ y := fun ns => by
      induction ns with
      | nil => intro a; exact ⟨List.mem_cons_self, fun y hy => by rw [List.mem_singleton.mp hy]; exact Int.le_refl _⟩
      | cons b ns ih =>
        intro a
        obtain ⟨h1, h2⟩ := ih (min a b)
        rw [List.foldl_cons]
        refine ⟨?_, fun y hy => ?_⟩
        · rcases List.mem_cons.mp h1 with e | e
          · rw [e]
            rcases Int.le_total a b with z | z
            · rw [Int.min_eq_left z]; exact List.mem_cons_self
            · rw [Int.min_eq_right z]; exact List.mem_cons_of_mem _ List.mem_cons_self
          · exact List.mem_cons_of_mem _ (List.mem_cons_of_mem _ e)
        · have h3 := h2 (min a b) List.mem_cons_self
          rcases List.mem_cons.mp hy with rfl | hy
          · omega
          · rcases List.mem_cons.mp hy with rfl | hy
            · omega
            · exact h2 y (List.mem_cons_of_mem _ hy)
    refine ⟨.int n, ns.map .int, ns.foldl min n, rfl, W.minD_ints n ns, (key ns n).1, (key ns n).2, ?_, ?_, ?_⟩
    · exact hasDict_map (f := PyData.int) (fun _ => rfl) (n :: ns)
    · rw [← List.map_cons (f := PyData.int)]
      refine ⟨fun x hx y hy => ?_, fun x hx => ?_⟩
      · obtain ⟨p, _, rfl⟩ := List.mem_map.mp hx
        obtain ⟨q, _, rfl⟩ := List.mem_map.mp hy
        rfl
      · obtain ⟨p, _, rfl⟩ := List.mem_map.mp hx
        exact fun z => nomatch z
    · rw [← List.map_cons (f := PyData.int)]
      refine Nat.le_trans (depthAll_map (k := 0) fun p _ => ?_) (by decide)
      simp [PyData.depth]
theorem alike_nDs (ns ms : List Nat) : W.alikeAll (nDs ns) (nDs ms) = true := by
  induction ns generalizing ms with
  | nil => cases ms <;> rfl
  | cons n ns ih =>
    cases ms with
    | nil => rfl
    | cons m ms => exact ih ms
/-- priced layouts -/
abbrev enS (x : Int × List Nat) : PyData := .tuple [.int x.1, tN x.2]
/-! ### sorted tuples -/
abbrev tI (xs : List Int) : PyData := .tuple (iDs xs)
theorem dataLe_tI (xs ys : List Int) : W.dataLe false id (tI xs) (tI ys) = decide (xs ≤ ys) := by
  rw [W.dataLe_eq]
  show (!W.dataLt (tI ys) (tI xs)) = _
  rw [W.dataLt_tuple]
  have e : PyProof.Rows.lexLt PyProof.Rows.itemOrd (W.keyToksAll (iDs ys)) (W.keyToksAll (iDs xs)) = decide (ys < xs) := W.dataLt_ints ys xs
  rw [e]
  by_cases h : ys < xs
  · rw [decide_eq_true h, decide_eq_false (List.not_le.mpr h)]; rfl
  · rw [decide_eq_false h, decide_eq_true (List.not_lt.mp h)]; rfl
theorem rev_nDs (ns : List Nat) : (nDs ns).reverse = iDs (rv ns) := by unfold rv; simp [nDs, iDs]
theorem rev_iDs (ns : List Nat) : (iDs (rv ns)).reverse = nDs ns := by rw [← rev_nDs, List.reverse_reverse]
/-- layouts, the later ones first -/
def desc (Ls : List (List Nat)) : List (List Nat) := (Ls.mergeSort fun a b => decide (rv a ≤ rv b)).reverse
theorem desc_perm (Ls : List (List Nat)) : (desc Ls).Perm Ls := (List.reverse_perm _).trans (List.mergeSort_perm _ _)
theorem desc_sorted (Ls : List (List Nat)) : (desc Ls).Pairwise fun a b => rv b ≤ rv a := by
  unfold desc
  rw [List.pairwise_reverse]
  have := List.pairwise_mergeSort (le := fun a b => decide (rv a ≤ rv b)) (fun a b c h1 h2 => by
    simp only [decide_eq_true_eq] at h1 h2 ⊢; exact List.le_trans h1 h2) (fun a b => by
    rcases List.le_total (rv a) (rv b) with h | h <;> simp [h]) Ls
  exact this.imp fun h => by simpa using h
theorem sort_rows (Ls : List (List Nat)) : (Ls.map fun ns => PyData.tuple (nDs ns).reverse).mergeSort (W.dataLe false id) = (desc Ls).reverse.map fun ns => tI (rv ns) := by
  unfold desc
  rw [List.reverse_reverse]
  have e : (Ls.map fun ns => PyData.tuple (nDs ns).reverse) = Ls.map fun ns => tI (rv ns) := List.map_congr_left fun ns _ => by rw [rev_nDs]
  rw [e, List.map_mergeSort]
  intro a _ b _
  exact (dataLe_tI _ _).symm
theorem desc_head {Ls : List (List Nat)} (h : Ls ≠ []) : ∃ ns r, desc Ls = ns :: r ∧ ns ∈ Ls ∧ ∀ ms ∈ Ls, rv ms ≤ rv ns := by
  have p := desc_perm Ls
  have s := desc_sorted Ls
  cases hd : desc Ls with
  | nil => rw [hd] at p; exact absurd (List.nil_perm.mp p) h
  | cons ns r =>
    rw [hd] at p s
    refine ⟨ns, r, rfl, p.mem_iff.mp List.mem_cons_self, fun ms hm => ?_⟩
    rcases List.mem_cons.mp (p.mem_iff.mpr hm) with e | e
    · rw [e]; exact List.le_refl _
    · exact (List.pairwise_cons.mp s).1 ms e
/-- the first of the chosen ones -/
theorem chosen_gen {fs : List (List Nat)} {f : List Nat → Int} {b : List Nat} (hb : b ∈ fs) (hle : ∀ ns ∈ fs, f b ≤ f ns) (hl : ∀ ns ∈ fs, f ns = f b → rv ns ≤ rv b) {m : Int} (h1 : ∃ x ∈ fs.map (fun ns => (f ns, ns)), x.1 = m) (h2 : ∀ y ∈ fs.map (fun ns => (f ns, ns)), m ≤ y.1) :
    m = f b ∧ ∃ r, desc (((fs.map fun ns => (f ns, ns)).filter fun x => decide (x.1 = m)).map (·.2)) = b :: r := by
  have hm : m = f b := by
    obtain ⟨x, hx, rfl⟩ := h1
    obtain ⟨ns, hn, rfl⟩ := List.mem_map.mp hx
    have := h2 (f b, b) (List.mem_map.mpr ⟨b, hb, rfl⟩)
    have := hle ns hn
    simp only at *
    omega
  refine ⟨hm, ?_⟩
  have mem : ∀ ns, ns ∈ (((fs.map fun ns => (f ns, ns)).filter fun x => decide (x.1 = m)).map (·.2)) ↔ ns ∈ fs ∧ f ns = m := fun ns => by
    simp only [List.mem_map, List.mem_filter, decide_eq_true_eq]
    constructor
    · rintro ⟨x, ⟨⟨y, h1, rfl⟩, h2⟩, rfl⟩
      exact ⟨h1, h2⟩
    · rintro ⟨h1, h2⟩
      exact ⟨(f ns, ns), ⟨⟨ns, h1, rfl⟩, h2⟩, rfl⟩
  obtain ⟨ns, r, e1, e2, e3⟩ := desc_head (List.ne_nil_of_mem ((mem b).mpr ⟨hb, hm.symm⟩))
  have k1 := (mem ns).mp e2
  have k2 := hl ns k1.1 (by rw [k1.2, hm])
  have k3 := e3 b ((mem b).mpr ⟨hb, hm.symm⟩)
  have : ns = b := rv_inj (List.le_antisymm k2 k3)
  rw [this] at e1
  exact ⟨r, e1⟩
theorem chosen_best {wd : Int} {ws : List Int} (W : Wd wd ws) {fs : List (List Nat)} (hfs : ∀ ns, ns ∈ fs ↔ Lay wd ws ns ws.length) {m : Int} (h1 : ∃ x ∈ fs.map (fun ns => (cost wd ws ns, ns)), x.1 = m) (h2 : ∀ y ∈ fs.map (fun ns => (cost wd ws ns, ns)), m ≤ y.1) :
    m = C wd ws (LS wd ws) ∧ L2.atI ((desc (((fs.map fun ns => (cost wd ws ns, ns)).filter fun x => decide (x.1 = m)).map (·.2))).map tN) 0 = some (tN (bestLay wd ws)) := by
  have b := best_lay W
  obtain ⟨e1, r, e2⟩ := chosen_gen (f := cost wd ws) ((hfs _).mpr b.1) (fun ns h => (best_opt W ((hfs ns).mp h)).1) (fun ns h => (best_opt W ((hfs ns).mp h)).2) h1 h2
  rw [b.2] at e1
  exact ⟨e1, by rw [e2]; exact L2.atI_nat (j := 0) rfl⟩
/-- what is asked of the priced layouts -/
theorem priced_side {wd : Int} {ws : List Int} (W : Wd wd ws) {fs : List (List Nat)} (f : List Nat → Int) (hfs : ∀ ns, ns ∈ fs ↔ Lay wd ws ns ws.length) (hl : fs.length ≤ 2 ^ ws.length) (h15 : ws.length ≤ 15) : (fs.map fun ns => (f ns, ns)) ≠ [] ∧ (fs.map fun ns => (f ns, ns)).length ≤ 40000 ∧ ((∀ x ∈ fs.map (fun ns => (f ns, ns)), x.2 ≠ []) ∨ ∃ x, (fs.map fun ns => (f ns, ns)) = [x]) := by
  have p : 2 ^ ws.length ≤ 2 ^ 15 := Nat.pow_le_pow_right (by decide) h15
  have hne : fs ≠ [] := List.ne_nil_of_mem ((hfs _).mpr (best_lay W).1)
  refine ⟨by simpa using hne, by rw [List.length_map]; omega, ?_⟩
  by_cases h0 : ws.length = 0
  · rw [h0] at hl
    cases fs with
    | nil => exact absurd rfl hne
    | cons a r =>
      cases r with
      | nil => exact .inr ⟨_, rfl⟩
      | cons b r => simp at hl
  · refine .inl fun x hx => ?_
    obtain ⟨ns, hn, rfl⟩ := List.mem_map.mp hx
    obtain ⟨ms, l, e, _⟩ := ((hfs ns).mp hn).ne (by omega)
    rw [e]
    simp
theorem ne_self {x : Str} {Q : Prop} (h : (!decide (x = x)) = true) : Q := by simp at h
/-! ### what is shown -/
theorem sh_row {wd : Int} {ws : List Int} (W : Wd wd ws) (h : ws.length ≤ 290) : showOk0 (.tuple (iDs ws)) := by
  refine show0 ?_ ?_ ?_
  · simp only [smallD]
    refine iDs_small fun x hx => ?_
    have := W.wrd x hx
    have := W.w2
    have b : (1000000000 : Nat) < 2 ^ 200 := by decide
    omega
  · have := iDs_nodes ws
    simp only [nodes]; omega
  · simp only [PyData.depth, iDs_depth]; omega
theorem nDs_eq (ns : List Nat) : nDs ns = iDs (ns.map fun (n : Nat) => (n : Int)) := by simp [nDs, iDs]
end LM

/-! LR: chains of lines, parts of texts, texts turned about. -/
namespace LM
open PySem
/-- lines from l to r -/
inductive Seg (wd : Int) (ws : List Int) : Nat → List Nat → Nat → Prop
  | nil {l : Nat} : Seg wd ws l [] l
  | cons {l h r : Nat} {ns : List Nat} : l < h → ln ws l h ≤ wd → Seg wd ws h ns r → Seg wd ws l (h :: ns) r
def sc (wd : Int) (ws : List Int) : Nat → List Nat → Int
  | _, [] => 0
  | l, h :: r => sq wd ws l h + sc wd ws h r
theorem Seg.app {wd : Int} {ws : List Int} {l m : Nat} {ns : List Nat} (a : Seg wd ws l ns m) : ∀ {ms : List Nat} {r : Nat}, Seg wd ws m ms r → Seg wd ws l (ns ++ ms) r := by
  induction a with
  | nil => exact fun h => h
  | cons h1 h2 _ ih => exact fun h => .cons h1 h2 (ih h)
theorem sc_app {wd : Int} {ws : List Int} : ∀ {ns : List Nat} {l : Nat} {ms : List Nat}, sc wd ws l (ns ++ ms) = sc wd ws l ns + sc wd ws (ns.getLastD l) ms
  | [], l, ms => by simp [sc]
  | h :: r, l, ms => by
    show sq wd ws l h + sc wd ws h (r ++ ms) = sq wd ws l h + sc wd ws h r + _
    rw [sc_app (ns := r) (l := h), List.getLastD_cons]
    omega
theorem Seg.last {wd : Int} {ws : List Int} {l r : Nat} {ns : List Nat} (a : Seg wd ws l ns r) : ns.getLastD l = r := by
  induction a with
  | nil => rfl
  | cons h1 h2 _ ih => rw [List.getLastD_cons]; exact ih
theorem Seg.le {wd : Int} {ws : List Int} {l r : Nat} {ns : List Nat} (a : Seg wd ws l ns r) : l ≤ r ∧ ns.length ≤ r - l := by
  induction a with
  | nil => exact ⟨Nat.le_refl _, Nat.zero_le _⟩
  | cons h1 h2 _ ih => exact ⟨by omega, by rw [List.length_cons]; omega⟩
theorem Seg.mem {wd : Int} {ws : List Int} {l r : Nat} {ns : List Nat} (a : Seg wd ws l ns r) : ∀ x ∈ ns, l < x ∧ x ≤ r := by
  induction a with
  | nil => intro x hx; cases hx
  | cons h1 h2 a ih =>
    intro x hx
    rcases List.mem_cons.mp hx with e | e
    · subst e; exact ⟨h1, a.le.1⟩
    · have := ih x e; omega
theorem Lay.seg {wd : Int} {ws : List Int} {ns : List Nat} {e : Nat} (c : Lay wd ws ns e) : Seg wd ws 0 ns e ∧ fc wd ws ns = sc wd ws 0 ns := by
  induction c with
  | nil => exact ⟨.nil, rfl⟩
  | @snoc ns l h c h1 h2 ih =>
    refine ⟨ih.1.app (.cons h1 h2 .nil), ?_⟩
    rw [fc_snoc, sc_app, ih.2, ih.1.last]
    simp [sc]
theorem Seg.inv {wd : Int} {ws : List Int} : ∀ {ns : List Nat} {l : Nat} {ms : List Nat} {r : Nat}, Seg wd ws l (ns ++ ms) r → Seg wd ws l ns (ns.getLastD l) ∧ Seg wd ws (ns.getLastD l) ms r
  | [], l, ms, r, a => ⟨.nil, a⟩
  | h :: t, l, ms, r, a => by
    have a' : Seg wd ws l (h :: (t ++ ms)) r := a
    cases a' with
    | cons h1 h2 b =>
      have := Seg.inv b
      rw [List.getLastD_cons]
      exact ⟨.cons h1 h2 this.1, this.2⟩
/-- two texts that have alike lines -/
theorem Seg.move {wd : Int} {ws vs : List Int} {l r : Nat} {ns : List Nat} (f : Nat → Nat) (n : Nat) (hf : ∀ i j, i < j → j ≤ n → f i < f j ∧ ln vs (f i) (f j) = ln ws i j) (a : Seg wd ws l ns r) : r ≤ n → Seg wd vs (f l) (ns.map f) (f r) ∧ sc wd vs (f l) (ns.map f) = sc wd ws l ns := by
  induction a with
  | nil => exact fun _ => ⟨.nil, rfl⟩
  | @cons l h r ns h1 h2 a ih =>
    intro hr
    have e := hf l h h1 (by have := a.le.1; omega)
    refine ⟨.cons e.1 (by rw [e.2]; exact h2) (ih hr).1, ?_⟩
    show sq wd vs (f l) (f h) + sc wd vs (f h) (ns.map f) = sq wd ws l h + sc wd ws h ns
    rw [(ih hr).2]
    unfold sq
    rw [e.2]
/-! ### lines of parts -/
theorem ln_sum (ws : List Int) {i j : Nat} (h : i ≤ j) (hj : j ≤ ws.length) : ln ws i j = ((ws.drop i).take (j - i)).sum + j - i - 1 := by
  unfold ln
  rw [sm_eq ws (j := i) (by omega), sm_eq ws hj]
  have e : ws.take j = ws.take i ++ (ws.drop i).take (j - i) := by
    have : j = i + (j - i) := by omega
    conv => lhs; rw [this, List.take_add]
  rw [e, List.sum_append]
  omega
theorem ln_rev {ws : List Int} {i j : Nat} (h : i ≤ j) (hj : j ≤ ws.length) : ln ws.reverse (ws.length - j) (ws.length - i) = ln ws i j := by
  rw [ln_sum ws h hj, ln_sum _ (by omega) (by rw [List.length_reverse]; omega)]
  have e : ((ws.reverse.drop (ws.length - j)).take (ws.length - i - (ws.length - j))).sum = ((ws.drop i).take (j - i)).sum := by
    rw [show ws.length - i - (ws.length - j) = j - i by omega]
    have e1 : ws.reverse.drop (ws.length - j) = (ws.take j).reverse := by
      rw [List.reverse_take]
    rw [e1, List.take_reverse, List.length_take, Nat.min_eq_left hj, show j - (j - i) = i by omega, List.drop_take, List.sum_reverse]
  rw [e]
  omega
theorem Wd.take {wd : Int} {ws : List Int} (W : Wd wd ws) (m : Nat) : Wd wd (ws.take m) := ⟨W.w1, W.w2, by rw [List.length_take]; have := W.len; omega, fun x hx => W.wrd x (List.mem_of_mem_take hx)⟩
theorem Wd.drop {wd : Int} {ws : List Int} (W : Wd wd ws) (m : Nat) : Wd wd (ws.drop m) := ⟨W.w1, W.w2, by rw [List.length_drop]; have := W.len; omega, fun x hx => W.wrd x (List.mem_of_mem_drop hx)⟩
theorem Wd.rev {wd : Int} {ws : List Int} (W : Wd wd ws) : Wd wd ws.reverse := ⟨W.w1, W.w2, by rw [List.length_reverse]; exact W.len, fun x hx => W.wrd x (List.mem_reverse.mp hx)⟩
theorem Wd.app {wd : Int} {ws vs : List Int} (W : Wd wd ws) (h : ws.length + vs.length ≤ 1000) (hv : ∀ x ∈ vs, 1 ≤ x ∧ x ≤ wd) : Wd wd (ws ++ vs) := ⟨W.w1, W.w2, by rw [List.length_append]; exact h, fun x hx => (List.mem_append.mp hx).elim (W.wrd x) (hv x)⟩
def rvs (n : Nat) : Nat → List Nat → List Nat
  | _, [] => []
  | l, h :: t => rvs n h t ++ [n - l]
theorem Seg.rev {wd : Int} {ws : List Int} {l r : Nat} {ns : List Nat} (a : Seg wd ws l ns r) : r ≤ ws.length → Seg wd ws.reverse (ws.length - r) (rvs ws.length l ns) (ws.length - l) ∧ sc wd ws.reverse (ws.length - r) (rvs ws.length l ns) = sc wd ws l ns := by
  induction a with
  | nil => exact fun _ => ⟨.nil, rfl⟩
  | @cons l h r ns h1 h2 a ih =>
    intro hr
    have hle := a.le.1
    have e := ln_rev (ws := ws) (i := l) (j := h) (by omega) (by omega)
    obtain ⟨i1, i2⟩ := ih hr
    show Seg wd ws.reverse _ (rvs ws.length h ns ++ [ws.length - l]) _ ∧ sc wd ws.reverse _ (rvs ws.length h ns ++ [ws.length - l]) = _
    refine ⟨i1.app (.cons (by omega) (by rw [e]; exact h2) .nil), ?_⟩
    rw [sc_app, i1.last, i2]
    show sc wd ws h ns + (sq wd ws.reverse (ws.length - h) (ws.length - l) + 0) = sq wd ws l h + sc wd ws h ns
    unfold sq
    rw [e]
    omega
end LM

/-! LS: words of the width; parts of best layouts. -/
namespace LM
open PySem
end LM

/-! LT: what is behind an end of a best layout; begins of a last line. -/
namespace LM
open PySem
theorem Seg.up {wd : Int} {ws vs : List Int} {d n : Nat} (hq : ∀ i j, i < j → j + d ≤ n → ln vs i j = ln ws (i + d) (j + d)) {l r : Nat} {ns : List Nat} (c : Seg wd vs l ns r) : r + d ≤ n → Seg wd ws (l + d) (ns.map (· + d)) (r + d) ∧ sc wd ws (l + d) (ns.map (· + d)) = sc wd vs l ns := by
  induction c with
  | nil => exact fun _ => ⟨.nil, rfl⟩
  | @cons l h e ns g1 g2 c ih =>
    intro he
    have hle := c.le.1
    have q := hq l h g1 (by omega)
    obtain ⟨i1, i2⟩ := ih he
    show Seg wd ws (l + d) ((h + d) :: ns.map (· + d)) (e + d) ∧ _
    refine ⟨.cons (by omega) (by rw [← q]; exact g2) i1, ?_⟩
    show sq wd ws (l + d) (h + d) + sc wd ws (h + d) (ns.map (· + d)) = sq wd vs l h + sc wd vs h ns
    rw [i2]
    unfold sq
    rw [q]
end LM

/-! LU: rows of priced layouts in order; a table begun from the back of a line; the start of a future. -/
namespace LM
open PySem L2 QL
def leQ (x y : Int × List Nat) : Prop := x.1 < y.1 ∨ (x.1 = y.1 ∧ rv x.2 ≤ rv y.2)
instance (x y : Int × List Nat) : Decidable (leQ x y) := by unfold leQ; infer_instance
/-! ### from the back of a line -/
/-- what was found among the begins b .. e - 1 -/
def Sofar (f : Nat → Int) (b e : Nat) (l : PyData) (a : Nat) : Prop := (l = .none ∧ b = e ∧ a = 0) ∨ (l = .int (f a) ∧ b ≤ a ∧ a < e ∧ ∀ c, b ≤ c → c < e → f a < f c ∨ (f a = f c ∧ c ≤ a))
theorem Sofar.start {f : Nat → Int} {e : Nat} : Sofar f e e .none 0 := .inl ⟨rfl, rfl, rfl⟩
theorem Sofar.first {f : Nat → Int} {b : Nat} : Sofar f b (b + 1) (.int (f b)) b := .inr ⟨rfl, Nat.le_refl _, Nat.lt_succ_self _, fun c h1 h2 => .inr ⟨by rw [show c = b by omega], by omega⟩⟩
theorem Sofar.more {f : Nat → Int} {b e a : Nat} {l : PyData} (s : Sofar f (b + 1) e l a) (hl : l = .int (f a)) (h : ¬ f b < f a) : Sofar f b e l a := by
  rcases s with ⟨s, _⟩ | ⟨_, s1, s2, s3⟩
  · rw [s] at hl; cases hl
  · refine .inr ⟨hl, by omega, s2, fun c h1 h2 => ?_⟩
    by_cases z : c = b
    · subst z
      by_cases g : f a = f c
      · exact .inr ⟨g, by omega⟩
      · exact .inl (by omega)
    · exact s3 c (by omega) h2
end LM

/-! LG: where the line that goes on begins. -/
namespace LM
open PySem
/-- the best one of a kind, the latest of several -/
def IsBest (f : Nat → Int) (S : Nat → Prop) (b : Nat) : Prop := S b ∧ ∀ c, S c → f b < f c ∨ (f b = f c ∧ c ≤ b)
theorem IsBest.uniq {f : Nat → Int} {S : Nat → Prop} {b c : Nat} (h : IsBest f S b) (g : IsBest f S c) : b = c := by
  have := h.2 c g.1
  have := g.2 b h.1
  omega
theorem best_is {f : Nat → Int} {bs : List Nat} (h : bs ≠ []) : ∃ b, best f bs = (f b, -(b : Int)) ∧ IsBest f (· ∈ bs) b := by
  obtain ⟨b, hb, e, hm⟩ := best_spec f h
  exact ⟨b, e, hb, hm⟩
/-- the length from a place to the end -/
def tl (ws : List Int) (p : Nat) : Int := ln ws p ws.length
theorem tl_end (ws : List Int) : tl ws ws.length = -1 := by unfold tl ln; omega
/-- the places whose lines fit with a word behind them -/
def fit (wd : Int) (ws : List Int) (u : Int) : List Nat := (List.range (ws.length + 1)).filter fun p => decide (tl ws p ≤ wd - 1 - u)
def Fits (wd : Int) (ws : List Int) (u : Int) (p : Nat) : Prop := p ≤ ws.length ∧ tl ws p ≤ wd - 1 - u
theorem fit_mem {wd : Int} {ws : List Int} {u : Int} {p : Nat} : p ∈ fit wd ws u ↔ Fits wd ws u p := by
  unfold fit Fits
  rw [List.mem_filter, List.mem_range, decide_eq_true_eq]
  omega
theorem fit_ne {wd : Int} {ws : List Int} {u : Int} (h : u ≤ wd) : fit wd ws u ≠ [] := List.ne_nil_of_mem (fit_mem.mpr ⟨Nat.le_refl _, by rw [tl_end]; omega⟩)
/-- the full cost if the line from p ends with a word -/
def cc (wd : Int) (ws : List Int) (u : Int) (p : Nat) : Int := C wd ws p + (wd - 1 - u - tl ws p) * (wd - 1 - u - tl ws p)
def opn (wd : Int) (ws : List Int) (u : Int) : Nat := (-(best (C wd ws) (fit wd ws u)).2).toNat
def cls (wd : Int) (ws : List Int) (u : Int) : Nat := (-(best (cc wd ws u) (fit wd ws u)).2).toNat
theorem opn_is {wd : Int} {ws : List Int} {u : Int} (h : u ≤ wd) : best (C wd ws) (fit wd ws u) = (C wd ws (opn wd ws u), -(opn wd ws u : Int)) ∧ IsBest (C wd ws) (Fits wd ws u) (opn wd ws u) := by
  obtain ⟨b, e, hb⟩ := best_is (f := C wd ws) (fit_ne (ws := ws) h)
  have eb : opn wd ws u = b := by unfold opn; rw [e]; simp
  rw [eb]
  exact ⟨e, fit_mem.mp hb.1, fun c hc => hb.2 c (fit_mem.mpr hc)⟩
theorem cls_is {wd : Int} {ws : List Int} {u : Int} (h : u ≤ wd) : best (cc wd ws u) (fit wd ws u) = (cc wd ws u (cls wd ws u), -(cls wd ws u : Int)) ∧ IsBest (cc wd ws u) (Fits wd ws u) (cls wd ws u) := by
  obtain ⟨b, e, hb⟩ := best_is (f := cc wd ws u) (fit_ne (ws := ws) h)
  have eb : cls wd ws u = b := by unfold cls; rw [e]; simp
  rw [eb]
  exact ⟨e, fit_mem.mp hb.1, fun c hc => hb.2 c (fit_mem.mpr hc)⟩
/-! ### the start of a future -/
section
variable {wd : Int} {ws vs : List Int} (W : Wd wd (ws ++ vs))
include W
end
end LM

/-! LH: ranges of words with one start. -/
namespace LM
open PySem
end LM

/-! LI: what closing_starts, open_starts and starts return. -/
namespace LM
open PySem
/-- ranges so far, the next one begins at lo -/
inductive Rgs (wd : Int) (f : Int → Nat) : List (Int × Int × Nat) → Int → Prop
  | nil : Rgs wd f [] 1
  | snoc {rs : List (Int × Int × Nat)} {lo hi : Int} : Rgs wd f rs lo → lo ≤ hi → hi ≤ wd → (∀ u, lo ≤ u → u ≤ hi → f u = f lo) → (hi + 1 ≤ wd → f lo < f (hi + 1)) → Rgs wd f (rs ++ [(lo, hi, f lo)]) (hi + 1)
section
variable {wd : Int} {f : Int → Nat}
theorem Rgs.one {rs : List (Int × Int × Nat)} {lo : Int} (h : Rgs wd f rs lo) : 1 ≤ lo := by
  induction h with
  | nil => exact Int.le_refl _
  | snoc _ _ _ _ _ ih => omega
theorem Rgs.len {rs : List (Int × Int × Nat)} {lo : Int} (h : Rgs wd f rs lo) : lo ≤ wd → rs.length ≤ f lo := by
  induction h with
  | nil => intro _; exact Nat.zero_le _
  | snoc h1 h2 h3 h4 h5 ih =>
    intro h
    have a := ih (by omega)
    have b := h5 h
    rw [List.length_append, List.length_singleton]
    omega
theorem Rgs.mem {rs : List (Int × Int × Nat)} {lo : Int} (h : Rgs wd f rs lo) (p : Nat) : (∃ r ∈ rs, r.2.2 = p) ↔ ∃ u, 1 ≤ u ∧ u < lo ∧ f u = p := by
  induction h with
  | nil => exact ⟨fun ⟨r, h, _⟩ => (nomatch h), fun ⟨u, a, b, _⟩ => absurd b (by omega)⟩
  | @snoc rs lo hi h1 h2 h3 h4 h5 ih =>
    have o := h1.one
    constructor
    · rintro ⟨r, hr, e⟩
      rcases List.mem_append.mp hr with z | z
      · obtain ⟨u, a, b, c⟩ := ih.mp ⟨r, z, e⟩
        exact ⟨u, a, by omega, c⟩
      · rw [List.mem_singleton.mp z] at e
        exact ⟨lo, o, by omega, e⟩
    · rintro ⟨u, a, b, c⟩
      by_cases z : u < lo
      · obtain ⟨r, hr, e⟩ := ih.mpr ⟨u, a, z, c⟩
        exact ⟨r, List.mem_append_left _ hr, e⟩
      · exact ⟨(lo, hi, f lo), List.mem_append_right _ (List.mem_singleton.mpr rfl), by show f lo = p; rw [← c]; exact (h4 u (by omega) (by omega)).symm⟩
/-- each range: its ends, its start -/
theorem Rgs.each {rs : List (Int × Int × Nat)} {lo : Int} (h : Rgs wd f rs lo) : ∀ r ∈ rs, 1 ≤ r.1 ∧ r.1 ≤ r.2.1 ∧ r.2.1 ≤ wd ∧ r.2.1 < lo ∧ ∀ u, r.1 ≤ u → u ≤ r.2.1 → f u = r.2.2 := by
  induction h with
  | nil => intro r h; nomatch h
  | @snoc rs lo hi h1 h2 h3 h4 h5 ih =>
    intro r hr
    have o := h1.one
    rcases List.mem_append.mp hr with z | z
    · have := ih r z; exact ⟨this.1, this.2.1, this.2.2.1, by omega, this.2.2.2.2⟩
    · rw [List.mem_singleton.mp z]; exact ⟨o, h2, h3, by show hi < hi + 1; omega, h4⟩
/-- the runs of equal starts, word by word -/
def runs (f : Int → Nat) : Nat → List (Int × Int × Nat)
  | 0 => []
  | k + 1 => match (runs f k).getLast? with
    | some r => if r.2.2 = f ((k : Int) + 1) then (runs f k).dropLast ++ [(r.1, (k : Int) + 1, r.2.2)] else runs f k ++ [((k : Int) + 1, (k : Int) + 1, f ((k : Int) + 1))]
    | none => runs f k ++ [((k : Int) + 1, (k : Int) + 1, f ((k : Int) + 1))]
theorem runs_snoc (k : Nat) (rs : List (Int × Int × Nat)) (r : Int × Int × Nat) (h : runs f k = rs ++ [r]) : runs f (k + 1) = if r.2.2 = f ((k : Int) + 1) then rs ++ [(r.1, (k : Int) + 1, r.2.2)] else (rs ++ [r]) ++ [((k : Int) + 1, (k : Int) + 1, f ((k : Int) + 1))] := by
  show (match (runs f k).getLast? with
    | some r => if r.2.2 = f ((k : Int) + 1) then (runs f k).dropLast ++ [(r.1, (k : Int) + 1, r.2.2)] else runs f k ++ [((k : Int) + 1, (k : Int) + 1, f ((k : Int) + 1))]
    | none => runs f k ++ [((k : Int) + 1, (k : Int) + 1, f ((k : Int) + 1))]) = _
  rw [h, List.getLast?_concat]
  simp only [List.dropLast_concat]
theorem Rgs.last {rs : List (Int × Int × Nat)} {lo : Int} (h : Rgs wd f rs lo) : rs = [] ∨ ∃ rs0 r, rs = rs0 ++ [r] ∧ (lo ≤ wd → r.2.2 < f lo) := by
  cases h with
  | nil => exact .inl rfl
  | snoc h1 h2 h3 h4 h5 => exact .inr ⟨_, _, rfl, h5⟩
theorem Rgs.runs {rs : List (Int × Int × Nat)} {lo : Int} (h : Rgs wd f rs lo) : rs = LM.runs f (lo - 1).toNat := by
  induction h with
  | nil => rfl
  | @snoc rs lo hi h1 h2 h3 h4 h5 ih =>
    have o := h1.one
    have key : ∀ j : Nat, lo + j ≤ hi → LM.runs f (lo - 1 + j + 1).toNat = rs ++ [(lo, lo + j, f lo)] := fun j => by
      induction j with
      | zero =>
        intro _
        have e1 : (lo - 1 + ((0 : Nat) : Int) + 1).toNat = (lo - 1).toNat + 1 := by omega
        have e2 : (((lo - 1).toNat : Nat) : Int) + 1 = lo := by omega
        rw [e1]
        have e3 : lo + ((0 : Nat) : Int) = lo := by omega
        rw [e3]
        rcases h1.last with z | ⟨rs0, r, z, lt⟩
        · subst z
          show (match (LM.runs f (lo - 1).toNat).getLast? with
            | some r => if r.2.2 = f (((lo - 1).toNat : Int) + 1) then (LM.runs f (lo - 1).toNat).dropLast ++ [(r.1, ((lo - 1).toNat : Int) + 1, r.2.2)] else LM.runs f (lo - 1).toNat ++ [(((lo - 1).toNat : Int) + 1, ((lo - 1).toNat : Int) + 1, f (((lo - 1).toNat : Int) + 1))]
            | none => LM.runs f (lo - 1).toNat ++ [(((lo - 1).toNat : Int) + 1, ((lo - 1).toNat : Int) + 1, f (((lo - 1).toNat : Int) + 1))]) = _
          rw [← ih, e2]
          rfl
        · have lt := lt (by omega)
          rw [runs_snoc _ rs0 r (by rw [← ih, z]), e2, if_neg (by omega), ← z]
      | succ j ihj =>
        intro hj
        have e0 := ihj (by omega)
        have e1 : (lo - 1 + ((j + 1 : Nat) : Int) + 1).toNat = (lo - 1 + (j : Int) + 1).toNat + 1 := by omega
        have e2 : (((lo - 1 + (j : Int) + 1).toNat : Nat) : Int) + 1 = lo + ((j + 1 : Nat) : Int) := by omega
        rw [e1, runs_snoc _ rs _ e0, e2]
        rw [if_pos (h4 _ (by omega) (by omega)).symm]
    have q := key (hi - lo).toNat (by omega)
    have e1 : lo - 1 + ((hi - lo).toNat : Int) + 1 = hi + 1 - 1 := by omega
    have e2 : lo + ((hi - lo).toNat : Int) = hi := by omega
    rw [e1, e2] at q
    exact q.symm
end
/-! ### the starts of all futures -/
def IsStart (wd : Int) (ws : List Int) (p : Nat) : Prop := ∃ u, 1 ≤ u ∧ u ≤ wd ∧ (cls wd ws u = p ∨ opn wd ws u = p)
noncomputable instance (wd : Int) (ws : List Int) (p : Nat) : Decidable (IsStart wd ws p) := Classical.propDecidable _
theorem cls_le {wd : Int} {ws : List Int} {u : Int} (h : u ≤ wd) : cls wd ws u ≤ ws.length := (cls_is h).2.1.1
theorem opn_le {wd : Int} {ws : List Int} {u : Int} (h : u ≤ wd) : opn wd ws u ≤ ws.length := (opn_is h).2.1.1
theorem IsStart.le {wd : Int} {ws : List Int} {p : Nat} (h : IsStart wd ws p) : p ≤ ws.length := by
  obtain ⟨u, _, h2, h3 | h3⟩ := h
  · rw [← h3]; exact cls_le h2
  · rw [← h3]; exact opn_le h2
/-- both rows of ranges together have just the starts -/
theorem Rgs.starts {wd : Int} {ws : List Int} {rs qs : List (Int × Int × Nat)} (h : Rgs wd (cls wd ws) rs (wd + 1)) (g : Rgs wd (opn wd ws) qs (wd + 1)) (p : Nat) : (∃ r ∈ rs ++ qs, r.2.2 = p) ↔ IsStart wd ws p := by
  constructor
  · rintro ⟨r, hr, e⟩
    rcases List.mem_append.mp hr with z | z
    · obtain ⟨u, a, b, c⟩ := (h.mem p).mp ⟨r, z, e⟩
      exact ⟨u, a, by omega, .inl c⟩
    · obtain ⟨u, a, b, c⟩ := (g.mem p).mp ⟨r, z, e⟩
      exact ⟨u, a, by omega, .inr c⟩
  · rintro ⟨u, a, b, c | c⟩
    · obtain ⟨r, hr, e⟩ := (h.mem p).mpr ⟨u, a, by omega, c⟩
      exact ⟨r, List.mem_append_left _ hr, e⟩
    · obtain ⟨r, hr, e⟩ := (g.mem p).mpr ⟨u, a, by omega, c⟩
      exact ⟨r, List.mem_append_right _ hr, e⟩
end LM

/-! LJ: starts behind words as long as the width, or single ones. -/
namespace LM
open PySem
theorem Rgs.uniq {wd : Int} {f : Int → Nat} {rs qs : List (Int × Int × Nat)} {lo : Int} (h : Rgs wd f rs lo) (g : Rgs wd f qs lo) : rs = qs := h.runs.trans g.runs.symm
section
variable {wd w : Int} (W : Wd wd [w])
include W
end
end LM

/-! LK: rows of ranges, range by range. -/
namespace LM
open PySem
section
variable {wd : Int} {f : Int → Nat}
/-- the first j ranges, and where the next one begins -/
theorem Rgs.cut {rs : List (Int × Int × Nat)} {hi : Int} (h : Rgs wd f rs hi) : ∀ j, j ≤ rs.length → ∃ lo, Rgs wd f (rs.take j) lo ∧ (∀ r, rs[j]? = some r → r.1 = lo) ∧ (j = rs.length → lo = hi) := by
  induction h with
  | nil => intro j hj; exact ⟨1, by rw [List.take_nil]; exact .nil, fun r h => by simp at h, fun _ => rfl⟩
  | @snoc rs lo hi h1 h2 h3 h4 h5 ih =>
    intro j hj
    rw [List.length_append, List.length_singleton] at hj
    by_cases z : j ≤ rs.length
    · obtain ⟨l, a, b, c⟩ := ih j z
      refine ⟨l, by rw [List.take_append_of_le_length z]; exact a, fun r hr => ?_, fun e => by rw [List.length_append, List.length_singleton] at e; omega⟩
      by_cases y : j < rs.length
      · rw [List.getElem?_append_left y] at hr; exact b r hr
      · have e : j = rs.length := by omega
        rw [List.getElem?_append_right (by omega), e, Nat.sub_self] at hr
        simp at hr
        rw [← hr]
        exact (c e).symm
    · have e : j = (rs ++ [(lo, hi, f lo)]).length := by rw [List.length_append, List.length_singleton]; omega
      refine ⟨hi + 1, ?_, fun r hr => ?_, fun _ => rfl⟩
      · rw [e, List.take_length]
        exact .snoc h1 h2 h3 h4 h5
      · rw [List.getElem?_eq_none (by omega)] at hr
        cases hr
/-- neighbouring ranges: the next one begins behind, with a later start -/
theorem Rgs.next {rs : List (Int × Int × Nat)} {hi : Int} (h : Rgs wd f rs hi) (hh : hi ≤ wd + 1) : ∀ j r q, rs[j]? = some r → rs[j + 1]? = some q → r.2.1 + 1 = q.1 ∧ r.2.2 < q.2.2 := by
  induction h with
  | nil => intro j r q h; simp at h
  | @snoc rs lo hi h1 h2 h3 h4 h5 ih =>
    intro j r q hr hq
    have hj := (List.getElem?_eq_some_iff.mp hq).1
    rw [List.length_append, List.length_singleton] at hj
    rw [List.getElem?_append_left (by omega)] at hr
    by_cases z : j + 1 < rs.length
    · rw [List.getElem?_append_left z] at hq
      exact ih (by omega) j r q hr hq
    · have e : j + 1 = rs.length := by omega
      rw [List.getElem?_append_right (by omega), e, Nat.sub_self] at hq
      simp at hq
      subst hq
      -- the last of rs
      cases h1 with
      | nil => simp at hr
      | @snoc rs0 lo0 hi0 g1 g2 g3 g4 g5 =>
        rw [List.length_append, List.length_singleton] at e
        rw [List.getElem?_append_right (by omega), show j - rs0.length = 0 by omega] at hr
        simp at hr
        subst hr
        exact ⟨rfl, g5 (by omega)⟩
theorem Rgs.ne {rs : List (Int × Int × Nat)} (w1 : 1 ≤ wd) (h : Rgs wd f rs (wd + 1)) : rs ≠ [] := fun e => by
  have k : ∀ {rs : List (Int × Int × Nat)} {hi : Int}, Rgs wd f rs hi → rs = [] → hi = 1 := fun {rs hi} h e => by
    cases h with
    | nil => rfl
    | snoc => simp at e
  have := k h e
  omega
end
end LM

/-! LO: which places the best layouts with all futures have. -/
namespace LM
open PySem
/-- what a number of rows out of all tells -/
def tells (c m : Nat) : Nat := if c = 0 then 0 else if c = m then 2 else 1
theorem Lay.nodup {wd : Int} {ws : List Int} {ns : List Nat} {e : Nat} (c : Lay wd ws ns e) : ns.Nodup := by
  induction c with
  | nil => exact List.nodup_nil
  | snoc c h1 h2 ih =>
    refine List.nodup_append.mpr ⟨ih, List.nodup_cons.mpr ⟨fun z => (nomatch z), List.nodup_nil⟩, fun a ha b hb z => ?_⟩
    rw [List.mem_singleton.mp hb] at z
    have := (c.mem a ha).2
    omega
end LM

/-! LY: the settled lines: what all futures have in common. -/
namespace LM
open PySem
end LM

/-! LZ: settled words with more words behind; a text behind a place that all pass. -/
namespace LM
open PySem
end LM

/-! LZs: a text behind a place that all layouts pass. -/
namespace LM
open PySem
/-- all layouts with futures pass m -/
def Pass (wd : Int) (ws : List Int) (m : Nat) : Prop := ∀ vs : List Int, vs ≠ [] → vs.length ≤ 2 → (∀ x ∈ vs, 1 ≤ x ∧ x ≤ wd) → ∃ r, bestLay wd (ws ++ vs) = way wd ws m ++ r
section
variable {wd : Int} {ws : List Int} {m : Nat} (V : Wd wd ws) (hm : m ≤ ws.length)
include V hm
variable (H : Pass wd ws m) (hl : ws.length + 2 ≤ 1000)
include H hl
variable (H0 : ∃ r, bestLay wd ws = way wd ws m ++ r)
include H0
end
end LM

/-! LZw: a text that ends with a word of the width, and what stands behind it. -/
namespace LM
open PySem
section
variable {wd : Int} {ws : List Int} {m : Nat} (V : Wd wd ws) (hm : m ≤ ws.length) (H : Pass wd ws m) (hl : ws.length + 2 ≤ 1000) (H0 : ∃ r, bestLay wd ws = way wd ws m ++ r)
include V hm H hl H0
end
section
variable {wd : Int} {ws : List Int} (V : Wd wd ws) (hl : ws.length + 4 ≤ 1000)
include V hl
variable {vs : List Int} (W : Wd wd (ws ++ [wd] ++ vs)) (hl2 : ws.length + 1 + vs.length + 2 ≤ 1000)
include W hl2
end
end LM

/-! LZv: the text behind the settled words. -/
namespace LM
open PySem
section
variable {wd : Int} {ws : List Int} (V : Wd wd ws) (hl : ws.length + 2 ≤ 1000)
include V hl
end
end LM

/-! LZx: scaled texts. -/
namespace LM
open PySem
def scl (f : Int) (x : Int) : Int := f * (x + 1) - 1
section
variable {wd : Int} {ws : List Int} {f : Int} (W : Wd wd ws) (f1 : 1 ≤ f) (hg : scl f wd ≤ 1000000000)
include f1
include W hg
end
end LM

/-! LZc: in how many ways the lines of a best layout can be chosen. -/
namespace LM
open PySem
/-- what the lines up to e may cost; the last line is free -/
def glC (wd : Int) (ws : List Int) (e : Nat) : Int := if e = ws.length then C wd ws (LS wd ws) else C wd ws e
def szC (wd : Int) (ws : List Int) (e b : Nat) : Int := if e = ws.length then 0 else sq wd ws b e
/-- the begins of last lines of the least cost -/
def chB (wd : Int) (ws : List Int) (e : Nat) : List Nat := (bg wd ws e).filter fun b => decide (C wd ws b + szC wd ws e b = glC wd ws e)
/-- the numbers of ways -/
def wyL (wd : Int) (ws : List Int) : Nat → List Int
  | 0 => [1]
  | m + 1 => wyL wd ws m ++ [((chB wd ws (m + 1)).map fun b => (wyL wd ws m).getD b 0).sum]
def cntB (wd : Int) (ws : List Int) : Int := (wyL wd ws ws.length).getD ws.length 0
theorem wyL_len (wd : Int) (ws : List Int) : ∀ m, (wyL wd ws m).length = m + 1
  | 0 => rfl
  | m + 1 => by rw [wyL, List.length_append, wyL_len wd ws m]; rfl
theorem chB_lt {wd : Int} {ws : List Int} (W : Wd wd ws) {e b : Nat} (he : e ≤ ws.length) (h : b ∈ chB wd ws e) : b < e ∧ ln ws b e ≤ wd := by
  have := (bg_mem W he).mp (List.mem_filter.mp h).1
  exact this
theorem wyL_pre (wd : Int) (ws : List Int) {m n : Nat} (h : m ≤ n) : ∀ j, j ≤ m → (wyL wd ws n).getD j 0 = (wyL wd ws m).getD j 0 := by
  intro j hj
  induction n with
  | zero =>
    have : m = 0 := by omega
    subst this; rfl
  | succ n ih =>
    by_cases e : m = n + 1
    · rw [e]
    · rw [← ih (by omega)]
      have hl := wyL_len wd ws n
      rw [wyL, List.getD_eq_getElem?_getD, List.getElem?_append_left (by omega), ← List.getD_eq_getElem?_getD]
/-- the number of ways up to e -/
def wyN (wd : Int) (ws : List Int) (e : Nat) : Int := (wyL wd ws e).getD e 0
theorem wyN_zero (wd : Int) (ws : List Int) : wyN wd ws 0 = 1 := rfl
theorem wyN_at {wd : Int} {ws : List Int} {m j : Nat} (h : j ≤ m) : (wyL wd ws m).getD j 0 = wyN wd ws j := wyL_pre wd ws h j (Nat.le_refl _)
theorem wyN_succ {wd : Int} {ws : List Int} (W : Wd wd ws) {e : Nat} (he : e + 1 ≤ ws.length) : wyN wd ws (e + 1) = ((chB wd ws (e + 1)).map (wyN wd ws)).sum := by
  have hl := wyL_len wd ws e
  unfold wyN
  rw [wyL, List.getD_eq_getElem?_getD, List.getElem?_append_right (by omega), hl, Nat.sub_self]
  refine congrArg List.sum (List.map_congr_left fun b hb => ?_)
  have := (chB_lt W he hb).1
  exact wyN_at (by omega)
theorem cntB_eq (wd : Int) (ws : List Int) : cntB wd ws = wyN wd ws ws.length := rfl
section
variable {wd : Int} {ws : List Int} {f : Int} (W : Wd wd ws) (f1 : 1 ≤ f) (hg : scl f wd ≤ 1000000000)
include W f1 hg
end
end LM

/-! LZn: all best layouts, in the order in which they are given. -/
namespace LM
open PySem
/-- from a place on towards the front: the layouts, the ends behind known (k: fuel) -/
def layF (wd : Int) (ws : List Int) : Nat → Nat → List Int → List (List Int)
  | 0, _, _ => []
  | k + 1, p, e => if p = 0 then [e] else ((chB wd ws p).map fun b => layF wd ws k b ((p : Int) :: e)).flatten
/-- how many places are taken from the stack -/
def layK (wd : Int) (ws : List Int) : Nat → Nat → Nat
  | 0, _ => 0
  | k + 1, p => if p = 0 then 1 else 1 + ((chB wd ws p).map (layK wd ws k)).sum
def layA (wd : Int) (ws : List Int) (p : Nat) (e : List Int) : List (List Int) := layF wd ws (p + 1) p e
def layM (wd : Int) (ws : List Int) (p : Nat) : Nat := layK wd ws (p + 1) p
/-- all best layouts -/
def lays (wd : Int) (ws : List Int) : List (List Int) := layA wd ws ws.length []
theorem layA_zero (wd : Int) (ws : List Int) (e : List Int) : layA wd ws 0 e = [e] := rfl
theorem layM_zero (wd : Int) (ws : List Int) : layM wd ws 0 = 1 := rfl
section
variable {wd : Int} {ws : List Int} (W : Wd wd ws)
include W
theorem layF_fuel : ∀ (k k' p : Nat) (e : List Int), p < k → p < k' → p ≤ ws.length → layF wd ws k p e = layF wd ws k' p e := by
  intro k
  induction k with
  | zero => intro k' p e h; omega
  | succ k ih =>
    intro k' p e h h' hp
    obtain ⟨k', rfl⟩ : ∃ j, k' = j + 1 := ⟨k' - 1, by omega⟩
    unfold layF
    by_cases z : p = 0
    · rw [if_pos z, if_pos z]
    · rw [if_neg z, if_neg z]
      refine congrArg List.flatten (List.map_congr_left fun b hb => ?_)
      have hb' := (chB_lt W hp hb).1
      exact ih k' b _ (by omega) (by omega) (by omega)
theorem layK_fuel : ∀ (k k' p : Nat), p < k → p < k' → p ≤ ws.length → layK wd ws k p = layK wd ws k' p := by
  intro k
  induction k with
  | zero => intro k' p h; omega
  | succ k ih =>
    intro k' p h h' hp
    obtain ⟨k', rfl⟩ : ∃ j, k' = j + 1 := ⟨k' - 1, by omega⟩
    unfold layK
    by_cases z : p = 0
    · rw [if_pos z, if_pos z]
    · rw [if_neg z, if_neg z]
      refine congrArg (fun z => 1 + List.sum z) (List.map_congr_left fun b hb => ?_)
      have hb' := (chB_lt W hp hb).1
      exact ih k' b (by omega) (by omega) (by omega)
theorem layA_succ {p : Nat} (h0 : 0 < p) (hp : p ≤ ws.length) (e : List Int) : layA wd ws p e = ((chB wd ws p).map fun b => layA wd ws b ((p : Int) :: e)).flatten := by
  unfold layA
  rw [layF, if_neg (by omega)]
  refine congrArg List.flatten (List.map_congr_left fun b hb => ?_)
  have hb' := (chB_lt W hp hb).1
  exact layF_fuel W _ _ b _ (by omega) (by omega) (by omega)
theorem layM_succ {p : Nat} (h0 : 0 < p) (hp : p ≤ ws.length) : layM wd ws p = 1 + ((chB wd ws p).map (layM wd ws)).sum := by
  unfold layM
  rw [layK, if_neg (by omega)]
  refine congrArg (fun z => 1 + List.sum z) (List.map_congr_left fun b hb => ?_)
  have hb' := (chB_lt W hp hb).1
  exact layK_fuel W _ _ b (by omega) (by omega) (by omega)
theorem layM_pos {p : Nat} (hp : p ≤ ws.length) : 1 ≤ layM wd ws p := by
  rcases p with _ | p
  · exact Nat.le_refl _
  · rw [layM_succ W (by omega) hp]; omega
end
/-- the stack, its top last -/
abbrev Stk := List (Nat × List Int)
def outS (wd : Int) (ws : List Int) (st : Stk) : List (List Int) := (st.reverse.map fun x => layA wd ws x.1 x.2).flatten
def mesS (wd : Int) (ws : List Int) (st : Stk) : Nat := (st.map fun x => layM wd ws x.1).sum
def stkOk (ws : List Int) (st : Stk) : Prop := ∀ x ∈ st, x.1 + x.2.length ≤ ws.length
theorem outS_snoc (wd : Int) (ws : List Int) (st : Stk) (x : Nat × List Int) : outS wd ws (st ++ [x]) = layA wd ws x.1 x.2 ++ outS wd ws st := by
  unfold outS
  rw [List.reverse_append]
  rfl
theorem mesS_app (wd : Int) (ws : List Int) (st st' : Stk) : mesS wd ws (st ++ st') = mesS wd ws st + mesS wd ws st' := by
  unfold mesS
  rw [List.map_append, List.sum_append]
/-- what is put on the stack behind a place -/
def kids (wd : Int) (ws : List Int) (p : Nat) (e : List Int) : Stk := (chB wd ws p).reverse.map fun b => (b, (p : Int) :: e)
section
variable {wd : Int} {ws : List Int} (W : Wd wd ws)
include W
theorem outS_kids {p : Nat} (h0 : 0 < p) (hp : p ≤ ws.length) (e : List Int) (st : Stk) : outS wd ws (st ++ kids wd ws p e) = outS wd ws (st ++ [(p, e)]) := by
  rw [outS_snoc, layA_succ W h0 hp]
  unfold outS kids
  rw [List.reverse_append, List.map_append, List.flatten_append, ← List.map_reverse, List.reverse_reverse, List.map_map]
  rfl
theorem mesS_kids {p : Nat} (h0 : 0 < p) (hp : p ≤ ws.length) (e : List Int) (st : Stk) : mesS wd ws (st ++ kids wd ws p e) + 1 = mesS wd ws (st ++ [(p, e)]) := by
  have e1 : mesS wd ws (kids wd ws p e) = ((chB wd ws p).map (layM wd ws)).sum := by
    unfold mesS kids
    rw [List.map_map]
    show ((chB wd ws p).reverse.map (layM wd ws)).sum = _
    rw [List.map_reverse, List.sum_reverse]
  have e2 : mesS wd ws [(p, e)] = layM wd ws p := by
    unfold mesS
    simp
  rw [mesS_app, mesS_app, e1, e2, layM_succ W h0 hp]
  omega
theorem kids_ok {p : Nat} {e : List Int} (hp : p + e.length ≤ ws.length) {st : Stk} (h : stkOk ws st) : stkOk ws (st ++ kids wd ws p e) := fun x hx => by
  rcases List.mem_append.mp hx with z | z
  · exact h x z
  · obtain ⟨b, hb, rfl⟩ := List.mem_map.mp z
    have := (chB_lt W (by omega) (List.mem_reverse.mp hb)).1
    show b + (e.length + 1) ≤ _
    omega
theorem stk_le {st : Stk} (h : stkOk ws st) : st.length ≤ mesS wd ws st := by
  induction st with
  | nil => exact Nat.zero_le _
  | cons x st ih =>
    have h0 := h x List.mem_cons_self
    have h1 := layM_pos W (p := x.1) (by omega)
    have h2 := ih fun y hy => h y (List.mem_cons_of_mem _ hy)
    show st.length + 1 ≤ _
    unfold mesS at h2 ⊢
    rw [List.map_cons, List.sum_cons]
    omega
theorem lay_le : ∀ (m p : Nat) (e : List Int), p ≤ m → p ≤ ws.length → (layA wd ws p e).length ≤ layM wd ws p := by
  intro m
  induction m with
  | zero =>
    intro p e h hp
    obtain rfl : p = 0 := by omega
    exact Nat.le_refl _
  | succ m ih =>
    intro p e h hp
    rcases p with _ | p
    · exact Nat.le_refl _
    · rw [layA_succ W (by omega) hp, layM_succ W (by omega) hp, List.length_flatten, List.map_map]
      have key : ∀ (l : List Nat), (∀ b ∈ l, b < p + 1) → (l.map (List.length ∘ fun b => layA wd ws b (((p + 1 : Nat) : Int) :: e))).sum ≤ (l.map (layM wd ws)).sum := fun l => by
        induction l with
        | nil => intro _; exact Nat.le_refl _
        | cons b l ihl =>
          intro hl
          have hb := hl b List.mem_cons_self
          have h1 := ih b (((p + 1 : Nat) : Int) :: e) (by omega) (by omega)
          have h2 := ihl fun y hy => hl y (List.mem_cons_of_mem _ hy)
          rw [List.map_cons, List.map_cons, List.sum_cons, List.sum_cons]
          show (layA wd ws b (((p + 1 : Nat) : Int) :: e)).length + _ ≤ _
          omega
      have := key (chB wd ws (p + 1)) fun b hb => (chB_lt W hp hb).1
      omega
/-- few words, few layouts -/
theorem layM_pow : ∀ (m p : Nat), p ≤ m → p ≤ ws.length → layM wd ws p ≤ 2 ^ p := by
  intro m
  induction m with
  | zero =>
    intro p h hp
    obtain rfl : p = 0 := by omega
    exact Nat.le_refl _
  | succ m ih =>
    intro p h hp
    rcases p with _ | p
    · exact Nat.le_refl _
    · rw [layM_succ W (by omega) hp]
      have key : ∀ j, j ≤ p + 1 → (((bgF wd ws (p + 1) j).filter fun b => decide (C wd ws b + szC wd ws (p + 1) b = glC wd ws (p + 1))).map (layM wd ws)).sum + 1 ≤ 2 ^ j := fun j => by
        induction j with
        | zero => intro _; exact Nat.le_refl _
        | succ j ihj =>
          intro hj
          have h2 := ihj (by omega)
          have h1 := ih j (by omega) (by omega)
          have e2 : 2 ^ (j + 1) = 2 ^ j + 2 ^ j := by rw [Nat.pow_succ]; omega
          unfold bgF
          by_cases hl : ln ws j (p + 1) ≤ wd
          · rw [if_pos hl, List.filter_cons]
            split
            · rw [List.map_cons, List.sum_cons]; omega
            · omega
          · rw [if_neg hl]
            show 0 + 1 ≤ _
            omega
      have := key (p + 1) (Nat.le_refl _)
      unfold chB bg
      omega
end
section
variable {wd : Int} {ws : List Int} {f : Int} (W : Wd wd ws) (f1 : 1 ≤ f) (hg : scl f wd ≤ 1000000000)
include W f1 hg
end
end LM

/-! LZo: the best layouts are given in descending order, each once, and no others. -/
namespace LM
open PySem
/-- the ways from a place to the front: the ends, the last one first -/
def layRF (wd : Int) (ws : List Int) : Nat → Nat → List (List Nat)
  | 0, _ => []
  | k + 1, p => if p = 0 then [[]] else (chB wd ws p).flatMap fun b => (layRF wd ws k b).map (p :: ·)
def layR (wd : Int) (ws : List Int) (p : Nat) : List (List Nat) := layRF wd ws (p + 1) p
/-- all best layouts -/
def layN (wd : Int) (ws : List Int) : List (List Nat) := (layR wd ws ws.length).map List.reverse
theorem layR_zero (wd : Int) (ws : List Int) : layR wd ws 0 = [[]] := rfl
section
variable {wd : Int} {ws : List Int} (W : Wd wd ws)
include W
theorem layRF_fuel : ∀ (k k' p : Nat), p < k → p < k' → p ≤ ws.length → layRF wd ws k p = layRF wd ws k' p := by
  intro k
  induction k with
  | zero => intro k' p h; omega
  | succ k ih =>
    intro k' p h h' hp
    obtain ⟨k', rfl⟩ : ∃ j, k' = j + 1 := ⟨k' - 1, by omega⟩
    unfold layRF
    by_cases z : p = 0
    · rw [if_pos z, if_pos z]
    · rw [if_neg z, if_neg z, List.flatMap_def, List.flatMap_def]
      refine congrArg List.flatten (List.map_congr_left fun b hb => ?_)
      have hb' := (chB_lt W hp hb).1
      rw [ih k' b (by omega) (by omega) (by omega)]
theorem layR_succ {p : Nat} (h0 : 0 < p) (hp : p ≤ ws.length) : layR wd ws p = (chB wd ws p).flatMap fun b => (layR wd ws b).map (p :: ·) := by
  unfold layR
  rw [layRF, if_neg (by omega), List.flatMap_def, List.flatMap_def]
  refine congrArg List.flatten (List.map_congr_left fun b hb => ?_)
  have hb' := (chB_lt W hp hb).1
  rw [layRF_fuel W _ (b + 1) b (by omega) (by omega) (by omega)]
theorem layA_layR : ∀ (m p : Nat) (e : List Int), p ≤ m → p ≤ ws.length → layA wd ws p e = (layR wd ws p).map fun r => (r.reverse.map fun (n : Nat) => (n : Int)) ++ e := by
  intro m
  induction m with
  | zero =>
    intro p e h hp
    obtain rfl : p = 0 := by omega
    rw [layA_zero, layR_zero]; rfl
  | succ m ih =>
    intro p e h hp
    rcases Nat.eq_zero_or_pos p with z | z
    · subst z; rw [layA_zero, layR_zero]; rfl
    · rw [layA_succ W z hp, layR_succ W z hp, List.map_flatMap, List.flatMap_def]
      refine congrArg List.flatten (List.map_congr_left fun b hb => ?_)
      have hb' := (chB_lt W hp hb).1
      rw [ih b _ (by omega) (by omega), List.map_map]
      refine List.map_congr_left fun r _ => ?_
      simp
theorem lays_layN : lays wd ws = (layN wd ws).map fun ns => ns.map fun (n : Nat) => (n : Int) := by
  unfold lays layN
  rw [layA_layR W _ _ _ (Nat.le_refl _) (Nat.le_refl _), List.map_map]
  exact List.map_congr_left fun r _ => by simp
/-- which ways there are ahead of the last line -/
theorem layR_mem : ∀ (m p : Nat), p ≤ m → p < ws.length → ∀ r, r ∈ layR wd ws p ↔ Lay wd ws r.reverse p ∧ fc wd ws r.reverse = C wd ws p := by
  intro m
  induction m with
  | zero =>
    intro p h hp r
    obtain rfl : p = 0 := by omega
    rw [layR_zero, List.mem_singleton]
    constructor
    · rintro rfl; exact ⟨.nil, rfl⟩
    · rintro ⟨c, _⟩; exact List.reverse_eq_nil_iff.mp c.zero
  | succ m ih =>
    intro p h hp r
    rcases Nat.eq_zero_or_pos p with z | z
    · subst z
      rw [layR_zero, List.mem_singleton]
      constructor
      · rintro rfl; exact ⟨.nil, rfl⟩
      · rintro ⟨c, _⟩; exact List.reverse_eq_nil_iff.mp c.zero
    · rw [layR_succ W z (by omega), List.mem_flatMap]
      constructor
      · rintro ⟨b, hb, hr⟩
        obtain ⟨r', hr', rfl⟩ := List.mem_map.mp hr
        have hb' := chB_lt W (by omega) hb
        obtain ⟨c, hc⟩ := (ih b (by omega) (by omega) r').mp hr'
        have hg := of_decide_eq_true (List.mem_filter.mp hb).2
        unfold szC glC at hg
        rw [if_neg (by omega), if_neg (by omega)] at hg
        rw [List.reverse_cons]
        refine ⟨.snoc c hb'.1 hb'.2, ?_⟩
        rw [fc_snoc, c.last, hc, hg]
      · rintro ⟨c, hc⟩
        obtain ⟨ms, l, e, c2, h1, h2⟩ := c.ne z
        have er : r = p :: ms.reverse := by rw [← List.reverse_reverse r, e]; simp
        subst er
        rw [e, fc_snoc, c2.last] at hc
        have o1 := (opt_full W c2 (by omega)).1
        have o2 := (CB_at W z (by omega)).2.2.2.2 l h1 h2
        have ho : C wd ws p ≤ C wd ws l + sq wd ws l p := by rcases o2 with o | o <;> omega
        refine ⟨l, List.mem_filter.mpr ⟨(bg_mem W (by omega)).mpr ⟨h1, h2⟩, decide_eq_true ?_⟩, List.mem_map.mpr ⟨ms.reverse, (ih l (by omega) (by omega) _).mpr ?_, rfl⟩⟩
        · unfold szC glC
          rw [if_neg (by omega), if_neg (by omega)]
          omega
        · rw [List.reverse_reverse]; exact ⟨c2, by omega⟩
theorem layN_mem (ns : List Nat) : ns ∈ layN wd ws ↔ Lay wd ws ns ws.length ∧ cost wd ws ns = C wd ws (LS wd ws) := by
  unfold layN
  rw [List.mem_map]
  rcases Nat.eq_zero_or_pos ws.length with z | z
  · rw [z, layR_zero]
    constructor
    · rintro ⟨r, hr, rfl⟩
      rw [List.mem_singleton.mp hr]
      refine ⟨.nil, ?_⟩
      unfold LS; rw [if_pos z]; rfl
    · rintro ⟨c, _⟩
      exact ⟨[], List.mem_singleton.mpr rfl, c.zero.symm⟩
  · obtain ⟨l1, l2, _, l3⟩ := LS_at W z
    rw [layR_succ W z (Nat.le_refl _)]
    constructor
    · rintro ⟨r, hr, rfl⟩
      obtain ⟨b, hb, hr⟩ := List.mem_flatMap.mp hr
      obtain ⟨r', hr', rfl⟩ := List.mem_map.mp hr
      have hb' := chB_lt W (Nat.le_refl _) hb
      obtain ⟨c, hc⟩ := (layR_mem W b b (Nat.le_refl _) (by omega) r').mp hr'
      have hg := of_decide_eq_true (List.mem_filter.mp hb).2
      unfold szC glC at hg
      rw [if_pos rfl, if_pos rfl] at hg
      rw [List.reverse_cons]
      refine ⟨.snoc c hb'.1 hb'.2, ?_⟩
      rw [cost_snoc, hc]; omega
    · rintro ⟨c, hc⟩
      obtain ⟨ms, l, e, c2, h1, h2⟩ := c.ne z
      subst e
      rw [cost_snoc] at hc
      have o1 := (opt_full W c2 (by omega)).1
      have o2 := l3 l h1 h2
      have ho : C wd ws (LS wd ws) ≤ C wd ws l := by rcases o2 with o | o <;> omega
      refine ⟨ws.length :: ms.reverse, List.mem_flatMap.mpr ⟨l, List.mem_filter.mpr ⟨(bg_mem W (Nat.le_refl _)).mpr ⟨h1, h2⟩, decide_eq_true ?_⟩, List.mem_map.mpr ⟨ms.reverse, (layR_mem W l l (Nat.le_refl _) h1 _).mpr ?_, rfl⟩⟩, by simp⟩
      · unfold szC glC
        rw [if_pos rfl, if_pos rfl]
        omega
      · rw [List.reverse_reverse]; exact ⟨c2, by omega⟩
omit W in
theorem bgF_desc (wd : Int) (ws : List Int) (e : Nat) : ∀ m, (bgF wd ws e m).Pairwise (· > ·) ∧ ∀ b ∈ bgF wd ws e m, b < m
  | 0 => ⟨List.Pairwise.nil, fun _ h => nomatch h⟩
  | m + 1 => by
    obtain ⟨h1, h2⟩ := bgF_desc wd ws e m
    unfold bgF
    split
    · refine ⟨List.pairwise_cons.mpr ⟨fun b hb => h2 b hb, h1⟩, fun b hb => ?_⟩
      rcases List.mem_cons.mp hb with rfl | z
      · omega
      · have := h2 b z; omega
    · exact ⟨List.Pairwise.nil, fun _ h => nomatch h⟩
omit W in
theorem chB_desc (wd : Int) (ws : List Int) (e : Nat) : (chB wd ws e).Pairwise (· > ·) := (bgF_desc wd ws e e).1.filter _
theorem layR_head {p : Nat} (h0 : 0 < p) (hp : p ≤ ws.length) {r : List Nat} (h : r ∈ layR wd ws p) : ∃ r', r = p :: r' := by
  rw [layR_succ W h0 hp] at h
  obtain ⟨b, _, hr⟩ := List.mem_flatMap.mp h
  obtain ⟨r', _, rfl⟩ := List.mem_map.mp hr
  exact ⟨r', rfl⟩
abbrev zI (r : List Nat) : List Int := r.map fun (n : Nat) => (n : Int)
theorem layR_desc : ∀ (m p : Nat), p ≤ m → p ≤ ws.length → (layR wd ws p).Pairwise fun a b => zI b < zI a := by
  intro m
  induction m with
  | zero =>
    intro p h hp
    obtain rfl : p = 0 := by omega
    rw [layR_zero]; exact List.pairwise_singleton _ _
  | succ m ih =>
    intro p h hp
    rcases Nat.eq_zero_or_pos p with z | z
    · subst z; rw [layR_zero]; exact List.pairwise_singleton _ _
    · rw [layR_succ W z hp, List.pairwise_flatMap]
      refine ⟨fun b hb => ?_, ?_⟩
      · have hb' := (chB_lt W hp hb).1
        rw [List.pairwise_map]
        refine (ih b (by omega) (by omega)).imp fun {x y} hxy => ?_
        show ((p : Int) :: zI y) < ((p : Int) :: zI x)
        exact List.cons_lt_cons_iff.mpr (.inr ⟨rfl, hxy⟩)
      · have hm : ∀ b ∈ chB wd ws p, b < p := fun b hb => (chB_lt W hp hb).1
        have hd := chB_desc wd ws p
        refine List.Pairwise.imp_of_mem (R := fun a b => a > b) (fun {b1 b2} m1 m2 hb x hx y hy => ?_) hd
        have l1 := hm b1 m1
        have l2 := hm b2 m2
        obtain ⟨x', hx', rfl⟩ := List.mem_map.mp hx
        obtain ⟨y', hy', rfl⟩ := List.mem_map.mp hy
        show ((p : Int) :: zI y') < ((p : Int) :: zI x')
        refine List.cons_lt_cons_iff.mpr (.inr ⟨rfl, ?_⟩)
        obtain ⟨x2, rfl⟩ := layR_head W (by omega) (by omega) hx'
        rcases Nat.eq_zero_or_pos b2 with z2 | z2
        · subst z2
          rw [layR_zero] at hy'
          rw [List.mem_singleton.mp hy']
          exact List.nil_lt_cons _ _
        · obtain ⟨y2, rfl⟩ := layR_head W z2 (by omega) hy'
          show ((b2 : Int) :: zI y2) < ((b1 : Int) :: zI x2)
          exact List.cons_lt_cons_iff.mpr (.inl (by omega))
omit W in
theorem rv_rev (r : List Nat) : rv r.reverse = zI r := by unfold rv; rw [List.reverse_reverse]
theorem layN_desc : (layN wd ws).Pairwise fun a b => rv b < rv a := by
  unfold layN
  rw [List.pairwise_map]
  exact (layR_desc W _ _ (Nat.le_refl _) (Nat.le_refl _)).imp fun {x y} h => by rw [rv_rev, rv_rev]; exact h
theorem layN_nodup : (layN wd ws).Nodup := (layN_desc W).imp fun {a b} h e => by subst e; exact List.lt_irrefl _ h
/-- what a list of all layouts, sorted, has -/
theorem lays_desc {fs : List (List Nat)} (hnd : fs.Nodup) (hfs : ∀ ns, ns ∈ fs ↔ Lay wd ws ns ws.length) {m : Int} (hm : m = C wd ws (LS wd ws)) :
    desc (((fs.map fun ns => (cost wd ws ns, ns)).filter fun x => decide (x.1 = m)).map (·.2)) = layN wd ws := by
  have e : (((fs.map fun ns => (cost wd ws ns, ns)).filter fun x => decide (x.1 = m)).map (·.2)) = fs.filter fun ns => decide (cost wd ws ns = m) := by
    rw [List.filter_map, List.map_map]
    exact List.map_id'' (fun _ => rfl) _
  rw [e]
  have n1 : (fs.filter fun ns => decide (cost wd ws ns = m)).Nodup := hnd.filter _
  have p1 := desc_perm (fs.filter fun ns => decide (cost wd ws ns = m))
  have n2 := p1.nodup_iff.mpr n1
  refine List.Perm.eq_of_pairwise (le := fun a b => rv b ≤ rv a) (fun a b _ _ h1 h2 => rv_inj (List.le_antisymm h2 h1)) (desc_sorted _) ((layN_desc W).imp fun {a b} h => List.le_of_lt h) ?_
  rw [List.perm_ext_iff_of_nodup n2 (layN_nodup W)]
  intro ns
  rw [p1.mem_iff, List.mem_filter, hfs, layN_mem W, hm]
  simp
theorem layR_ne {p : Nat} (hp : p ≤ ws.length) : layR wd ws p ≠ [] := fun z => by
  by_cases h : p = ws.length
  · have hb := (layN_mem W (bestLay wd ws)).mpr (best_lay W)
    unfold layN at hb
    rw [← h, z] at hb
    cases hb
  · have w := way_lay W p hp
    have := (layR_mem W p p (Nat.le_refl _) (by omega) (way wd ws p).reverse).mpr (by rw [List.reverse_reverse]; exact w)
    rw [z] at this
    cases this
theorem layR_cnt : ∀ (m p : Nat), p ≤ m → p ≤ ws.length → ((layR wd ws p).length : Int) = wyN wd ws p ∧ layM wd ws p ≤ (p + 1) * (layR wd ws p).length := by
  intro m
  induction m with
  | zero =>
    intro p h hp
    obtain rfl : p = 0 := by omega
    rw [layR_zero, wyN_zero, layM_zero]
    exact ⟨rfl, by decide⟩
  | succ m ih =>
    intro p h hp
    rcases Nat.eq_zero_or_pos p with z | z
    · subst z
      rw [layR_zero, wyN_zero, layM_zero]
      exact ⟨rfl, by decide⟩
    · have hne : 1 ≤ (layR wd ws p).length := by
        have := layR_ne W hp
        cases hl : layR wd ws p with
        | nil => exact absurd hl this
        | cons x r => rw [List.length_cons]; omega
      obtain ⟨q, rfl⟩ : ∃ q, p = q + 1 := ⟨p - 1, by omega⟩
      have key : ∀ bs : List Nat, (∀ b ∈ bs, b ≤ q) → (((bs.flatMap fun b => (layR wd ws b).map ((q + 1) :: ·)).length : Int) = (bs.map (wyN wd ws)).sum ∧ (bs.map (layM wd ws)).sum ≤ (q + 1) * (bs.flatMap fun b => (layR wd ws b).map ((q + 1) :: ·)).length) := by
        intro bs
        induction bs with
        | nil => intro _; exact ⟨rfl, Nat.zero_le _⟩
        | cons b r ihb =>
          intro hb
          obtain ⟨i1, i2⟩ := ihb fun x hx => hb x (List.mem_cons_of_mem _ hx)
          have b1 := hb b List.mem_cons_self
          obtain ⟨j1, j2⟩ := ih b (by omega) (by omega)
          rw [List.flatMap_cons, List.length_append, List.length_map, List.map_cons, List.sum_cons, List.map_cons, List.sum_cons, Nat.mul_add]
          refine ⟨by omega, ?_⟩
          have : (b + 1) * (layR wd ws b).length ≤ (q + 1) * (layR wd ws b).length := Nat.mul_le_mul_right _ (by omega)
          omega
      have hlt : ∀ b ∈ chB wd ws (q + 1), b ≤ q := fun b hb => by have := (chB_lt W hp hb).1; omega
      obtain ⟨k1, k2⟩ := key _ hlt
      rw [← layR_succ W z hp] at k1 k2
      refine ⟨by rw [k1, wyN_succ W hp], ?_⟩
      rw [layM_succ W z hp, Nat.add_mul (q + 1) 1, Nat.one_mul]
      omega
theorem layN_cnt : ((layN wd ws).length : Int) = cntB wd ws := by
  unfold layN
  rw [List.length_map, cntB_eq]
  exact (layR_cnt W _ _ (Nat.le_refl _) (Nat.le_refl _)).1
theorem layM_cnt : (layM wd ws ws.length : Int) ≤ (ws.length + 1) * cntB wd ws := by
  have h := (layR_cnt W _ _ (Nat.le_refl _) (Nat.le_refl _)).2
  have e := layN_cnt W
  unfold layN at e
  rw [List.length_map] at e
  rw [← e]
  exact_mod_cast h
end
/-! each layout is found once -/
def Apt (xs : List (List Nat)) : Prop := xs.Pairwise fun a b => ¬ a <+: b ∧ ¬ b <+: a
theorem Apt.nodup {xs : List (List Nat)} (h : Apt xs) : xs.Nodup := h.imp fun {a b} z e => by subst e; exact z.1 (List.prefix_refl _)
theorem Apt.perm {xs ys : List (List Nat)} (h : Apt xs) (p : xs.Perm ys) : Apt ys := List.Pairwise.perm h p fun {x y} z => ⟨z.2, z.1⟩
theorem Apt.next {Y : List (List Nat)} {ns : List Nat} {hs : List Nat} (h : Apt (Y ++ [ns])) (hn : hs.Nodup) : Apt (Y ++ hs.map fun x => ns ++ [x]) := by
  obtain ⟨h1, _, h3⟩ := List.pairwise_append.mp h
  refine List.pairwise_append.mpr ⟨h1, ?_, fun a ha b hb => ?_⟩
  · rw [List.pairwise_map]
    refine hn.imp fun {x y} hne => ?_
    have key : ∀ {x y : Nat}, ns ++ [x] <+: ns ++ [y] → x = y := fun {x y} z => by
      have e := List.IsPrefix.eq_of_length z (by simp)
      simpa using e
    exact ⟨fun z => hne (key z), fun z => hne (key z).symm⟩
  · obtain ⟨x, _, rfl⟩ := List.mem_map.mp hb
    have q := h3 a ha ns (List.mem_singleton.mpr rfl)
    refine ⟨fun z => ?_, fun z => q.2 ((List.prefix_append ns [x]).trans z)⟩
    rcases List.prefix_concat_iff.mp z with e | e
    · subst e; exact q.2 (List.prefix_append _ _)
    · exact q.1 e
/-- the children so far -/
def KidF (ns : List Nat) (l j : Nat) (wt0 wt : List (List Nat × Nat)) : Prop := ∃ hs : List Nat, wt = wt0 ++ hs.map (fun h => (ns ++ [h], h)) ∧ hs.Nodup ∧ ∀ h ∈ hs, l < h ∧ h ≤ l + j
theorem KidF.zero (ns : List Nat) (l : Nat) (wt0 : List (List Nat × Nat)) : KidF ns l 0 wt0 wt0 := ⟨[], (List.append_nil _).symm, List.Pairwise.nil, fun _ h => nomatch h⟩
theorem KidF.yes {ns : List Nat} {l j : Nat} {wt0 wt : List (List Nat × Nat)} (k : KidF ns l j wt0 wt) : KidF ns l (j + 1) wt0 (wt ++ [(ns ++ [l + 1 + j], l + 1 + j)]) := by
  obtain ⟨hs, rfl, h1, h2⟩ := k
  refine ⟨hs ++ [l + 1 + j], by rw [List.map_append, List.append_assoc]; rfl, ?_, fun h hh => ?_⟩
  · refine List.nodup_append.mpr ⟨h1, List.pairwise_singleton _ _, fun a ha b hb e => ?_⟩
    rw [List.mem_singleton.mp hb] at e
    have := h2 a ha
    omega
  · rcases List.mem_append.mp hh with z | z
    · have := h2 h z; omega
    · rw [List.mem_singleton.mp z]; omega
theorem KidF.no {ns : List Nat} {l j : Nat} {wt0 wt : List (List Nat × Nat)} (k : KidF ns l j wt0 wt) : KidF ns l (j + 1) wt0 wt := by
  obtain ⟨hs, e, h1, h2⟩ := k
  exact ⟨hs, e, h1, fun h hh => by have := h2 h hh; omega⟩
theorem KidF.next {n : Nat} {ns : List Nat} {l : Nat} {fs fs' : List (List Nat)} {wt0 wt : List (List Nat × Nat)} (A : Apt (fs ++ (wt0 ++ [(ns, l)]).map Prod.fst)) (k : KidF ns l (n - l) wt0 wt) (hf : (l = n ∧ fs' = fs ++ [ns]) ∨ (l ≠ n ∧ fs' = fs)) : Apt (fs' ++ wt.map Prod.fst) := by
  obtain ⟨hs, rfl, h1, h2⟩ := k
  rw [List.map_append, ← List.append_assoc] at A
  rcases hf with ⟨e, rfl⟩ | ⟨_, rfl⟩
  · have hz : hs = [] := by
      cases hs with
      | nil => rfl
      | cons x r => have := h2 x List.mem_cons_self; omega
    subst hz
    rw [List.map_nil, List.append_nil]
    refine A.perm ?_
    rw [List.append_assoc, List.append_assoc]
    exact List.Perm.append_left fs (List.perm_append_comm)
  · rw [List.map_append, ← List.append_assoc, List.map_map]
    exact A.next h1
end LM

namespace K08
open PySem PySem.Spec PyProof.Rows L2 QL
open LM
theorem sc9 : FnScope ["_law_script", "_law_spot", "_law_cell", "_law_own"] ["_law_script", "_law_spot"] (defScope (topS 10)) := ⟨rfl, rfl, rfl, by decide +kernel, rfl, by decide +kernel, by decide +kernel⟩
theorem sc10 : FnScope ["_law_pot_here", "_law_upto", "_law_digit", "_law_prime", "_law_mixed"] ["_law_pot_here", "_law_upto"] (defScope (topS 11)) := ⟨rfl, rfl, rfl, by decide +kernel, rfl, by decide +kernel, by decide +kernel⟩
section
variable {P : Program} {w : World} {K : PySem.W.Frag} {mg : Str → Option Value} {base : Heap} {Tq : List (Addr × Str)}
/-- the pot's state -/
def PotOk (n : Int) (a b c : Int) : Prop := 0 ≤ a ∧ (0 ≤ b ∧ b < 2305843009213693951) ∧ 0 ≤ c ∧ c ≤ n
abbrev potD (a b c : Int) : List D := [.int a, .int b, .int c]
def spPot (K : PySem.W.Frag) : Spc := fun ts QT _ => ∃ (a : Addr) (ns : List Int) (i : Int), ts = [scT K a ns, .va (.int i)] ∧ (0 ≤ i ∧ i ≤ 100) ∧ ns.length ≤ 63 ∧ ∀ p x y, PotOk 0 x y 0 → QT (.lst p (potD x y 0)) [some (scT K a ns), none]
theorem bits60 : CPowQ (10 ^ 60) 5 := .inr ⟨by decide, by decide +kernel⟩
theorem g_pot {f : Addr} {fd : FuncData} {k : Nat} (Fn : Fun K "_law_pot" "_law_pot" (topS 10) f fd) (m_len : mg "len" = none) (m_abs : mg "abs" = none) (m_int : mg "int" = none) : FnG P w K mg base Tq (k + 1) f fd ["_law_script", "_law_spot"] (spPot K) := by
  refine fn_g Fn sc9 (fun ts Q E h => ?_) fun cdv A outer s H E Z ts QT ET hr hgd hp tk h => ?_
  · obtain ⟨a, ns, i, rfl, _⟩ := h
    rfl
  · obtain ⟨a, ns, i, rfl, hi, hl, q⟩ := h
    have rest : ∀ m : Int, WSs Z (BX P w K mg base ["_law_script", "_law_spot", "_law_cell", "_law_own"] "_law_pot" (topS 10) f cdv A outer s H E) ((defBody (topS 10)).drop 1) [some (scT K a ns), some (.va (.int i)), some (.va (.int m)), none] (finP QT [scT K a ns, .va (.int i)]) := fun m => by
      refine wss_cons (ws_set 3 (w_bin dop_mul (w_bin dop_mod (w_callB dc_abs m_abs rfl ⟨rfl, (w_var 2 (⟨rfl, (w_bin dop_pow (w_bin dop_pow (w_int ((w_int (⟨rfl, rfl, ?pow1, (w_int (⟨rfl, rfl, ?pow2, ⟨rfl, rfl, ?mod3, (w_callTy dc_int m_int rfl ⟨rfl, (w_cmp dop_ge (w_callB dc_abs m_abs rfl ⟨rfl, (w_var 2 (⟨rfl, (w_bin dop_pow (w_int ((w_int (⟨rfl, rfl, ?pow4, ⟨rfl, rfl, ⟨rfl, ⟨rfl, rfl, ?mul5, ⟨Nat.lt_of_sub_eq_succ rfl, ?nx6⟩⟩⟩⟩⟩)))))⟩))⟩))⟩)⟩⟩))⟩))))))⟩))⟩))) sc9.nd)
      case pow1 => exact .inl ⟨by decide, by decide, by decide⟩
      case pow2 => exact bits60
      case mod3 => exact of_decide_eq_true (p := (0 : Int) < (10 ^ (60 : Int).toNat) ^ (5 : Int).toNat) (by decide +kernel)
      case pow4 => exact .inl ⟨by decide, by decide, by decide⟩
      case mul5 => exact cmul_r (by split <;> decide) (by split <;> decide)
      case nx6 =>
        refine wss_one (ws_ret (w_lst ⟨rfl, (w_var 3 (⟨rfl, (w_bin dop_mod (w_bin dop_add (w_bin dop_add (w_bin dop_mul (w_bin dop_mod (w_var 2 ((w_int (⟨rfl, rfl, ?mod1, (w_int (⟨rfl, rfl, ?mul2, (w_bin dop_mul (w_bin dop_mul (w_int ((w_var 1 (⟨rfl, rfl, ?mul3, (w_var 1 (⟨rfl, rfl, ?mul4, ⟨rfl, rfl, (w_int (⟨rfl, rfl, (w_int (⟨rfl, rfl, ?mod5, ⟨rfl, (w_int (⟨?sz6, fun p => ?ret7⟩))⟩⟩))⟩))⟩⟩))⟩))))))⟩))⟩)))))))))⟩))⟩))
        case mod1 => exact (by decide : (0 : Int) < 2305843009213693951)
        case mul2 => exact cmul_r (by decide) (by decide)
        case mul3 => exact cmul_l (by decide) (by decide)
        case mul4 => exact cmul_r (by omega) (by omega)
        case mod5 => exact (by decide : (0 : Int) < 2305843009213693907)
        case sz6 => exact Nat.le_of_lt (small2000 (n := 3) (by decide))
        case ret7 =>
          refine ⟨rfl, q p _ _ ⟨?_, ⟨Int.emod_nonneg _ (by decide), ?_⟩, Int.le_refl 0, Int.le_refl 0⟩⟩
          · refine Int.mul_nonneg (Int.emod_nonneg _ (by decide +kernel)) (by split <;> decide)
          · exact Int.lt_trans (Int.emod_lt_of_pos _ (by decide)) (by decide)
    refine wss_cons (ws_set 2 (w_ifExp (wt_cmp dop_lt (w_var 1 (w_scLen 0 m_len rfl ⟨rfl, rfl, ⟨_, rfl, fun h => ?_, fun h => ?_⟩⟩)))) sc9.nd)
    · have h1 : i < ns.length := of_decide_eq_true h
      have e : ns[i.toNat]? = some ns[i.toNat] := List.getElem?_eq_getElem (by omega)
      have ei : i = ((i.toNat : Nat) : Int) := by omega
      exact w_scIx 0 1 (m := ns[i.toNat]) rfl rfl ((congrArg (atI ns) ei).trans (atI_nat e)) ⟨Nat.lt_of_sub_eq_succ rfl, rest _⟩
    · exact w_bin dop_add (w_int (w_bin dop_mul (w_int (w_var 1 ⟨rfl, rfl, cmul_l (by decide) (by decide), ⟨rfl, rfl, ⟨Nat.lt_of_sub_eq_succ rfl, rest _⟩⟩⟩))))
def spTake : Spc := fun ts QT _ => ∃ (p : Addr) (n a b c u : Int), ts = [.lst p (potD a b c), .va (.int u)] ∧ PotOk n a b c ∧ n ≤ 1000000 ∧ (0 < u ∧ u ≤ 1000000000000) ∧ ∀ a' b' c' d, PotOk (n + 1) a' b' c' → 0 ≤ d → d < u → QT (.va (.int d)) [some (.lst p (potD a' b' c')), none]
theorem ix5 (m : Int) : ∃ d, atI [PyData.int 2147483647, .int 2147483629, .int 2147483587, .int 2147483579, .int 2147483563] (m % 5) = some (.int d) ∧ 0 < d ∧ d ≤ 2147483647 := by
  have h0 := Int.emod_nonneg m (b := 5) (by decide)
  have h1 := Int.emod_lt_of_pos m (b := 5) (by decide)
  have : m % 5 = 0 ∨ m % 5 = 1 ∨ m % 5 = 2 ∨ m % 5 = 3 ∨ m % 5 = 4 := by omega
  rcases this with e | e | e | e | e <;> rw [e] <;> exact ⟨_, rfl, by decide, by decide⟩
theorem g_take {f : Addr} {fd : FuncData} {k : Nat} (Fn : Fun K "_law_take" "_law_take" (topS 11) f fd) : FnG P w K mg base Tq (k + 1) f fd ["_law_pot_here", "_law_upto"] spTake := by
  refine fn_g Fn sc10 (fun ts Q E h => ?_) fun cdv A outer s H E Z ts QT ET hr hgd hp tk h => ?_
  · obtain ⟨p, n, a, b, c, u, rfl, _⟩ := h
    rfl
  · obtain ⟨p, n, a, b, c, u, rfl, ⟨ha, ⟨hb0, hb⟩, hc0, hc⟩, hn, ⟨hu0, hu⟩, q⟩ := h
    refine wss_cons (ws_if (wt_cmp dop_gt (w_ix (w_var 0 ((w_int (⟨rfl, rfl, _, rfl, (w_int (⟨rfl, rfl, _, rfl, ⟨fun h => ?then2, fun h => ?else3⟩⟩))⟩)))))))
    case then2 =>
      refine wss_cons (ws_set 2 (w_bin dop_mod (w_ix (w_var 0 ((w_int (⟨rfl, rfl, _, rfl, (w_var 1 (⟨rfl, rfl, hu0, ⟨Nat.lt_of_sub_eq_succ rfl, ?nxa⟩⟩))⟩)))))) sc10.nd)
      refine wss_cons (ws_setix (w_bin dop_fdiv (w_ix (w_var 0 ((w_int (⟨rfl, rfl, _, rfl, (w_var 1 (⟨rfl, rfl, ⟨hu0, by omega⟩, (w_var 0 (⟨_, _, _, rfl, (w_int (⟨_, rfl, _, _, 0, rfl, rfl, rfl, ?nxb⟩))⟩))⟩))⟩)))))))
      refine wss_one (ws_ret (w_var 2 ?_))
      have ha' : 0 ≤ a / u := Int.ediv_nonneg ha (Int.le_of_lt hu0)
      exact ⟨rfl, q _ _ _ _ ⟨ha', ⟨hb0, hb⟩, hc0, by omega⟩ (Int.emod_nonneg _ (by omega)) (Int.emod_lt_of_pos _ hu0)⟩
    case else3 =>
      refine wss_nil ?_
      refine wss_cons (ws_setix (w_bin dop_add (w_ix (w_var 0 ((w_int (⟨rfl, rfl, _, rfl, (w_int (⟨rfl, rfl, (w_var 0 (⟨_, _, _, rfl, (w_int (⟨_, rfl, _, _, 2, rfl, rfl, rfl, ?nxc⟩))⟩))⟩))⟩)))))))
      obtain ⟨pr, hpr, hp0, hp1⟩ := ix5 (c + 1)
      refine wss_cons (ws_set 3 (w_ix (w_lst ⟨rfl, (w_int (⟨rfl, (w_int (⟨rfl, (w_int (⟨rfl, (w_int (⟨rfl, (w_int (⟨Nat.le_of_lt (small2000 (n := 5) (by decide)), fun p => (w_bin dop_mod (w_ix (w_var 0 ((w_int (⟨rfl, rfl, _, rfl, (w_int (⟨rfl, rfl, (by decide : (0 : Int) < 5), ⟨rfl, rfl, _, hpr, ⟨Nat.lt_of_sub_eq_succ rfl, ?nxd⟩⟩⟩))⟩))))))⟩))⟩))⟩))⟩))⟩))⟩)) sc10.nd)
      refine wss_cons (ws_set 4 (w_bin dop_mod (w_bin dop_pow (w_bin dop_add (w_bin dop_add (w_ix (w_var 0 ((w_int (⟨rfl, rfl, _, rfl, (w_bin dop_mul (w_bin dop_mul (w_int ((w_ix (w_var 0 ((w_int (⟨rfl, rfl, _, rfl, ⟨rfl, rfl, ?mulA, (w_ix (w_var 0 ((w_int (⟨rfl, rfl, _, rfl, ⟨rfl, rfl, ?mulB, ⟨rfl, rfl, (w_int (⟨rfl, rfl, (w_int (⟨rfl, rfl, ?pow6, (w_var 3 (⟨rfl, rfl, hp0, ⟨Nat.lt_of_sub_eq_succ rfl, ?nx8⟩⟩))⟩))⟩))⟩⟩⟩)))))⟩⟩)))))))))⟩))))))))) sc10.nd)
      case mulA => exact cmul_l (by decide) (by decide)
      case mulB => exact cmul_r (by omega) (by omega)
      case pow6 =>
        have h1 : 65537 * (c + 1) * (c + 1) ≤ 65537 * 1000001 * 1000001 := Int.mul_le_mul (by omega) (by omega) (by omega) (by decide)
        have h2 : 0 ≤ 65537 * (c + 1) * (c + 1) := Int.mul_nonneg (by omega) (by omega)
        refine .inl ⟨by decide, by decide, ?_⟩
        have h3 : 0 ≤ b + 65537 * (c + 1) * (c + 1) + 41 := by omega
        have h4 : b + 65537 * (c + 1) * (c + 1) + 41 < 2 ^ 64 := by omega
        omega
      case nx8 =>
        have m0 := Int.emod_nonneg ((b + 65537 * (c + 1) * (c + 1) + 41) ^ (3 : Int).toNat) (b := pr) (by omega)
        have m1 := Int.emod_lt_of_pos ((b + 65537 * (c + 1) * (c + 1) + 41) ^ (3 : Int).toNat) hp0
        refine wss_one (ws_ret (w_bin dop_mod (w_bin dop_fdiv (w_bin dop_mod (w_bin dop_mul (w_var 4 ((w_bin dop_add (w_bin dop_mod (w_var 4 ((w_int (⟨rfl, rfl, (by decide : (0 : Int) < 10007), (w_bin dop_mul (w_int ((w_ix (w_var 0 ((w_int (⟨rfl, rfl, _, rfl, ⟨rfl, rfl, ?mul3, ⟨rfl, rfl, ⟨rfl, rfl, ?mul4, (w_int (⟨rfl, rfl, (by decide : (0 : Int) < 2305843009213693921), (w_int (⟨rfl, rfl, ⟨by decide, by decide⟩, (w_var 1 (⟨rfl, rfl, hu0, ?ret8⟩))⟩))⟩))⟩⟩⟩⟩))))))))⟩)))))))))))))
        case mul3 => exact cmul_l (by decide) (by decide)
        case mul4 => exact cmul_l (Int.lt_of_lt_of_le (by decide) m0) (Int.lt_trans m1 (Int.lt_of_le_of_lt hp1 (by decide)))
        case ret8 => exact ⟨rfl, q _ _ _ _ ⟨ha, ⟨hb0, hb⟩, by omega, by omega⟩ (Int.emod_nonneg _ (by omega)) (Int.emod_lt_of_pos _ hu0)⟩
end

theorem sc12 : FnScope ["_law_pot_here", "_law_wide", "_law_most", "_law_way", "_law_count", "_law_turn", "_law_some"] ["_law_pot_here", "_law_wide", "_law_most"] (defScope (topS 13)) := ⟨rfl, rfl, rfl, by decide +kernel, rfl, by decide +kernel, by decide +kernel⟩
section
variable {P : Program} {w : World} {K : PySem.W.Frag} {mg : Str → Option Value} {base : Heap} {Tq : List (Addr × Str)}
theorem PotOk.le {n m a b c : Int} (h : PotOk n a b c) (l : n ≤ m) : PotOk m a b c := ⟨h.1, h.2.1, h.2.2.1, Int.le_trans h.2.2.2 l⟩
/-- a row of words drawn -/
def Row (wd : Int) (ws : List Int) : Prop := ∀ x ∈ ws, 1 ≤ x ∧ x ≤ wd
theorem Row.snoc {wd x : Int} {ws : List Int} (h : Row wd ws) (h1 : 1 ≤ x) (h2 : x ≤ wd) : Row wd (ws ++ [x]) := fun y hy => (List.mem_append.mp hy).elim (h y) fun z => by rw [List.mem_singleton.mp z]; exact ⟨h1, h2⟩
def spRow : Spc := fun ts QT _ => ∃ (p : Addr) (n a b c wd mo : Int), ts = [.lst p (potD a b c), .va (.int wd), .va (.int mo)] ∧ PotOk n a b c ∧ n ≤ 900000 ∧ (1 ≤ wd ∧ wd ≤ 1000000000) ∧ (0 ≤ mo ∧ mo ≤ 1000) ∧
  ∀ a' b' c' ws, PotOk (n + mo + 4) a' b' c' → (ws.length : Int) ≤ mo → Row wd ws → QT (.va (.tuple (iDs ws))) [some (.lst p (potD a' b' c')), none, none]
abbrev N12 : List Str := ["_law_pot_here", "_law_wide", "_law_most", "_law_way", "_law_count", "_law_turn", "_law_some"]
theorem g_row {f : Addr} {fd : FuncData} {k : Nat} (Fn : Fun K "_law_row" "_law_row" (topS 13) f fd) (G__law_take : Df P w K mg base Tq (k + 1) "_law_take" ["_law_pot_here", "_law_upto"] spTake) (m_tuple : mg "tuple" = none) (m_range : mg "range" = none) (m_min : mg "min" = none) :
    FnG P w K mg base Tq (k + 2) f fd ["_law_pot_here", "_law_wide", "_law_most"] spRow := by
  refine fn_g Fn sc12 (fun ts Q E h => ?_) fun cdv A outer s H E Z ts QT ET hr hgd hp tk h => ?_
  · obtain ⟨p, n, a, b, c, wd, mo, rfl, _⟩ := h
    rfl
  · obtain ⟨p, n, a, b, c, wd, mo, rfl, hpot, hn, ⟨hw1, hw2⟩, ⟨hm0, hm1⟩, q⟩ := h
    refine wss_cons (ws_asg (pg_tup (n := 2) rfl (pgs_cons (pg_name (i := 3) sc12.nd rfl (Or.inr rfl)) (pgs_cons (pg_name (i := 4) sc12.nd rfl (Or.inl rfl)) pgs_nil))) (gok_tup (gsok_cons (gok_name 3) (gsok_cons (gok_name 4) gsok_nil))) (w_tup ⟨rfl, (w_fn G__law_take hr hgd ⟨rfl, (w_var 0 (⟨rfl, (w_int (?call1a))⟩))⟩)⟩))
    refine ⟨rfl, p, n, a, b, c, 5, rfl, hpot, by omega, ⟨by decide, by decide⟩, fun a1 b1 c1 way hpot1 hy0 hy1 => ⟨rfl, rfl, rfl, (w_fn G__law_take hr hgd ⟨rfl, (w_var 0 (⟨rfl, (w_bin dop_add (w_var 2 ((w_int (⟨rfl, rfl, ?call1b⟩)))))⟩))⟩)⟩⟩
    refine ⟨rfl, p, n + 1, a1, b1, c1, mo + 1, rfl, hpot1, by omega, ⟨by omega, by omega⟩, fun a2 b2 c2 cnt hpot2 hc0 hc1 => ⟨rfl, rfl, Nat.le_of_lt (small2000 (n := 2) (by decide)), _, rfl, rfl, Nat.lt_of_sub_eq_succ rfl, Nat.lt_of_sub_eq_succ rfl, rfl, ?nx1c⟩⟩
    have hcn : ((cnt.toNat : Nat) : Int) = cnt := by omega
    -- a comprehension over range(count) whose element is a word drawn with one draw or none
    have lc : ∀ (some6 : Option T) (PR : R → QL.Env → Prop) (e1 : QL.Env) (elt : Expr) (scope : Scope),
        (∀ (s2 : Shared) (H2 : Hp) (C : Addr) (cl : List (Str × Addr)) (fp : List Addr) (j : Nat) (x y z : Int) (K2 : QL.A → QL.Env → Prop), PotOk (n + 2 + 2 + j) x y z → j < cnt.toNat →
          (∀ x' y' z' d, PotOk (n + 2 + 2 + (j + 1 : Nat)) x' y' z' → 1 ≤ d → d ≤ wd → K2 (.va (.int d)) [some (.lst p (potD x' y' z')), some (.va (.int wd)), some (.va (.int mo)), some (.va (.int way)), some (.va (.int cnt)), some (.va (.int (0 + (j : Int)))), some6]) →
          WA Z ((BX P w K mg base N12 "_law_row" (topS 13) f cdv A outer s H E).blk s2 H2 scope (compEnvC scope cl C (BX P w K mg base N12 "_law_row" (topS 13) f cdv A outer s H E).env) fp) elt [some (.lst p (potD x y z)), some (.va (.int wd)), some (.va (.int mo)), some (.va (.int way)), some (.va (.int cnt)), some (.va (.int (0 + (j : Int)))), some6] K2) →
        (∃ x y z, PotOk (n + 2 + 2) x y z ∧ wipeE e1 [5] = [some (.lst p (potD x y z)), some (.va (.int wd)), some (.va (.int mo)), some (.va (.int way)), some (.va (.int cnt)), none, some6]) →
        (∀ (ws : List Int) x y z, ws.length = cnt.toNat → Row wd ws → PotOk (n + 2 + 2 + cnt.toNat) x y z → ∀ q, PR (.t (.lst q (iDs ws))) [some (.lst p (potD x y z)), some (.va (.int wd)), some (.va (.int mo)), some (.va (.int way)), some (.va (.int cnt)), none, some6]) →
        LcI Z (BX P w K mg base N12 "_law_row" (topS 13) f cdv A outer s H E) scope (fName 5) elt [5] (fun e k => k true e) PR (rangeD 0 cnt.toNat) e1 := by
      intro some6 PR e1 elt scope hel h0 hend
      obtain ⟨x0, y0, z0, hp0, he0⟩ := h0
      refine ⟨fun j acc e => ∃ x y z ws, PotOk (n + 2 + 2 + j) x y z ∧ acc = iDs ws ∧ ws.length = j ∧ Row wd ws ∧ e = [some (.lst p (potD x y z)), some (.va (.int wd)), some (.va (.int mo)), some (.va (.int way)), some (.va (.int cnt)), none, some6], ⟨x0, y0, z0, [], hp0.le (by omega), rfl, rfl, fun _ z => (nomatch z), he0⟩, ?_, ?_⟩
      · rintro j d acc e hd ⟨x, y, z, ws, hp1, rfl, hl, hr1, rfl⟩
        obtain ⟨rfl, hj⟩ := rangeD_at hd
        refine ⟨Nat.lt_of_sub_eq_succ rfl, fun _ => ?_, fun z => nomatch z⟩
        intro s2 H2 C cl fp
        refine hel s2 H2 C cl fp j x y z _ hp1 hj fun x' y' z' d hp2 d1 d2 => ⟨by rw [List.length_map, hl]; exact small2000 (by omega), x', y', z', ws ++ [d], hp2, by simp [iDs], by rw [List.length_append, hl]; rfl, hr1.snoc d1 d2, rfl⟩
      · rintro acc e ⟨x, y, z, ws, hp1, rfl, hl, hr1, rfl⟩ q
        rw [rangeD_len] at hl hp1
        exact hend ws x y z hl hr1 hp1 q
    have fin : ∀ (ws : List Int) x y z, ws.length = cnt.toNat → Row wd ws → PotOk (n + 2 + 2 + cnt.toNat) x y z → QT (.va (.tuple (iDs ws))) [some (.lst p (potD x y z)), none, none] := fun ws x y z hl hr1 hp1 =>
      q x y z ws (hp1.le (by omega)) (by omega) hr1
    refine wss_cons (ws_if (wt_cmp (dop_eq (room64 hr)) (w_var 3 ((w_int (⟨rfl, rfl, _, rfl, ⟨fun h => ?then2a, fun h => ?else2b⟩⟩))))))
    case then2a =>
      refine wss_one (ws_ret (w_callTy dc_tuple m_tuple rfl ⟨rfl, w_lc (own := [("_law_turn", 5)]) rfl sc12.nd (blkOk_by (N := N12) (sc := defScope (topS 13)) (by decide +kernel)) (fun _ _ _ _ _ => pg_name (i := 5) sc12.nd rfl (Or.inl rfl)) (gok_name 5) (by decide) (wi_range1 m_range ⟨rfl, w_var 4 ⟨rfl, ⟨by omega, by omega⟩, lc none _ _ _ _ ?el1 ⟨a2, b2, c2, hpot2.le (by omega), rfl⟩ ?en1⟩⟩)⟩))
      case en1 => exact fun ws x y z hl hr1 hp1 q => ⟨rfl, rfl, fin ws x y z hl hr1 hp1⟩
      case el1 =>
        intro s2 H2 C cl fp j x y z K2 hp1 hj hk
        refine (w_bin dop_sub (w_var 1 (w_fn G__law_take hr hgd ⟨rfl, w_var 0 ⟨rfl, (w_callB (dc_min2 rfl) m_min rfl ⟨rfl, (w_var 1 (⟨rfl, (w_int (⟨rfl, ⟨rfl, ?call3⟩⟩))⟩))⟩)⟩⟩)))
        refine ⟨rfl, p, _, x, y, z, min wd 3, rfl, hp1, by omega, ⟨by omega, by omega⟩, fun x' y' z' d hp2 d0 d1 => ⟨rfl, rfl, rfl, rfl, hk x' y' z' _ (hp2.le (by omega)) (by omega) (by omega)⟩⟩
    case else2b =>
      refine wss_nil ?_
      refine wss_cons (ws_if (wt_cmp dop_gt (w_var 3 ((w_int (⟨rfl, rfl, _, rfl, ⟨fun h => ?then4a, fun h => ?else4b⟩⟩))))))
      case then4a =>
        have hway : way = 3 ∨ way = 4 := by have := of_decide_eq_true h; omega
        refine wss_cons (ws_set 6 (w_lst ⟨rfl, (w_bin dop_add (w_int ((w_fn G__law_take hr hgd ⟨rfl, (w_var 0 (⟨rfl, (w_callB (dc_min2 rfl) m_min rfl ⟨rfl, (w_var 1 (⟨rfl, (w_int (⟨rfl, ⟨rfl, ?call5a⟩⟩))⟩))⟩)⟩))⟩))))⟩) sc12.nd)
        refine ⟨rfl, p, _, a2, b2, c2, min wd 6, rfl, hpot2, by omega, ⟨by omega, by omega⟩, fun a3 b3 c3 d3 hpot3 d30 d31 => ⟨rfl, rfl, rfl, rfl, ⟨rfl, (w_bin dop_add (w_int ((w_fn G__law_take hr hgd ⟨rfl, (w_var 0 (⟨rfl, (w_var 1 (?call5b))⟩))⟩))))⟩⟩⟩
        refine ⟨rfl, p, _, a3, b3, c3, wd, rfl, hpot3, by omega, ⟨by omega, by omega⟩, fun a4 b4 c4 d4 hpot4 d40 d41 => ⟨rfl, rfl, rfl, rfl, ⟨Nat.le_of_lt (small2000 (n := 2) (by decide)), fun p6 => ⟨Nat.lt_of_sub_eq_succ rfl, ?nx5d⟩⟩⟩⟩
        refine wss_one (ws_ret (w_callTy dc_tuple m_tuple rfl ⟨rfl, w_lc (own := [("_law_turn", 5)]) rfl sc12.nd (blkOk_by (N := N12) (sc := defScope (topS 13)) (by decide +kernel)) (fun _ _ _ _ _ => pg_name (i := 5) sc12.nd rfl (Or.inl rfl)) (gok_name 5) (by decide) (wi_range1 m_range ⟨rfl, w_var 4 ⟨rfl, ⟨by omega, by omega⟩, lc (some (.lst p6 [.int (1 + d3), .int (1 + d4)])) _ _ _ _ ?el2 ⟨a4, b4, c4, hpot4.le (by omega), rfl⟩ ?en2⟩⟩)⟩))
        case en2 => exact fun ws x y z hl hr1 hp1 q => ⟨rfl, rfl, fin ws x y z hl hr1 hp1⟩
        case el2 =>
          intro s2 H2 C cl fp j x y z K2 hp1 hj hk
          have at2 : ∃ v, atI [PyData.int (1 + d3), .int (1 + d4)] ((0 + (j : Int)) % (way - 2)) = some (.int v) ∧ 1 ≤ v ∧ v ≤ wd := by
            have h0 := Int.emod_nonneg (0 + (j : Int)) (b := way - 2) (by omega)
            have h1 := Int.emod_lt_of_pos (0 + (j : Int)) (b := way - 2) (by omega)
            have : (0 + (j : Int)) % (way - 2) = 0 ∨ (0 + (j : Int)) % (way - 2) = 1 := by omega
            rcases this with e | e <;> rw [e]
            · exact ⟨1 + d3, rfl, by omega, by omega⟩
            · exact ⟨1 + d4, rfl, by omega, by omega⟩
          obtain ⟨v, hv, hv1, hv2⟩ := at2
          refine w_ix (w_var 6 (w_bin dop_mod (w_var 5 (w_bin dop_sub (w_var 3 (w_int ⟨rfl, rfl, ⟨rfl, rfl, (show (0 : Int) < way - 2 by omega), ⟨rfl, rfl, _, hv, ?_⟩⟩⟩))))))
          exact hk x y z v (hp1.le (by omega)) hv1 hv2
      case else4b =>
        refine wss_nil ?_
        refine wss_one (ws_ret (w_callTy dc_tuple m_tuple rfl ⟨rfl, w_lc (own := [("_law_turn", 5)]) rfl sc12.nd (blkOk_by (N := N12) (sc := defScope (topS 13)) (by decide +kernel)) (fun _ _ _ _ _ => pg_name (i := 5) sc12.nd rfl (Or.inl rfl)) (gok_name 5) (by decide) (wi_range1 m_range ⟨rfl, w_var 4 ⟨rfl, ⟨by omega, by omega⟩, lc none _ _ _ _ ?el3 ⟨a2, b2, c2, hpot2.le (by omega), rfl⟩ ?en3⟩⟩)⟩))
        case en3 => exact fun ws x y z hl hr1 hp1 q => ⟨rfl, rfl, fin ws x y z hl hr1 hp1⟩
        case el3 =>
          intro s2 H2 C cl fp j x y z K2 hp1 hj hk
          refine w_bin dop_add (w_int (w_fn G__law_take hr hgd ⟨rfl, w_var 0 ⟨rfl, w_ifExp (wt_cmp (dop_eq (room64 hr)) (w_var 3 ((w_int (⟨rfl, rfl, _, rfl, ⟨fun h => w_var 1 ?call7a, fun h => (w_callB (dc_min2 rfl) m_min rfl ⟨rfl, (w_var 1 (⟨rfl, (w_int (⟨rfl, ⟨rfl, ?call7b⟩⟩))⟩))⟩)⟩⟩)))))⟩⟩))
          · exact ⟨rfl, p, _, x, y, z, wd, rfl, hp1, by omega, ⟨by omega, by omega⟩, fun x' y' z' d hp2 d0 d1 => ⟨rfl, rfl, rfl, rfl, hk x' y' z' _ (hp2.le (by omega)) (by omega) (by omega)⟩⟩
          · exact ⟨rfl, p, _, x, y, z, min wd 3, rfl, hp1, by omega, ⟨by omega, by omega⟩, fun x' y' z' d hp2 d0 d1 => ⟨rfl, rfl, rfl, rfl, hk x' y' z' _ (hp2.le (by omega)) (by omega) (by omega)⟩⟩

end
end K08

/-! QTSN: data of small ints and booleans, of up to 40000 nodes: its text is no longer than a line. -/
namespace QL
open PySem PySem.Spec PyProof.Rows L2
mutual
/-- no text, no dict; ints below 2 ** 30 -/
def tinyD : D → Bool
  | .list xs => tinyA xs
  | .tuple xs => tinyA xs
  | .int i => decide (i.natAbs < 2 ^ 30)
  | .none => true
  | .bool _ => true
  | _ => false
def tinyA : List D → Bool
  | [] => true
  | x :: xs => tinyD x && tinyA xs
end
theorem tiny_int {i : Int} (h : i.natAbs < 2 ^ 30) : (PyData.shown (.int i)).length ≤ 13 ∧ (PyData.int i).weight ≤ 30 ∧ i.natAbs.log2 < 1920 := by
  have l : i.natAbs.log2 < 30 := by
    by_cases z : i.natAbs = 0
    · rw [z]; decide
    · exact (Nat.log2_lt z).mpr h
  refine ⟨PyData.shown_int_le (Nat.lt_trans h (by decide)), ?_, by omega⟩
  show (if i == 0 then 0 else i.natAbs.log2 + 1) ≤ 30
  split <;> omega
mutual
theorem tiny_sm : ∀ d : D, tinyD d = true → d.leavesShort 13 = true ∧ d.weight + 1 ≤ 32 * nodes d ∧ d.showable = true ∧ d.hasDict = false ∧ d.canLay0 = true
  | .none, _ => ⟨rfl, (by decide : 0 + 1 ≤ 32 * 1), rfl, rfl, rfl⟩
  | .bool _, _ => ⟨rfl, (by decide : 0 + 1 ≤ 32 * 1), rfl, rfl, rfl⟩
  | .int i, h => by
    obtain ⟨h1, h2, h3⟩ := tiny_int (of_decide_eq_true (by simpa only [tinyD] using h))
    exact ⟨by simp only [PyData.leavesShort, decide_eq_true_eq]; exact h1, (by simp only [nodes]; omega), by simp only [PyData.showable, decide_eq_true_eq]; exact h3, rfl, rfl⟩
  | .str _, h => by simp [tinyD] at h
  | .dict _, h => by simp [tinyD] at h
  | .list xs, h => by
    obtain ⟨h1, h2, h3, h4, h5⟩ := tiny_smA xs (by simpa only [tinyD] using h)
    exact ⟨by simpa only [PyData.leavesShort] using h1, by simp only [PyData.weight, nodes]; omega, by simpa only [PyData.showable] using h3, by simpa only [PyData.hasDict] using h4, by simpa only [PyData.canLay0] using h5⟩
  | .tuple xs, h => by
    obtain ⟨h1, h2, h3, h4, h5⟩ := tiny_smA xs (by simpa only [tinyD] using h)
    exact ⟨by simpa only [PyData.leavesShort] using h1, by simp only [PyData.weight, nodes]; omega, by simpa only [PyData.showable] using h3, by simpa only [PyData.hasDict] using h4, by simpa only [PyData.canLay0] using h5⟩
theorem tiny_smA : ∀ ds : List D, tinyA ds = true → PyData.leavesShortAll 13 ds = true ∧ PyData.weightAll ds ≤ 32 * nodesA ds ∧ PyData.showableAll ds = true ∧ PyData.hasDictAll ds = false ∧ PyData.canLayAll0 ds = true
  | [], _ => ⟨rfl, Nat.zero_le _, rfl, rfl, rfl⟩
  | d :: ds, h => by
    simp only [tinyA, Bool.and_eq_true] at h
    obtain ⟨h1, h2, h3, h4, h5⟩ := tiny_sm d h.1
    obtain ⟨g1, g2, g3, g4, g5⟩ := tiny_smA ds h.2
    have np : 1 ≤ nodes d := by cases d <;> simp only [nodes] <;> omega
    exact ⟨by simp only [PyData.leavesShortAll, h1, g1, Bool.and_self], by simp only [PyData.weightAll, nodesA]; omega, by simp only [PyData.showableAll, h3, g3, Bool.and_self], by simp only [PyData.hasDictAll, h4, g4, Bool.or_self], by simp only [PyData.canLayAll0, h5, g5, Bool.and_self]⟩
end
/-- small data: nodes, depth -/
structure Tiny (n k : Nat) (d : D) : Prop where
  sm : tinyD d = true
  nd : nodes d ≤ n
  dp : d.depth ≤ k
structure TinyA (n k : Nat) (ds : List D) : Prop where
  sm : tinyA ds = true
  nd : nodesA ds ≤ n
  dp : PyData.depthAll ds ≤ k
theorem Tiny.show {n k : Nat} {d : D} (h : Tiny n k d) (hn : n ≤ 32000) (hk : k ≤ 60) : showOk0 d := by
  obtain ⟨h1, h2, h3, h4, _⟩ := tiny_sm d h.sm
  have := h.nd
  have := h.dp
  exact ⟨h4, h3, by omega, PyData.shown_fits (by decide) (by decide) h1 (by omega)⟩
theorem Tiny.shaped {n k : Nat} {d : D} (h : Tiny n k d) (hk : k ≤ 60) : SeqAt.shaped d = true := by
  obtain ⟨h1, h2, h3, h4, h5⟩ := tiny_sm d h.sm
  have := h.dp
  unfold SeqAt.shaped
  rw [h5, decide_eq_true (by omega)]
  rfl
theorem Tiny.le {n k n' k' : Nat} {d : D} (h : Tiny n k d) (hn : n ≤ n') (hk : k ≤ k') : Tiny n' k' d := ⟨h.sm, Nat.le_trans h.nd hn, Nat.le_trans h.dp hk⟩
theorem tiny_i {i : Int} (h : -1000000000 ≤ i ∧ i ≤ 1000000000) : Tiny 1 0 (.int i) := ⟨decide_eq_true (by have : (2 : Nat) ^ 30 = 1073741824 := (by decide); omega), Nat.le_refl _, Nat.le_refl _⟩
theorem TinyA.nil : TinyA 0 0 [] := ⟨rfl, Nat.le_refl _, Nat.le_refl _⟩
theorem TinyA.cons {n m k : Nat} {d : D} {ds : List D} (h : Tiny n k d) (t : TinyA m k ds) : TinyA (n + m) k (d :: ds) :=
  ⟨by simp only [tinyA, h.sm, t.sm, Bool.and_self], by have := h.nd; have := t.nd; simp only [nodesA]; omega, by have := h.dp; have := t.dp; simp only [PyData.depthAll]; omega⟩
theorem Tiny.cons {n m k : Nat} {d : D} {ds : List D} (h : Tiny n k d) (t : TinyA m k ds) : TinyA (n + m) k (d :: ds) := TinyA.cons h t
theorem TinyA.le {n k n' k' : Nat} {ds : List D} (h : TinyA n k ds) (hn : n ≤ n') (hk : k ≤ k') : TinyA n' k' ds := ⟨h.sm, Nat.le_trans h.nd hn, Nat.le_trans h.dp hk⟩
theorem TinyA.lst {n k : Nat} {ds : List D} (h : TinyA n k ds) : Tiny (n + 1) (k + 1) (.list ds) := ⟨h.sm, by have := h.nd; simp only [nodes]; omega, by have := h.dp; simp only [PyData.depth]; omega⟩
theorem TinyA.tup {n k : Nat} {ds : List D} (h : TinyA n k ds) : Tiny (n + 1) (k + 1) (.tuple ds) := ⟨h.sm, by have := h.nd; simp only [nodes]; omega, by have := h.dp; simp only [PyData.depth]; omega⟩
theorem tinyA_of {n k : Nat} : ∀ {ds : List D}, (∀ d ∈ ds, Tiny n k d) → TinyA (n * ds.length) k ds
  | [], _ => ⟨rfl, Nat.zero_le _, Nat.zero_le _⟩
  | d :: ds, h => by
    have := TinyA.cons (h d List.mem_cons_self) (tinyA_of (ds := ds) fun x hx => h x (List.mem_cons_of_mem _ hx))
    exact this.le (by rw [List.length_cons, Nat.mul_add]; omega) (Nat.le_refl _)
theorem TinyA.map {n k : Nat} {α : Type} {f : α → D} {xs : List α} (h : ∀ x ∈ xs, Tiny n k (f x)) : TinyA (n * xs.length) k (xs.map f) := by
  have := tinyA_of (ds := xs.map f) (n := n) (k := k) fun d hd => by
    obtain ⟨x, hx, rfl⟩ := List.mem_map.mp hd
    exact h x hx
  rwa [List.length_map] at this
end QL

namespace K08
open PySem PySem.Spec PyProof.Rows L2 QL
open LM
def spLen : Spc := fun ts QT _ => ∃ (ws : List Int) (i j : Nat), ts = [.va (.tuple (iDs ws)), .va (.int i), .va (.int j)] ∧ i ≤ j ∧ j ≤ ws.length ∧ QT (.va (.int (ln ws i j))) [none, none, none]
theorem lenL_eq (ws : List Int) (i j : Nat) (h1 : i ≤ j) (h2 : j ≤ ws.length) : ((ws.drop i).take (j - i)).sum + j - i - 1 = ln ws i j := by
  unfold ln
  rw [sm_eq ws (j := i) (by omega), sm_eq ws h2]
  have e : ws.take j = ws.take i ++ (ws.drop i).take (j - i) := by
    have : j = i + (j - i) := by omega
    conv => lhs; rw [this, List.take_add]
  rw [e, List.sum_append]
  omega
def spSq2 : Spc := fun ts QT _ => ∃ (wd : Int) (ws : List Int) (ns : List Nat) (l : Nat), ts = [.va (.int wd), .va (.tuple (iDs ws)), .va (tN ns)] ∧ Wd wd ws ∧ Lay wd ws ns l ∧ l ≤ ws.length ∧ ∀ p, QT (.lst p (iDs (sqsN wd ws ns))) [none, none, none]
theorem wt_shaped {wd : Int} {ws : List Int} {wt : List (List Nat × Nat)} (g : ∀ p ∈ wt, Lay wd ws p.1 p.2 ∧ p.2 ≤ ws.length) (hn : ws.length ≤ 1000) : SeqAt.shaped (.list (wtD wt)) = true := by
  refine shaped_sm ?_ ?_
  · simp only [smallD]
    exact smallA_map fun p hp => (tN_small (g p hp).1 (Nat.le_trans (g p hp).2 hn)).1
  · have : PyData.depthAll (wtD wt) ≤ 1 := depthAll_map fun p hp => (tN_small (g p hp).1 (Nat.le_trans (g p hp).2 hn)).2
    simp only [PyData.depth]
    omega
theorem cut_last (ns : List Nat) : QL.cutD (nDs ns) none (some (-1)) = nDs ns.dropLast := QL.cut_dropLast _ ns
abbrev enP (p : Nat × Nat) : D := .tuple [.int (p.1 : Int), .int (p.2 : Int)]
theorem zip_lines (ns : List Nat) : zipD ([PyData.int 0] ++ QL.cutD (nDs ns) none (some (-1))) (nDs ns) = (prsN ns).map enP := by
  rw [cut_last]
  unfold zipD prsN
  have e : [PyData.int 0] ++ nDs ns.dropLast = nDs (0 :: ns.dropLast) := rfl
  rw [e, List.zip_map, List.map_map]
  rfl
def spPlansN : Spc := fun ts QT _ => ∃ (wd : Int) (ws : List Int), ts = [.va (.int wd), .va (.tuple (iDs ws))] ∧ Wd wd ws ∧ ws.length ≤ 15 ∧ ∀ (p : Addr) (fs : List (List Nat)), (∀ ns, ns ∈ fs ↔ Lay wd ws ns ws.length) → fs.length ≤ 2 ^ ws.length → fs.Nodup → QT (.lst p (fs.map tN)) [none, none]
section
variable {P : Program} {w : World} {K : PySem.W.Frag} {mg : Str → Option Value} {base : Heap} {Tq : List (Addr × Str)}
abbrev N__law_length : List Str := ["_law_row_here", "_law_low", "_law_high"]
theorem sc__law_length : FnScope N__law_length ["_law_row_here", "_law_low", "_law_high"] (defScope (topS 14)) := ⟨rfl, rfl, rfl, by decide +kernel, rfl, by decide +kernel, by decide +kernel⟩
theorem g__law_length {f : Addr} {fd : FuncData} {k : Nat} (Fn : Fun K "_law_length" "_law_length" (topS 14) f fd) (m_sum : mg "sum" = none) : FnG P w K mg base Tq (k + 1) f fd ["_law_row_here", "_law_low", "_law_high"] spLen := by
  refine fn_g Fn sc__law_length (fun ts Q E h => ?_) fun cdv A outer s H E Z ts QT ET hr hgd hp tk h => ?_
  · obtain ⟨ws, i, j, rfl, hi, hj, q⟩ := h; rfl
  · obtain ⟨ws, i, j, rfl, hi, hj, q⟩ := h
    -- line 99
    refine wss_one (ws_ret (w_bin dop_sub (w_bin dop_sub (w_bin dop_add (w_callB (dc_sumA rfl) m_sum rfl ⟨rfl, (w_sl (w_var 0 (w_var 1 ⟨_, rfl, (w_var 2 ⟨_, rfl, ⟨rfl, ⟨rfl, ⟨_, (.inr (congrArg (fun z => [PyData.tuple z]) (cut_nat PyData.int ws i j (by omega) hj))), (w_var 2 ⟨rfl, rfl, (w_var 1 ⟨rfl, rfl, (w_int ⟨rfl, rfl, ?_⟩)⟩)⟩)⟩⟩⟩⟩)⟩)))⟩)))))
    · show QT (.va (.int (((ws.drop i).take (j - i)).sum + (j : Int) - (i : Int) - 1))) _
      rw [lenL_eq ws i j hi hj]; exact q
abbrev N__law_plans : List Str := ["_law_wide", "_law_row_here", "_law_found", "_law_waiting", "_law_ends", "_law_low", "_law_high"]
theorem sc__law_plans : FnScope N__law_plans ["_law_wide", "_law_row_here"] (defScope (topS 15)) := ⟨rfl, rfl, rfl, by decide +kernel, rfl, by decide +kernel, by decide +kernel⟩
theorem g__law_plans {f : Addr} {fd : FuncData} {k : Nat} (Fn : Fun K "_law_plans" "_law_plans" (topS 15) f fd) (G__law_length : Df P w K mg base Tq k "_law_length" ["_law_row_here", "_law_low", "_law_high"] spLen) (m_len : mg "len" = none) (m_range : mg "range" = none) : FnG P w K mg base Tq (k + 1) f fd ["_law_wide", "_law_row_here"] spPlansN := by
  refine fn_g Fn sc__law_plans (fun ts Q E h => ?_) fun cdv A outer s H E Z ts QT ET hr hgd hp tk h => ?_
  · obtain ⟨wd, ws, rfl, W, hn, q⟩ := h; rfl
  · obtain ⟨wd, ws, rfl, W, hn, q⟩ := h
    have p15 : 2 ^ ws.length ≤ 32768 := Nat.le_trans (Nat.pow_le_pow_right (by decide) hn) (by decide)
    -- line 101
    refine wss_cons (ws_par 2 3 rfl sc__law_plans.nd (w_lst ⟨(by first | decide | (simp only [List.length_append, List.length_map, List.length_cons, List.length_nil, List.length_singleton, List.length_replicate, List.length_range, List.length_take, List.length_drop, List.length_dropLast, List.length_reverse, Bool.false_eq_true, eq_self, reduceIte, sizeLine_eq]; omega)), fun p1 => ⟨_, rfl, (w_lst ⟨rfl, (w_tup ⟨(by first | decide | (simp only [List.length_append, List.length_map, List.length_cons, List.length_nil, List.length_singleton, List.length_replicate, List.length_range, List.length_take, List.length_drop, List.length_dropLast, List.length_reverse, Bool.false_eq_true, eq_self, reduceIte, sizeLine_eq]; omega)), ⟨(by first | decide | (simp only [List.length_append, List.length_map, List.length_cons, List.length_nil, List.length_singleton, List.length_replicate, List.length_range, List.length_take, List.length_drop, List.length_dropLast, List.length_reverse, Bool.false_eq_true, eq_self, reduceIte, sizeLine_eq]; omega)), fun p2 => ⟨_, rfl, Nat.lt_of_sub_eq_succ rfl, Nat.lt_of_sub_eq_succ rfl, ?_⟩⟩⟩)⟩)⟩⟩))
    let Iv : Nat → QL.Env → Prop := fun m e => ∃ (fs : List (List Nat)) (wt : List (List Nat × Nat)) (o4 o5 o6 : Option T), e = [some (.va (.int wd)), some (.va (.tuple (iDs ws))), some (.lst p1 (fs.map tN)), some (.lst p2 (wtD wt)), o4, o5, o6] ∧ Fnd wd ws fs wt ∧ m = wgt ws.length wt ∧ Apt (fs ++ wt.map Prod.fst)
    -- line 102
    refine wss_cons (ws_while Iv (2 ^ ws.length) ⟨[], [([], 0)], none, none, none, rfl, ⟨fun _ z => (nomatch z), fun p hp => ?g0, fun ns _ => .inr ⟨([], 0), List.mem_singleton.mpr rfl, List.nil_prefix⟩, ?l0⟩, ?m0, List.pairwise_singleton _ _⟩ ?step hp)
    case g0 => rw [List.mem_singleton.mp hp]; exact ⟨.nil, Nat.zero_le _⟩
    case l0 => simp [wgt]
    case m0 => simp [wgt]
    case step =>
      rintro m env ⟨fs, wt, o4, o5, o6, rfl, F, rfl, ap⟩
      refine (wt_cmp (dop_ne (room64 hr)) (w_var 3 (w_lst ⟨(by first | decide | (simp only [List.length_append, List.length_map, List.length_cons, List.length_nil, List.length_singleton, List.length_replicate, List.length_range, List.length_take, List.length_drop, List.length_dropLast, List.length_reverse, Bool.false_eq_true, eq_self, reduceIte, sizeLine_eq]; omega)), fun p3 => ⟨rfl, rfl, (wt_shaped F.g (by omega)), (by decide), _, rfl, ⟨fun h => ?body, fun h => ?fin⟩⟩⟩)))
      case fin =>
        have hw : wt = [] := by cases wt with | nil => rfl | cons x xs => exact absurd h (by simp [wtD, PyData.eqv, PyData.eqvAll])
        subst hw
        have hle := F.le
        show WSs _ _ _ _ _
        -- line 110
        refine wss_one (ws_ret (w_var 2 ⟨rfl, ?_⟩))
        exact q p1 fs (fun ns => ⟨F.f ns, fun c => (F.all ns c).elim id fun ⟨p, hp, _⟩ => nomatch hp⟩) (by omega) (by simpa using ap.nodup)
      case body =>
        have hne : wt ≠ [] := fun z => by subst z; exact absurd h (by decide)
        obtain ⟨wt0, ⟨ns, l⟩, rfl⟩ : ∃ wt0 x, wt = wt0 ++ [x] := ⟨wt.dropLast, wt.getLast hne, (List.dropLast_concat_getLast hne).symm⟩
        have hc : Lay wd ws ns l ∧ l ≤ ws.length := F.g (ns, l) (List.mem_append_right _ (List.mem_singleton.mpr rfl))
        have e0 : wtD (wt0 ++ [(ns, l)]) = wtD wt0 ++ [tN ns] := by simp [wtD]
        have hlast : (wtD (wt0 ++ [(ns, l)]))[(wtD (wt0 ++ [(ns, l)])).length - 1]? = some (tN ns) := by
          rw [e0, List.length_append, List.length_singleton, Nat.add_sub_cancel, List.getElem?_append_right (Nat.le_refl _), Nat.sub_self]
          rfl
        have hdl : (wtD (wt0 ++ [(ns, l)])).dropLast = wtD wt0 := by rw [e0, List.dropLast_concat]
        have ts := tN_small hc.1 (by omega : l ≤ 1000)
        have shn : SeqAt.shaped (tN ns) = true := shaped_sm ts.1 (by omega)
        have hlen := hc.1.len
        have hFl := F.le
        have hwl := wgt_len ws.length (wt0 ++ [(ns, l)])
        rw [List.length_append, List.length_singleton] at hwl
        clear h
        -- line 103
        refine wss_cons (ws_set 4 (w_pop (w_var 3 ⟨_, _, _, _, _, rfl, rfl, hlast, ⟨Nat.lt_of_sub_eq_succ rfl, ?_⟩⟩)) sc__law_plans.nd)
        rw [hdl]
        -- line 104
        refine wss_cons (ws_set 5 (WE.to (r0 := .t (.va (.int (l : Int)))) (e1 := [some (.va (.int wd)), some (.va (.tuple (iDs ws))), some (.lst p1 (fs.map tN)), some (.lst p2 (wtD wt0)), some (.va (tN ns)), o5, o6]) (w_ifExp (wt_cmp (dop_ne (room64 hr)) (w_var 4 (w_tup ⟨(by first | decide | (simp only [List.length_append, List.length_map, List.length_cons, List.length_nil, List.length_singleton, List.length_replicate, List.length_range, List.length_take, List.length_drop, List.length_dropLast, List.length_reverse, Bool.false_eq_true, eq_self, reduceIte, sizeLine_eq]; omega)), ⟨rfl, rfl, shn, (by decide), _, rfl, ⟨fun h => (w_ix (w_var 4 (w_neg (w_int ⟨rfl, ⟨rfl, rfl, _, ?at1, ⟨rfl, rfl⟩⟩⟩)))), fun h => (w_int ⟨?z1, rfl⟩)⟩⟩⟩)))) ⟨Nat.lt_of_sub_eq_succ rfl, ?_⟩) sc__law_plans.nd)
        case at1 =>
          rcases Nat.eq_zero_or_pos l with z | z
          · subst z; rw [hc.1.zero] at h; exact absurd h (by decide)
          · obtain ⟨ms, l2, rfl, _⟩ := hc.1.ne z
            exact atI_last' (by simp [nDs])
        case z1 =>
          rcases Nat.eq_zero_or_pos l with z | z
          · subst z; rfl
          · obtain ⟨ms, l2, rfl, _⟩ := hc.1.ne z
            exact absurd h (by cases ms <;> simp [nDs, PyData.eqv, PyData.eqvAll])
        -- line 105
        refine wss_cons (WS.imp (P := fun o => ∃ fs', o = .nx [some (.va (.int wd)), some (.va (.tuple (iDs ws))), some (.lst p1 (fs'.map tN)), some (.lst p2 (wtD wt0)), some (.va (tN ns)), some (.va (.int (l : Int))), o6] ∧ ((l = ws.length ∧ fs' = fs ++ [ns]) ∨ (l ≠ ws.length ∧ fs' = fs))) (ws_if (wt_cmp (dop_eq (room64 hr)) (w_var 5 (w_callB dc_len m_len rfl ⟨rfl, (w_var 1 ⟨rfl, ⟨rfl, rfl, _, rfl, ⟨fun h => ?_, fun h => ?_⟩⟩⟩)⟩)))) ?join105)
        · have e1 : l = ws.length := by have h := of_decide_eq_true h; rw [List.length_map] at h; omega
          -- line 106
          refine wss_one (ws_expr (w_append (w_var 2 ⟨_, _, _, _, rfl, rfl, (w_var 4 ⟨_, _, rfl, rfl, (by simp only [List.length_append, List.length_map, List.length_cons, List.length_nil, List.length_singleton, List.length_replicate, List.length_range, List.length_take, List.length_drop, List.length_dropLast, List.length_reverse, Bool.false_eq_true, eq_self, reduceIte, sizeLine_eq]; omega), ?_⟩)⟩)))
          exact ⟨fs ++ [ns], by simp only [List.map_append]; rfl, .inl ⟨e1, rfl⟩⟩
        · have e1 : l ≠ ws.length := by have h := of_decide_eq_false h; rw [List.length_map] at h; omega
          exact wss_nil ⟨fs, rfl, .inr ⟨e1, rfl⟩⟩
        case join105 =>
          rintro o ⟨fs', rfl, hfs⟩
          show WSs _ _ _ _ _
          have hnl : (iDs ws).length = ws.length := List.length_map _
          -- line 107
          refine wss_one (ws_for hp rfl (pg_name (i := 6) sc__law_plans.nd rfl (by first | exact Or.inl rfl | exact Or.inr rfl)) (gok_name 6) (wi_range2 m_range ⟨rfl, (w_bin dop_add (w_var 5 (w_int ⟨rfl, rfl, ⟨rfl, (w_bin dop_add (w_callB dc_len m_len rfl ⟨rfl, (w_var 1 ⟨rfl, (w_int ⟨rfl, rfl, ⟨rfl, rfl, ⟨by omega, by omega, by omega, by omega⟩, ?_⟩⟩)⟩)⟩))⟩⟩)))⟩))
          rw [show ((((iDs ws).length : Nat) : Int) + 1 - ((l : Int) + 1)).toNat = ws.length - l by rw [hnl]; omega]
          refine ⟨fun j e => ∃ wt' o6', e = [some (.va (.int wd)), some (.va (.tuple (iDs ws))), some (.lst p1 (fs'.map tN)), some (.lst p2 (wtD wt')), some (.va (tN ns)), some (.va (.int (l : Int))), o6'] ∧ Kid wd ws ns l j wt0 wt' ∧ KidF ns l j wt0 wt', ⟨wt0, o6, rfl, .zero, .zero _ _ _⟩, ?turn, ?done⟩
          case turn =>
            rintro j d e hd ⟨wt', o6', rfl, hk, kf⟩
            obtain ⟨rfl, hj⟩ := rangeD_at hd
            rw [show (l : Int) + 1 + (j : Int) = ((l + 1 + j : Nat) : Int) by omega]
            have hkl := hk.le
            have hwl' := wgt_len ws.length wt'
            have hws0 := wgt_snoc ws.length wt0 (ns, l)
            simp only at hws0
            have hp0 : 0 < 2 ^ (ws.length - l - j) := Nat.two_pow_pos _
            have hwt : (wtD wt').length ≤ 32768 := by unfold wtD; rw [List.length_map]; omega
            refine ⟨Nat.lt_of_sub_eq_succ rfl, ?_⟩
            -- line 108
            refine wss_one (ws_if (wt_cmp dop_le (w_fn G__law_length hr hgd ⟨rfl, (w_var 1 ⟨rfl, (w_var 5 ⟨rfl, (w_var 6 ⟨_, _, _, rfl, (by omega), (by omega), (w_var 0 ⟨rfl, rfl, _, rfl, ⟨fun h => ?_, fun h => ?_⟩⟩)⟩)⟩)⟩)⟩)))
            · have hf : ln ws l (l + 1 + j) ≤ wd := of_decide_eq_true h
              -- line 109
              refine wss_one (ws_expr (w_append (w_var 3 ⟨_, _, _, _, rfl, rfl, (w_bin dop_add (w_var 4 (w_tup ⟨rfl, (w_var 6 ⟨(by first | decide | (simp only [List.length_append, List.length_map, List.length_cons, List.length_nil, List.length_singleton, List.length_replicate, List.length_range, List.length_take, List.length_drop, List.length_dropLast, List.length_reverse, Bool.false_eq_true, eq_self, reduceIte, sizeLine_eq]; omega)), ⟨rfl, rfl, (by first | decide | (simp only [List.length_append, List.length_map, List.length_cons, List.length_nil, List.length_singleton, List.length_replicate, List.length_range, List.length_take, List.length_drop, List.length_dropLast, List.length_reverse, Bool.false_eq_true, eq_self, reduceIte, sizeLine_eq]; omega)), ⟨_, _, rfl, rfl, (by simp only [List.length_append, List.length_map, List.length_cons, List.length_nil, List.length_singleton, List.length_replicate, List.length_range, List.length_take, List.length_drop, List.length_dropLast, List.length_reverse, Bool.false_eq_true, eq_self, reduceIte, sizeLine_eq]; omega), ?_⟩⟩⟩)⟩)))⟩)))
              refine ⟨wt' ++ [(ns ++ [l + 1 + j], l + 1 + j)], some (.va (.int ((l + 1 + j : Nat) : Int))), ?_, hk.yes hc.1 (by omega) hf, kf.yes⟩
              simp only [wtD, List.map_append, List.map_cons, List.map_nil, tN, nDs]; rfl
            · have hf : ¬ ln ws l (l + 1 + j) ≤ wd := of_decide_eq_false h
              exact wss_nil ⟨wt', _, rfl, hk.no hf, kf.no⟩
          case done =>
            rintro e ⟨wt', o6', rfl, hk, kf⟩
            rw [rangeD_len] at hk kf
            obtain ⟨F2, hlt⟩ := F.next hk hfs
            exact ⟨_, hlt, fs', wt', _, _, _, rfl, F2, rfl, KidF.next ap kf hfs⟩
abbrev N__law_squares : List Str := ["_law_wide", "_law_row_here", "_law_ends", "_law_low", "_law_high"]
theorem sc__law_squares : FnScope N__law_squares ["_law_wide", "_law_row_here", "_law_ends"] (defScope (topS 16)) := ⟨rfl, rfl, rfl, by decide +kernel, rfl, by decide +kernel, by decide +kernel⟩
theorem g__law_squares {f : Addr} {fd : FuncData} {k : Nat} (Fn : Fun K "_law_squares" "_law_squares" (topS 16) f fd) (G__law_length : Df P w K mg base Tq k "_law_length" ["_law_row_here", "_law_low", "_law_high"] spLen) (m_zip : mg "zip" = none) : FnG P w K mg base Tq (k + 1) f fd ["_law_wide", "_law_row_here", "_law_ends"] spSq2 := by
  refine fn_g Fn sc__law_squares (fun ts Q E h => ?_) fun cdv A outer s H E Z ts QT ET hr hgd hp tk h => ?_
  · obtain ⟨wd, ws, ns, l, rfl, W, c, hl, q⟩ := h; rfl
  · obtain ⟨wd, ws, ns, l, rfl, W, c, hl, q⟩ := h
    have hcl := c.len
    have hwl := W.len
    have hpl : (prsN ns).length ≤ 1001 := by unfold prsN; rw [List.length_zip]; omega
    -- line 112
    refine wss_one (ws_ret (w_lc (own := [("_law_low", 3), ("_law_high", 4)]) rfl sc__law_squares.nd (blkOk_by (N := N__law_squares) (sc := defScope (topS 16)) (by decide +kernel)) (fun _ _ _ _ _ => pg_tup (by rfl) (pgs_cons (pg_name (i := 3) sc__law_squares.nd rfl (by first | exact Or.inl rfl | exact Or.inr rfl)) (pgs_cons (pg_name (i := 4) sc__law_squares.nd rfl (by first | exact Or.inl rfl | exact Or.inr rfl)) (pgs_nil)))) (gok_tup (gsok_cons (gok_name 3) (gsok_cons (gok_name 4) (gsok_nil)))) (by decide) (wi_zip m_zip ⟨rfl, (w_bin dop_add (w_tup ⟨rfl, (w_int ⟨(by first | decide | (simp only [List.length_append, List.length_map, List.length_cons, List.length_nil, List.length_singleton, List.length_replicate, List.length_range, List.length_take, List.length_drop, List.length_dropLast, List.length_reverse, Bool.false_eq_true, eq_self, reduceIte, sizeLine_eq]; omega)), (w_sl (w_var 2 (w_neg (w_int ⟨rfl, ⟨_, rfl, ⟨rfl, ⟨rfl, rfl, (by rw [cut_last]; simp only [nDs, List.length_append, List.length_map, List.length_cons, List.length_nil, List.length_singleton, List.length_replicate, List.length_range, List.length_take, List.length_drop, List.length_dropLast, List.length_reverse, Bool.false_eq_true, eq_self, reduceIte, sizeLine_eq]; omega), ⟨rfl, (w_var 2 (lc_map fm_tup2 (enP) (prsN ns) (fun (p : Nat × Nat) => PyData.int (sq wd ws p.1 p.2)) _ rfl (zip_lines ns) (by simp only [sizeLine_eq]; omega) (fun k2 x hx => by have hp := c.prs x (List.mem_of_getElem? hx); have hb := ln_bd W (i := x.1) (j := x.2) (by omega) (by omega); have w1 := W.w1; have w2 := W.w2; exact ⟨rfl, ⟨Nat.lt_of_sub_eq_succ rfl, ⟨Nat.lt_of_sub_eq_succ rfl, ⟨rfl, fun s2 H2 C2 cl2 fp2 => (w_bin dop_pow (w_bin dop_sub (w_var 0 (w_fn G__law_length hr hgd ⟨rfl, (w_var 1 ⟨rfl, (w_var 3 ⟨rfl, (w_var 4 ⟨_, _, _, rfl, (by omega), (by omega), ⟨rfl, rfl, (w_int ⟨rfl, rfl, (.inl ⟨by decide, by decide, by omega⟩), ⟨rfl, rfl⟩⟩)⟩⟩)⟩)⟩)⟩))))⟩⟩⟩⟩) (fun p1 => ?_)))⟩⟩⟩⟩⟩))))⟩)⟩))⟩)))
    have e1 : (prsN ns).map (fun (p : Nat × Nat) => PyData.int (sq wd ws p.1 p.2)) = iDs (sqsN wd ws ns) := by simp [sqsN, iDs]
    rw [e1]
    exact q _
end
def spChosen : Spc := fun ts QT _ => ∃ (S : List (Int × List Nat)), ts = [.va (.list (S.map enS))] ∧ S ≠ [] ∧ S.length ≤ 40000 ∧ ((∀ x ∈ S, x.2 ≠ []) ∨ ∃ x, S = [x]) ∧ ∀ (m : Int) (p : Addr), (∃ x ∈ S, x.1 = m) → (∀ y ∈ S, m ≤ y.1) → QT (.lst p ((desc ((S.filter fun x => decide (x.1 = m)).map (·.2))).map tN)) [none]
theorem sort_side {S : List (Int × List Nat)} {t : Int × List Nat → Bool} (h : (∀ x ∈ S, x.2 ≠ []) ∨ ∃ x, S = [x]) (hx : ∃ x ∈ S, t x = true) : PyData.hasDictAll ((S.filter t).map fun x => PyData.tuple (nDs x.2).reverse) = false ∧ W.AllAlike ((S.filter t).map fun x => PyData.tuple (nDs x.2).reverse) ∧
    (W.Sortable ((S.filter t).map fun x => PyData.tuple (nDs x.2).reverse) ∨ ∃ d, (S.filter t).map (fun x => PyData.tuple (nDs x.2).reverse) = [d] ∧ d ≠ .none) ∧ ∀ d ∈ (S.filter t).map (fun x => PyData.tuple (nDs x.2).reverse), d.depth ≤ 60 := by
  refine ⟨?_, fun a ha b hb => ?_, ?_, fun d hd => ?_⟩
  · refine hasDict_map (f := fun x : Int × List Nat => PyData.tuple (nDs x.2).reverse) (fun x => ?_) _
    show PyData.hasDictAll (nDs x.2).reverse = false
    rw [← List.map_reverse]
    exact hasDict_map (f := fun (n : Nat) => PyData.int (n : Int)) (fun _ => rfl) _
  · obtain ⟨x, _, rfl⟩ := List.mem_map.mp ha
    obtain ⟨y, _, rfl⟩ := List.mem_map.mp hb
    show W.alikeAll (nDs x.2).reverse (nDs y.2).reverse = true
    rw [← List.map_reverse, ← List.map_reverse]
    exact alike_nDs _ _
  · rcases h with h | ⟨x, rfl⟩
    · refine .inl (.inl fun d hd => ?_)
      obtain ⟨x, hx, rfl⟩ := List.mem_map.mp hd
      have hne := h x (List.mem_filter.mp hx).1
      cases hr : (nDs x.2).reverse with
      | nil => rw [List.reverse_eq_nil_iff, List.map_eq_nil_iff] at hr; exact absurd hr hne
      | cons a r => exact ⟨a, r, rfl⟩
    · obtain ⟨y, hy, ht⟩ := hx
      rw [List.mem_singleton.mp hy] at ht
      refine .inr ⟨.tuple (nDs x.2).reverse, ?_, fun z => nomatch z⟩
      rw [List.filter_cons_of_pos ht]; rfl
  · obtain ⟨x, _, rfl⟩ := List.mem_map.mp hd
    have : PyData.depthAll (nDs x.2).reverse ≤ 0 := by rw [← List.map_reverse]; exact depthAll_map (k := 0) fun n _ => by simp [PyData.depth]
    simp only [PyData.depth]; omega
section
variable {P : Program} {w : World} {K : PySem.W.Frag} {mg : Str → Option Value} {base : Heap} {Tq : List (Addr × Str)}
abbrev N__law_chosen : List Str := ["_law_some", "_law_least", "_law_paid", "_law_ends", "_law_found"]
theorem sc__law_chosen : FnScope N__law_chosen ["_law_some"] (defScope (topS 17)) := ⟨rfl, rfl, rfl, by decide +kernel, rfl, by decide +kernel, by decide +kernel⟩
theorem g__law_chosen {f : Addr} {fd : FuncData} {k : Nat} (Fn : Fun K "_law_chosen" "_law_chosen" (topS 17) f fd) (m_min : mg "min" = none) (m_sorted : mg "sorted" = none) : FnG P w K mg base Tq (k + 1) f fd ["_law_some"] spChosen := by
  refine fn_g Fn sc__law_chosen (fun ts Q E h => ?_) fun cdv A outer s H E Z ts QT ET hr hgd hp tk h => ?_
  · obtain ⟨S, rfl, hne, hl, hs, q⟩ := h; rfl
  · obtain ⟨S, rfl, hne, hl, hs, q⟩ := h
    have hu := room110 hr
    obtain ⟨x0, xs0, m, m1, m2, m3, m4, m5, m6, m7⟩ := min_ints (ns := S.map (·.1)) (by simpa using hne)
    have hm1 : ∃ x ∈ S, x.1 = m := by obtain ⟨x, h1, h2⟩ := List.mem_map.mp m3; exact ⟨x, h1, h2⟩
    have hm2 : ∀ y ∈ S, m ≤ y.1 := fun y hy => m4 _ (List.mem_map.mpr ⟨y, hy, rfl⟩)
    have ml : (S.map fun x => PyData.int x.1) = x0 :: xs0 := by rw [← m1]; simp
    obtain ⟨s1, s2, s3, s4⟩ := sort_side (t := fun x => decide (x.1 = m)) hs (by obtain ⟨x, h1, h2⟩ := hm1; exact ⟨x, h1, by simpa using h2⟩)
    have hfl := List.length_filter_le (fun x : Int × List Nat => decide (x.1 = m)) S
    have hdl : (desc ((S.filter fun x => decide (x.1 = m)).map (·.2))).length ≤ 40000 := by have h1 := (desc_perm ((S.filter fun x => decide (x.1 = m)).map (·.2))).length_eq; rw [List.length_map] at h1; omega
    -- line 114
    refine wss_cons (ws_set 1 (w_callB (dc_minL rfl hu) m_min rfl ⟨rfl, (w_lc (own := [("_law_paid", 2), ("_law_ends", 3)]) rfl sc__law_chosen.nd (blkOk_by (N := N__law_chosen) (sc := defScope (topS 17)) (by decide +kernel)) (fun _ _ _ _ _ => pg_tup (by rfl) (pgs_cons (pg_name (i := 2) sc__law_chosen.nd rfl (by first | exact Or.inl rfl | exact Or.inr rfl)) (pgs_cons (pg_name (i := 3) sc__law_chosen.nd rfl (by first | exact Or.inl rfl | exact Or.inr rfl)) (pgs_nil)))) (gok_tup (gsok_cons (gok_name 2) (gsok_cons (gok_name 3) (gsok_nil)))) (by decide) (wi_list (w_var 0 (lc_map fm_tup2 (enS) (S) (fun x => PyData.int x.1) _ rfl (rfl) (by simp only [sizeLine_eq]; omega) (fun k2 x hx => by skip; exact ⟨rfl, ⟨Nat.lt_of_sub_eq_succ rfl, ⟨Nat.lt_of_sub_eq_succ rfl, ⟨rfl, fun s2 H2 C2 cl2 fp2 => (w_var 2 ⟨rfl, rfl⟩)⟩⟩⟩⟩) (fun p1 => ⟨rfl, ⟨_, _, _, (.inl (congrArg (fun z => [PyData.list z]) ml)), m5, m6, m7, m2, ⟨Nat.lt_of_sub_eq_succ rfl, ?_⟩⟩⟩)))))⟩) sc__law_chosen.nd)
    -- line 115
    refine wss_cons (ws_set 4 (w_rev (w_callB (dc_sorted hu) m_sorted rfl ⟨rfl, (w_lcIf (own := [("_law_paid", 2), ("_law_ends", 3)]) rfl sc__law_chosen.nd (blkOk_by (N := N__law_chosen) (sc := defScope (topS 17)) (by decide +kernel)) (fun _ _ _ _ _ => pg_tup (by rfl) (pgs_cons (pg_name (i := 2) sc__law_chosen.nd rfl (by first | exact Or.inl rfl | exact Or.inr rfl)) (pgs_cons (pg_name (i := 3) sc__law_chosen.nd rfl (by first | exact Or.inl rfl | exact Or.inr rfl)) (pgs_nil)))) (gok_tup (gsok_cons (gok_name 2) (gsok_cons (gok_name 3) (gsok_nil)))) (by decide) (wi_list (w_var 0 (lc_filt fm_tup2 (enS) (S) (fun x => decide (x.1 = m)) (fun x => PyData.tuple (nDs x.2).reverse) _ rfl (rfl) (by simp only [sizeLine_eq]; omega) (fun k2 x hx => by skip; exact ⟨rfl, ⟨Nat.lt_of_sub_eq_succ rfl, ⟨Nat.lt_of_sub_eq_succ rfl, ⟨rfl, fun s2 H2 C2 cl2 fp2 => (wt_cmp (dop_eq (room64 hr)) (w_var 2 (w_var 1 ⟨rfl, rfl, _, rfl, ⟨rfl, fun ht s3 H3 C3 cl3 fp3 => (w_rev (w_var 3 ⟨rfl, ⟨rfl, rfl⟩⟩)), fun ht => rfl⟩⟩)))⟩⟩⟩⟩) (fun p3 => ⟨rfl, ⟨_, _, rfl, s1, s2, s3, s4, (Eq.trans (congrArg (fun z => List.mergeSort z (W.dataLe false id)) (show (S.filter fun x => decide (x.1 = m)).map (fun x => PyData.tuple (nDs x.2).reverse) = ((S.filter fun x => decide (x.1 = m)).map (·.2)).map (fun ns => PyData.tuple (nDs ns).reverse) by simp)) (sort_rows _)), fun p2 => ⟨rfl, fun p4 => ⟨Nat.lt_of_sub_eq_succ rfl, ?_⟩⟩⟩⟩)))))⟩)) sc__law_chosen.nd)
    -- line 116
    refine wss_one (ws_ret (w_lc (own := [("_law_ends", 3)]) rfl sc__law_chosen.nd (blkOk_by (N := N__law_chosen) (sc := defScope (topS 17)) (by decide +kernel)) (fun _ _ _ _ _ => pg_name (i := 3) sc__law_chosen.nd rfl (by first | exact Or.inl rfl | exact Or.inr rfl)) (gok_name 3) (by decide) (wi_list (w_var 4 ⟨rfl, (lc_map fm_name (fun ns => tI (rv ns)) (desc ((S.filter fun x => decide (x.1 = m)).map (·.2))) (tN) _ rfl (by rw [← List.map_reverse, List.reverse_reverse]) (by simp only [sizeLine_eq]; omega) (fun k2 x hx => by skip; exact ⟨Nat.lt_of_sub_eq_succ rfl, fun s2 H2 C2 cl2 fp2 => (w_rev (w_var 3 ⟨rfl, ⟨by rw [rev_iDs], rfl⟩⟩))⟩) (fun p5 => ?_))⟩))))
    exact q m _ hm1 hm2
end
end K08

namespace K08
open PySem PySem.Spec PyProof.Rows L2 QL
open LM
/-- what is known of the class -/
structure Txt_Choices (K : PySem.W.Frag) (a : Addr) : Prop where
  cl : Cls K a
  n_count : NoAttr K a "count"
  n_begins_of : NoAttr K a "begins_of"
/-- the choices, as a dict -/
def chK (wd : Int) (ws : List Int) (m : Nat) : List (Key × D) := (List.range m).map fun (j : Nat) => ((.inl ((j + 1 : Nat) : Int) : Key), PyData.list (nDs (chB wd ws (j + 1))))
theorem chK_len (wd : Int) (ws : List Int) (m : Nat) : (chK wd ws m).length = m := by unfold chK; simp
theorem chK_put (wd : Int) (ws : List Int) (m : Nat) : putT2 (chK wd ws m) (.inl ((m + 1 : Nat) : Int)) (.list (nDs (chB wd ws (m + 1)))) = chK wd ws (m + 1) := by
  unfold putT2
  rw [if_neg]
  · unfold chK; rw [List.range_succ, List.map_append]; rfl
  · rw [Bool.not_eq_true, List.any_eq_false]
    intro kv hkv
    unfold chK at hkv
    obtain ⟨j, hj, rfl⟩ := List.mem_map.mp hkv
    have := List.mem_range.mp hj
    rw [decide_eq_true_eq]
    intro z
    have : ((j + 1 : Nat) : Int) = ((m + 1 : Nat) : Int) := Sum.inl.inj z
    omega
theorem chK_at (wd : Int) (ws : List Int) {m e : Nat} (h0 : 0 < e) (h : e ≤ m) : valT (chK wd ws m) (.inl (e : Int)) = some (.list (nDs (chB wd ws e))) := by
  have key : ∀ (l : List Nat), e - 1 ∈ l → (((l.map fun (j : Nat) => ((.inl ((j + 1 : Nat) : Int) : Key), PyData.list (nDs (chB wd ws (j + 1))))).find? fun kv => decide (kv.1 = .inl (e : Int))).map (·.2)) = some (.list (nDs (chB wd ws e))) := fun l => by
    induction l with
    | nil => intro h; exact nomatch h
    | cons x l ih =>
      intro hm
      rw [List.map_cons, List.find?_cons]
      by_cases z : x + 1 = e
      · rw [z]; simp
      · have ne : ¬ ((.inl ((x + 1 : Nat) : Int) : Key) = .inl (e : Int)) := fun y => z (by have : ((x + 1 : Nat) : Int) = (e : Int) := Sum.inl.inj y; omega)
        simp only [ne, decide_false]
        exact ih ((List.mem_cons.mp hm).resolve_left fun y => z (by omega))
  exact key _ (List.mem_range.mpr (by omega))
abbrev choF (wd : Int) (ws : List Int) (m : Nat) (p : Addr) : List (Str × T) := [("count", .va (.int (ws.length : Int))), ("begins_of", .dic p (chK wd ws m))]
def spChInit (aC : Addr) : Spc := fun ts QT _ => ∃ (a : Addr) (wd : Int) (ws : List Int), ts = [.ins a aC [], .va (.int wd), .va (.tuple (iDs ws))] ∧ Wd wd ws ∧ ∀ p, QT (.va .none) [some (.ins a aC (choF wd ws ws.length p)), none, none]
def spWays (aC : Addr) : Spc := fun ts QT _ => ∃ (a : Addr) (wd : Int) (ws : List Int) (p : Addr), ts = [.ins a aC (choF wd ws ws.length p)] ∧ Wd wd ws ∧ ∀ pf, QT (.lst pf (iDs (wyL wd ws ws.length))) [some (.ins a aC (choF wd ws ws.length p))]
def spCount : Spc := fun ts QT _ => ∃ (wd : Int) (ws : List Int), ts = [.va (.int wd), .va (.tuple (iDs ws))] ∧ Wd wd ws ∧ QT (.va (.int (cntB wd ws))) [none, none]
theorem wyL_at {wd : Int} {ws : List Int} {m b : Nat} (h : b ≤ m) : atI (iDs (wyL wd ws m)) (b : Int) = some (.int ((wyL wd ws m).getD b 0)) := by
  have hl := wyL_len wd ws m
  refine atI_nat ?_
  rw [iDs, List.getElem?_map, List.getElem?_eq_getElem (by omega), List.getD_eq_getElem?_getD, List.getElem?_eq_getElem (by omega)]
  rfl
theorem wyL_last (wd : Int) (ws : List Int) : atI (iDs (wyL wd ws ws.length)) (-1) = some (.int (cntB wd ws)) := by
  have hl := wyL_len wd ws ws.length
  refine atI_last' ?_
  unfold cntB
  rw [iDs, List.getLast?_map, List.getLast?_eq_getElem?, hl, Nat.add_sub_cancel, List.getD_eq_getElem?_getD, List.getElem?_eq_getElem (by omega)]
  rfl
theorem wyL_snoc (wd : Int) (ws : List Int) (m : Nat) : iDs (wyL wd ws m) ++ [PyData.int ((chB wd ws (m + 1)).map fun b => (wyL wd ws m).getD b 0).sum] = iDs (wyL wd ws (m + 1)) := by
  rw [wyL]
  show _ = List.map PyData.int (_ ++ _)
  rw [List.map_append]; rfl
theorem chB_len {wd : Int} {ws : List Int} {e : Nat} : (chB wd ws e).length ≤ e := Nat.le_trans (List.length_filter_le _ _) bg_len
section
variable {P : Program} {w : World} {K : PySem.W.Frag} {mg : Str → Option Value} {base : Heap} {Tq : List (Addr × Str)}
abbrev N_Choices___init__ : List Str := ["self", "width", "text", "table", "end", "goal", "is_last", "some", "begin", "square"]
theorem sc_Choices___init__ : FnScope N_Choices___init__ ["self", "width", "text"] (defScope (inClass (topS 6) 0)) := ⟨rfl, rfl, rfl, by decide +kernel, rfl, by decide +kernel, by decide +kernel⟩
theorem g_Choices___init__ {f : Addr} {fd : FuncData} {k : Nat} {aChoices : Addr} {aTable : Addr} (Fn : Fun K "__init__" "Choices.__init__" (inClass (topS 6) 0) f fd) (TX_Table : Txt_Table K aTable) (TX : Txt_Choices K aChoices) (M_begins : Mf P w K mg base Tq k aTable "begins" ["self", "end"] (spBegins aTable)) (M_last_start : Mf P w K mg base Tq k aTable "last_start" ["self"] (spLast aTable)) (M_square : Mf P w K mg base Tq k aTable "square" ["self", "begin", "end"] (spSquare aTable)) (C_Table : Ck P w K mg base Tq k "Table" aTable ["self", "width", "text"] (spInit aTable)) (m_len : mg "len" = none) (m_range : mg "range" = none) : FnG P w K mg base Tq (k + 2) f fd ["self", "width", "text"] (spChInit aChoices) := by
  have M_begins := M_begins.mono (Nat.le_succ k)
  have M_last_start := M_last_start.mono (Nat.le_succ k)
  have M_square := M_square.mono (Nat.le_succ k)
  refine fn_g Fn sc_Choices___init__ (fun ts Q E h => ?_) fun cdv A outer s H E Z ts QT ET hr hgd hp tk h => ?_
  · obtain ⟨a, wd, ws, rfl, W, q⟩ := h; rfl
  · obtain ⟨a, wd, ws, rfl, W, q⟩ := h
    have hlen := W.len
    have hnl : (iDs ws).length = ws.length := List.length_map _
    -- line 46
    refine wss_cons (ws_set 3 (w_make C_Table hr hgd ⟨rfl, (w_var 1 ⟨rfl, (w_var 2 fun aT => ⟨_, wd, ws, rfl, W, fun pc pb => ⟨rfl, rfl, ⟨Nat.lt_of_sub_eq_succ rfl, ?_⟩⟩⟩)⟩)⟩) sc_Choices___init__.nd)
    -- line 47
    refine wss_cons (ws_fld 0 (w_callB dc_len m_len rfl ⟨rfl, (w_var 2 ⟨rfl, ⟨⟨TX.cl, TX.n_count, Nat.lt_of_sub_eq_succ rfl⟩, ?_⟩⟩)⟩))
    show WSs _ _ _ [some (.ins a aChoices [("count", .va (.int ((iDs ws).length : Int)))]), some (.va (.int wd)), some (.va (.tuple (iDs ws))), some (.ins aT aTable (tabF wd ws ws.length pc pb)), none, none, none, none, none, none] _
    rw [hnl]
    -- line 48
    refine wss_cons (ws_fld 0 (w_dict0 fun p1 => ⟨⟨TX.cl, TX.n_begins_of, Nat.lt_of_sub_eq_succ rfl⟩, ?_⟩))
    -- line 49
    refine wss_one (ws_for hp rfl (pg_name (i := 4) sc_Choices___init__.nd rfl (by first | exact Or.inl rfl | exact Or.inr rfl)) (gok_name 4) (wi_range2 m_range ⟨rfl, (w_int ⟨rfl, (w_bin dop_add (w_fld (w_var 0 ⟨rfl, ⟨TX.cl, TX.n_count⟩, (w_int ⟨rfl, rfl, ⟨rfl, rfl, ⟨by omega, by omega, by omega, by omega⟩, ?_⟩⟩)⟩)))⟩)⟩))
    rw [show ((((ws.length : Nat) : Int) + 1 - 1).toNat) = ws.length by omega]
    refine ⟨fun j e => ∃ o4 o5 o6 o7, e = [some (.ins a aChoices (choF wd ws j p1)), some (.va (.int wd)), some (.va (.tuple (iDs ws))), some (.ins aT aTable (tabF wd ws ws.length pc pb)), o4, o5, o6, o7, none, none], ⟨none, none, none, none, rfl⟩, ?_, ?_⟩
    · rintro j x e hd ⟨o4, o5, o6, o7, rfl⟩
      obtain ⟨rfl, hj⟩ := rangeD_at hd
      rw [show ((1 : Int) + (j : Int)) = ((j + 1 : Nat) : Int) by omega]
      have hbl := bg_len (wd := wd) (ws := ws) (e := j + 1)
      have hls := LS_le W
      have hkl := chK_len wd ws j
      have hpu := chK_put wd ws j
      refine ⟨Nat.lt_of_sub_eq_succ rfl, ?_⟩
      -- line 50
      refine wss_cons (ws_asg (pg_tup (by rfl) (pgs_cons (pg_name (i := 5) sc_Choices___init__.nd rfl (by first | exact Or.inl rfl | exact Or.inr rfl)) (pgs_cons (pg_name (i := 6) sc_Choices___init__.nd rfl (by first | exact Or.inl rfl | exact Or.inr rfl)) (pgs_nil)))) (gok_tup (gsok_cons (gok_name 5) (gsok_cons (gok_name 6) (gsok_nil)))) (w_tup ⟨rfl, (w_ix (w_fld (w_var 3 ⟨rfl, ⟨TX_Table.cl, TX_Table.n_costs⟩, (w_var 4 ⟨rfl, rfl, _, (csL_at (by omega)), ⟨rfl, (w_cmp (dop_eq (room64 hr)) (w_var 4 (w_fld (w_var 0 ⟨rfl, ⟨TX.cl, TX.n_count⟩, ⟨rfl, rfl, ⟨(by first | decide | (simp only [List.length_append, List.length_map, List.length_cons, List.length_nil, List.length_singleton, List.length_replicate, List.length_range, List.length_take, List.length_drop, List.length_dropLast, List.length_reverse, Bool.false_eq_true, eq_self, reduceIte, sizeLine_eq]; omega)), ⟨_, rfl, rfl, ⟨Nat.lt_of_sub_eq_succ rfl, ⟨Nat.lt_of_sub_eq_succ rfl, ⟨rfl, ?_⟩⟩⟩⟩⟩⟩⟩))))⟩⟩)⟩)))⟩))
      by_cases he : j + 1 = ws.length
      · have hdec : decide (((j + 1 : Nat) : Int) = (ws.length : Int)) = true := decide_eq_true (by omega)
        have eg : glC wd ws (j + 1) = C wd ws (LS wd ws) := by unfold glC; rw [if_pos he]
        have es : ∀ b, szC wd ws (j + 1) b = 0 := fun b => by unfold szC; rw [if_pos he]
        -- line 51
        refine wss_cons (ws_if (wt_val (w_var 6 ⟨_, rfl, ⟨fun h => ?_, fun h => ?_⟩⟩)))
        · skip
          -- line 52
          refine wss_one (ws_set 5 (w_ix (w_fld (w_var 3 ⟨rfl, ⟨TX_Table.cl, TX_Table.n_costs⟩, (w_meth0 M_last_start hr hgd (w_var 3 ⟨⟨rfl, rfl, rfl⟩, ⟨rfl, ⟨_, _, _, _, _, rfl, (by first | assumption | omega | decide), ⟨rfl, rfl, ⟨rfl, rfl, _, (csL_at hls), ⟨Nat.lt_of_sub_eq_succ rfl, ?_⟩⟩⟩⟩⟩⟩))⟩))) sc_Choices___init__.nd)
          -- line 53
          refine wss_cons (ws_setLc 7 (own := [("begin", 8)]) rfl sc_Choices___init__.nd (blkOk_by (N := N_Choices___init__) (sc := defScope (inClass (topS 6) 0)) (by decide +kernel)) (fun _ _ _ _ _ => pg_name (i := 8) sc_Choices___init__.nd rfl (by first | exact Or.inl rfl | exact Or.inr rfl)) (gok_name 8) (by decide) (wi_list (w_meth M_begins hr hgd (w_var 3 ⟨⟨rfl, rfl, rfl⟩, ⟨rfl, (w_var 4 ⟨rfl, ⟨_, _, _, _, _, _, _, rfl, (by first | assumption | omega | decide), (by first | assumption | omega | decide), fun p_3 => ⟨rfl, rfl, (lc_map fm_name (fun (b : Nat) => PyData.int b) (bg wd ws (j + 1)) (fun (b : Nat) => PyData.tuple [.int (b : Int), .int (szC wd ws (j + 1) b)]) _ rfl (rfl) (by simp only [sizeLine_eq]; omega) (fun k2 b hx => by have hm := (bg_mem W (e := j + 1) (by omega)).mp (List.mem_of_getElem? hx); exact ⟨Nat.lt_of_sub_eq_succ rfl, fun s2 H2 C2 cl2 fp2 => (w_tup ⟨rfl, (w_var 8 ⟨rfl, (w_ifExp (wt_val (w_var 6 ⟨_, rfl, ⟨fun h => (w_int ⟨(Nat.le_of_lt (small2000 (n := 2) (by decide))), ⟨by rw [es], rfl⟩⟩), fun h => absurd h (by rw [hdec]; decide)⟩⟩)))⟩)⟩)⟩) (fun p2 => ⟨Nat.lt_of_sub_eq_succ rfl, ?_⟩))⟩⟩⟩)⟩⟩))))
          -- line 54
          refine wss_one (ws_dput (by have := room64 hr; omega) (w_lcIf (own := [("begin", 8), ("square", 9)]) rfl sc_Choices___init__.nd (blkOk_by (N := N_Choices___init__) (sc := defScope (inClass (topS 6) 0)) (by decide +kernel)) (fun _ _ _ _ _ => pg_tup (by rfl) (pgs_cons (pg_name (i := 8) sc_Choices___init__.nd rfl (by first | exact Or.inl rfl | exact Or.inr rfl)) (pgs_cons (pg_name (i := 9) sc_Choices___init__.nd rfl (by first | exact Or.inl rfl | exact Or.inr rfl)) (pgs_nil)))) (gok_tup (gsok_cons (gok_name 8) (gsok_cons (gok_name 9) (gsok_nil)))) (by decide) (wi_list (w_var 7 ⟨rfl, (lc_filt fm_tup2 (fun (b : Nat) => PyData.tuple [.int (b : Int), .int (szC wd ws (j + 1) b)]) (bg wd ws (j + 1)) (fun b => decide (C wd ws b + szC wd ws (j + 1) b = glC wd ws (j + 1))) (fun (b : Nat) => PyData.int b) _ rfl (rfl) (by simp only [sizeLine_eq]; omega) (fun k2 b hx => by have hm := (bg_mem W (e := j + 1) (by omega)).mp (List.mem_of_getElem? hx); exact ⟨rfl, ⟨Nat.lt_of_sub_eq_succ rfl, ⟨Nat.lt_of_sub_eq_succ rfl, ⟨rfl, fun s2 H2 C2 cl2 fp2 => (wt_cmp (dop_eq (room64 hr)) (w_bin dop_add (w_ix (w_fld (w_var 3 ⟨rfl, ⟨TX_Table.cl, TX_Table.n_costs⟩, (w_var 8 ⟨rfl, rfl, _, (csL_at (by omega)), (w_var 9 ⟨rfl, rfl, (w_var 5 ⟨rfl, rfl, _, rfl, ⟨(by rw [eg]), fun ht s3 H3 C3 cl3 fp3 => (w_var 8 ⟨rfl, rfl⟩), fun ht => rfl⟩⟩)⟩)⟩)⟩)))))⟩⟩⟩⟩) (fun p3 => (w_fld (w_var 0 ⟨rfl, ⟨TX.cl, TX.n_begins_of⟩, ⟨_, _, _, rfl, (w_var 4 ⟨.inl _, _, _, rfl, rfl, rfl, (by rw [hkl, sizeLine_eq]; omega), ?_⟩)⟩⟩))))⟩))))
          refine ⟨some (.va (.int ((j + 1 : Nat) : Int))), some (.va (.int (C wd ws (LS wd ws)))), some (.va (.bool (decide (((j + 1 : Nat) : Int) = (ws.length : Int))))), some (.va (.list ((bg wd ws (j + 1)).map fun (b : Nat) => PyData.tuple [.int (b : Int), .int (szC wd ws (j + 1) b)]))), ?_⟩
          unfold choF
          rw [← hpu]
          rfl
        · exact absurd h (by rw [hdec]; decide)
      · have hdec : decide (((j + 1 : Nat) : Int) = (ws.length : Int)) = false := decide_eq_false (by omega)
        have eg : glC wd ws (j + 1) = C wd ws (j + 1) := by unfold glC; rw [if_neg he]
        have es : ∀ b, szC wd ws (j + 1) b = sq wd ws b (j + 1) := fun b => by unfold szC; rw [if_neg he]
        -- line 51
        refine wss_cons (ws_if (wt_val (w_var 6 ⟨_, rfl, ⟨fun h => ?_, fun h => ?_⟩⟩)))
        · exact absurd h (by rw [hdec]; decide)
        · refine wss_nil ?_
          -- line 53
          refine wss_cons (ws_setLc 7 (own := [("begin", 8)]) rfl sc_Choices___init__.nd (blkOk_by (N := N_Choices___init__) (sc := defScope (inClass (topS 6) 0)) (by decide +kernel)) (fun _ _ _ _ _ => pg_name (i := 8) sc_Choices___init__.nd rfl (by first | exact Or.inl rfl | exact Or.inr rfl)) (gok_name 8) (by decide) (wi_list (w_meth M_begins hr hgd (w_var 3 ⟨⟨rfl, rfl, rfl⟩, ⟨rfl, (w_var 4 ⟨rfl, ⟨_, _, _, _, _, _, _, rfl, (by first | assumption | omega | decide), (by first | assumption | omega | decide), fun p_4 => ⟨rfl, rfl, (lc_map fm_name (fun (b : Nat) => PyData.int b) (bg wd ws (j + 1)) (fun (b : Nat) => PyData.tuple [.int (b : Int), .int (szC wd ws (j + 1) b)]) _ rfl (rfl) (by simp only [sizeLine_eq]; omega) (fun k2 b hx => by have hm := (bg_mem W (e := j + 1) (by omega)).mp (List.mem_of_getElem? hx); exact ⟨Nat.lt_of_sub_eq_succ rfl, fun s2 H2 C2 cl2 fp2 => (w_tup ⟨rfl, (w_var 8 ⟨rfl, (w_ifExp (wt_val (w_var 6 ⟨_, rfl, ⟨fun h => absurd h (by rw [hdec]; decide), fun h => (w_meth M_square hr hgd (w_var 3 ⟨⟨rfl, rfl, rfl⟩, ⟨rfl, (w_var 8 ⟨rfl, (w_var 4 ⟨rfl, ⟨_, _, _, _, _, _, _, _, rfl, (by first | assumption | omega | decide), (by first | assumption | omega | decide), (by first | assumption | omega | decide), ⟨rfl, rfl, ⟨(Nat.le_of_lt (small2000 (n := 2) (by decide))), ⟨by rw [es], rfl⟩⟩⟩⟩⟩)⟩)⟩⟩))⟩⟩)))⟩)⟩)⟩) (fun p4 => ⟨Nat.lt_of_sub_eq_succ rfl, ?_⟩))⟩⟩⟩)⟩⟩))))
          -- line 54
          refine wss_one (ws_dput (by have := room64 hr; omega) (w_lcIf (own := [("begin", 8), ("square", 9)]) rfl sc_Choices___init__.nd (blkOk_by (N := N_Choices___init__) (sc := defScope (inClass (topS 6) 0)) (by decide +kernel)) (fun _ _ _ _ _ => pg_tup (by rfl) (pgs_cons (pg_name (i := 8) sc_Choices___init__.nd rfl (by first | exact Or.inl rfl | exact Or.inr rfl)) (pgs_cons (pg_name (i := 9) sc_Choices___init__.nd rfl (by first | exact Or.inl rfl | exact Or.inr rfl)) (pgs_nil)))) (gok_tup (gsok_cons (gok_name 8) (gsok_cons (gok_name 9) (gsok_nil)))) (by decide) (wi_list (w_var 7 ⟨rfl, (lc_filt fm_tup2 (fun (b : Nat) => PyData.tuple [.int (b : Int), .int (szC wd ws (j + 1) b)]) (bg wd ws (j + 1)) (fun b => decide (C wd ws b + szC wd ws (j + 1) b = glC wd ws (j + 1))) (fun (b : Nat) => PyData.int b) _ rfl (rfl) (by simp only [sizeLine_eq]; omega) (fun k2 b hx => by have hm := (bg_mem W (e := j + 1) (by omega)).mp (List.mem_of_getElem? hx); exact ⟨rfl, ⟨Nat.lt_of_sub_eq_succ rfl, ⟨Nat.lt_of_sub_eq_succ rfl, ⟨rfl, fun s2 H2 C2 cl2 fp2 => (wt_cmp (dop_eq (room64 hr)) (w_bin dop_add (w_ix (w_fld (w_var 3 ⟨rfl, ⟨TX_Table.cl, TX_Table.n_costs⟩, (w_var 8 ⟨rfl, rfl, _, (csL_at (by omega)), (w_var 9 ⟨rfl, rfl, (w_var 5 ⟨rfl, rfl, _, rfl, ⟨(by rw [eg]), fun ht s3 H3 C3 cl3 fp3 => (w_var 8 ⟨rfl, rfl⟩), fun ht => rfl⟩⟩)⟩)⟩)⟩)))))⟩⟩⟩⟩) (fun p5 => (w_fld (w_var 0 ⟨rfl, ⟨TX.cl, TX.n_begins_of⟩, ⟨_, _, _, rfl, (w_var 4 ⟨.inl _, _, _, rfl, rfl, rfl, (by rw [hkl, sizeLine_eq]; omega), ?_⟩)⟩⟩))))⟩))))
          refine ⟨some (.va (.int ((j + 1 : Nat) : Int))), some (.va (.int (C wd ws (j + 1)))), some (.va (.bool (decide (((j + 1 : Nat) : Int) = (ws.length : Int))))), some (.va (.list ((bg wd ws (j + 1)).map fun (b : Nat) => PyData.tuple [.int (b : Int), .int (szC wd ws (j + 1) b)]))), ?_⟩
          unfold choF
          rw [← hpu]
          rfl
    · rintro e ⟨o4, o5, o6, o7, rfl⟩
      rw [rangeD_len]
      exact ⟨rfl, q _⟩
abbrev N_Choices_ways : List Str := ["self", "found", "end", "begin"]
theorem sc_Choices_ways : FnScope N_Choices_ways ["self"] (defScope (inClass (topS 6) 1)) := ⟨rfl, rfl, rfl, by decide +kernel, rfl, by decide +kernel, by decide +kernel⟩
theorem g_Choices_ways {f : Addr} {fd : FuncData} {k : Nat} {aChoices : Addr} (Fn : Fun K "ways" "Choices.ways" (inClass (topS 6) 1) f fd) (TX : Txt_Choices K aChoices) (m_range : mg "range" = none) (m_sum : mg "sum" = none) : FnG P w K mg base Tq (k + 1) f fd ["self"] (spWays aChoices) := by
  refine fn_g Fn sc_Choices_ways (fun ts Q E h => ?_) fun cdv A outer s H E Z ts QT ET hr hgd hp tk h => ?_
  · obtain ⟨a, wd, ws, p, rfl, W, q⟩ := h; rfl
  · obtain ⟨a, wd, ws, p, rfl, W, q⟩ := h
    have hlen := W.len
    -- line 57
    refine wss_cons (ws_set 1 (w_lst ⟨rfl, (w_int ⟨(by first | decide | (simp only [List.length_append, List.length_map, List.length_cons, List.length_nil, List.length_singleton, List.length_replicate, List.length_range, List.length_take, List.length_drop, List.length_dropLast, List.length_reverse, Bool.false_eq_true, eq_self, reduceIte, sizeLine_eq]; omega)), fun p1 => ⟨Nat.lt_of_sub_eq_succ rfl, ?_⟩⟩)⟩) sc_Choices_ways.nd)
    -- line 58
    refine wss_cons (ws_for hp rfl (pg_name (i := 2) sc_Choices_ways.nd rfl (by first | exact Or.inl rfl | exact Or.inr rfl)) (gok_name 2) (wi_range2 m_range ⟨rfl, (w_int ⟨rfl, (w_bin dop_add (w_fld (w_var 0 ⟨rfl, ⟨TX.cl, TX.n_count⟩, (w_int ⟨rfl, rfl, ⟨rfl, rfl, ⟨by omega, by omega, by omega, by omega⟩, ?_⟩⟩)⟩)))⟩)⟩))
    rw [show ((((ws.length : Nat) : Int) + 1 - 1).toNat) = ws.length by omega]
    refine ⟨fun j e => ∃ o2, e = [some (.ins a aChoices (choF wd ws ws.length p)), some (.lst p1 (iDs (wyL wd ws j))), o2, none], ⟨none, rfl⟩, ?_, ?_⟩
    · rintro j x e hd ⟨o2, rfl⟩
      obtain ⟨rfl, hj⟩ := rangeD_at hd
      rw [show ((1 : Int) + (j : Int)) = ((j + 1 : Nat) : Int) by omega]
      have hwl := wyL_len wd ws j
      have hcl := chB_len (wd := wd) (ws := ws) (e := j + 1)
      have hat := chK_at wd ws (m := ws.length) (e := j + 1) (by omega) (by omega)
      refine ⟨Nat.lt_of_sub_eq_succ rfl, ?_⟩
      -- line 59
      refine wss_one (ws_expr (w_append (w_var 1 ⟨_, _, _, _, rfl, rfl, (w_callB (dc_sumA rfl) m_sum rfl ⟨rfl, (w_lc (own := [("begin", 3)]) rfl sc_Choices_ways.nd (blkOk_by (N := N_Choices_ways) (sc := defScope (inClass (topS 6) 1)) (by decide +kernel)) (fun _ _ _ _ _ => pg_name (i := 3) sc_Choices_ways.nd rfl (by first | exact Or.inl rfl | exact Or.inr rfl)) (gok_name 3) (by decide) (wi_list (w_dix (by first | exact lt1 (room64 hr) | (have := room64 hr; omega)) (w_fld (w_var 0 ⟨rfl, ⟨TX.cl, TX.n_begins_of⟩, (w_var 2 ⟨rfl, rfl, _, .inl _, _, rfl, rfl, hat, (lc_map fm_name (fun (b : Nat) => PyData.int b) (chB wd ws (j + 1)) (fun (b : Nat) => PyData.int ((wyL wd ws j).getD b 0)) _ rfl (rfl) (by rw [sizeLine_eq]; omega) (fun k2 b hx => by have hm := (chB_lt W (by omega) (List.mem_of_getElem? hx)).1; exact ⟨Nat.lt_of_sub_eq_succ rfl, fun s2 H2 C2 cl2 fp2 => (w_ix (w_var 1 (w_var 3 ⟨rfl, rfl, _, (wyL_at (by omega)), ⟨rfl, rfl⟩⟩)))⟩) (fun p2 => ⟨rfl, ⟨_, (.inl (congrArg (fun z => [PyData.list z]) (show ((chB wd ws (j + 1)).map fun b => PyData.int ((wyL wd ws j).getD b 0)) = iDs ((chB wd ws (j + 1)).map fun b => (wyL wd ws j).getD b 0) by rw [iDs, List.map_map]; rfl))), ⟨_, _, rfl, rfl, (by rw [List.length_map, hwl, sizeLine_eq]; omega), ?_⟩⟩⟩))⟩)⟩)))))⟩)⟩)))
      exact ⟨_, by rw [← wyL_snoc]; rfl⟩
    · rintro e ⟨o2, rfl⟩
      rw [rangeD_len]
      -- line 60
      refine wss_one (ws_ret (w_var 1 ⟨rfl, ?_⟩))
      exact ⟨rfl, q _⟩
abbrev N_count_best : List Str := ["width", "text"]
theorem sc_count_best : FnScope N_count_best ["width", "text"] (defScope (topS 7)) := ⟨rfl, rfl, rfl, by decide +kernel, rfl, by decide +kernel, by decide +kernel⟩
theorem g_count_best {f : Addr} {fd : FuncData} {k : Nat} {aChoices : Addr} (Fn : Fun K "count_best" "count_best" (topS 7) f fd) (M_ways : Mf P w K mg base Tq k aChoices "ways" ["self"] (spWays aChoices)) (C_Choices : Ck P w K mg base Tq k "Choices" aChoices ["self", "width", "text"] (spChInit aChoices)) : FnG P w K mg base Tq (k + 2) f fd ["width", "text"] spCount := by
  have M_ways := M_ways.mono (Nat.le_succ k)
  refine fn_g Fn sc_count_best (fun ts Q E h => ?_) fun cdv A outer s H E Z ts QT ET hr hgd hp tk h => ?_
  · obtain ⟨wd, ws, rfl, W, q⟩ := h; rfl
  · obtain ⟨wd, ws, rfl, W, q⟩ := h
    have hat := wyL_last wd ws
    -- line 71
    refine wss_one (ws_ret (w_ix (w_methT0 M_ways hr hgd (w_make C_Choices hr hgd ⟨rfl, (w_var 0 ⟨rfl, (w_var 1 fun pN1 => ⟨_, wd, ws, rfl, W, fun p => ⟨rfl, rfl, ⟨⟨rfl, rfl⟩, ⟨_, wd, ws, _, rfl, W, fun pf => (w_neg (w_int ⟨rfl, ⟨rfl, rfl, _, hat, ?_⟩⟩))⟩⟩⟩⟩)⟩)⟩))))
    exact q
end
end K08

/-! QTRV: for x in reversed(a list). -/
namespace QL
open PySem PySem.Spec PyProof.Rows L2
variable {Tq : List (Addr × Str)} {Z : Zb Tq} {X : Cx} {e tg : Expr} {env : Env} {pos : Pos}
theorem gives_rev {K : PySem.W.Frag} {a : Addr} {xs : List V} {ds : List D} {F : Hp} (h : F a = some (.lst xs)) (r : RpA F xs ds) : Gives (Itv K a xs.length) ds.reverse F := fun F' H' s1 s2 i => by
  have hq : SqL K H' a xs := SqL.of (s2 _ _ (s1 _ _ h))
  have hl : xs.length = ds.length := r.len
  refine ⟨fun d hd => ?_, fun hn => ?_⟩
  · have hi : i < ds.length := by
      have := (List.getElem?_eq_some_iff.mp hd).1
      rwa [List.length_reverse] at this
    rw [List.getElem?_reverse hi] at hd
    obtain ⟨v, hv, rv⟩ := r.get' hd
    rw [← hl] at hv
    refine ⟨⟨by omega, xs, v, hq, hv⟩, fun x H'' ⟨e, q⟩ => ?_⟩
    subst e
    have := (q xs hq).symm.trans hv
    cases this
    exact ⟨F', rv.mono s1, Same.refl _, Same.refl _, s2, fun _ z => .inl z⟩
  · have := List.getElem?_eq_none_iff.mp hn
    rw [List.length_reverse] at this
    show xs.length ≤ i
    omega
theorem wi_rev {P : List D → Env → Prop} {p : Pos} (hm : X.mg "reversed" = none) (h : WA Z X e env fun a e1 => absorb [a] e1 fun ds e2 => lstOf ds fun xs => P xs.reverse e2) (hg : Gl X "reversed" := by rfl)
    (hs : starEach [e] X.env = [(false, eval e X.env)] := by rfl) : WI Z X tg (.Call (.Name "reversed" p) [e] [] pos) env P :=
  wi_of (pi_reversed hg hm (pa_As (Z := Z)) hs) fun σ H F O b o => ⟨env, F, O, fun as e1 => absorb as e1 fun ds e2 => lstOf ds fun xs => P xs.reverse e2, b, o, ⟨hs.trans rfl, h⟩, fun vs H1 ⟨F1, O1, as, e1, b1, o1, st, fr, p⟩ => by
    obtain ⟨F2, O2, ds, e2, b2, o2, r2, fr2, q⟩ := absorb_ok st b1 o1 p
    unfold lstOf at q
    split at q
    · rename_i xs
      cases r2 with
      | cons r rr =>
        cases rr
        cases r with
        | lst h1 r1 => exact ⟨_, _, rfl, SqL.of (b2.sub _ _ h1), F2, O2, xs.reverse, e2, b2, o2, fr.trans fr2, gives_rev h1 r1, q⟩
    · exact q.elim⟩
end QL

/-! GRa: a yield that is flagged as a generator stands behind it (yield from): the scheduler steps it as any other. -/
namespace GR
open PySem
/-- what a frame hands on that delegates to a generator -/
def okYield (s : Shared) (t : Thread) : Prop :=
  ∃ v l k a o n rest kw fs b rs, t.cur = .yield v true l k ∧ t.code = .builtin "proto.yield_from" ⟨.ref a :: rest, kw⟩ ∧ s.heap.get? a = some o ∧ o.genNumber? = some n ∧ splitAtGen t.stack = some (fs, b, rs) ∧ fs.any Frame.guarded = false
section
variable (den : Code → Sem PySem.Fin) (prog : Program) (w : World)
theorem life_yield (others : List Value) (s : Shared) (t : Thread) (h : okYield s t) (hz : s.asleep) : lifeStep den prog w others s t = step den prog w s t := by
  obtain ⟨hr, hc⟩ := hz
  obtain ⟨cur, code, pos, stack⟩ := t
  obtain ⟨v, l, k, a, o, n, rest, kw, fs, b, rs, h1, h2, h3, h4, h5, h6⟩ := h
  simp only at h1 h2 h5
  subst h1 h2
  have hs : closingShows s fs (.builtin "proto.yield_from" ⟨.ref a :: rest, kw⟩) true = false := by
    simp only [closingShows, h6, Bool.false_or, Bool.true_and, delegateShows, h3, h4, hr]
    rfl
  unfold lifeStep
  have sp : Thread.special ⟨.yield v true l k, .builtin "proto.yield_from" ⟨.ref a :: rest, kw⟩, pos, stack⟩ = true := by
    simp [Thread.special, Thread.yieldsInsideHandler]
  rw [if_pos sp]
  have ct : collectorTurn? w.params others s ⟨.yield v true l k, .builtin "proto.yield_from" ⟨.ref a :: rest, kw⟩, pos, stack⟩ = none := rfl
  simp only [ct, h5, hs]
  simp [stepCounting, hc, Thread.atItsEnd]
theorem pick_yield (s : Shared) (t : Thread) (h : okYield s t) (hr : s.heap.life.registered = []) : (Config.single s t).pick w = .ok (.run 0, .single s t) := by
  have h1 : (Config.single s t).collect? w.params = none := by
    simp [Config.collect?, Config.single, (nothing_to_collect _ _ _ s t hr).1]
  have h2 : (Config.single s t).collectable = [] := by
    simp [Config.collectable, Config.single, (nothing_to_collect w.params _ _ s t hr).2]
  have h3 : ∀ pr, (Config.single s t).moves pr = [.run 0] := fun pr => by
    obtain ⟨cur, code, pos, stack⟩ := t
    obtain ⟨v, l, k, _, _, _, _, _, _, _, _, e1, _⟩ := h
    simp only at e1
    subst e1
    simp [Config.moves, Config.single, movesFrom, Thread.moves]
  simp only [Config.pick, h1, h2, Config.pickThread, h3]
  cases w.params.lifetimes <;> simp
theorem sstep_yield (s : Shared) (t : Thread) (h : okYield s t) (hz : s.asleep) : sstep den prog w (.single s t) = (step den prog w s t).lift := by
  have hl := fun others => life_yield den prog w others s t h hz
  simp only [sstep, pick_yield w s t h hz.1, Config.move]
  obtain ⟨cur, code, pos, stack⟩ := t
  obtain ⟨v, l, k, _, _, _, _, _, _, _, _, e1, _⟩ := h
  simp only at e1
  subst e1
  simp only [Config.run, Config.single]
  simp [hl, others_single, frozenBadly, ThreadState.insideWrite]
  split <;> simp_all [Step.lift, Config.single]
  split <;> simp
/-- a step of either kind -/
def calm2 (s : Shared) (t : Thread) : Prop := t.calm = true ∨ okYield s t
theorem sched2 (n : Nat) (s : Shared) (t : Thread) (hr : s.asleep)
    (h : ∀ k s' t', k < n → runN den prog w k s t = .running s' t' → calm2 s' t' ∧ step den prog w s' t' ≠ .halt (.unsupported "lifetime:generator-with-cleanup-left-suspended") s') :
    schedN den prog w n (.single s t) = (runN den prog w n s t).lift := by
  induction n generalizing s t with
  | zero => rfl
  | succ n ih =>
    obtain ⟨hc, hx⟩ := h 0 s t (Nat.succ_pos n) rfl
    have e : sstep den prog w (.single s t) = (step den prog w s t).lift := by
      rcases hc with hc | hc
      · exact (sstep_single den prog w s t hc hr).resolve_right hx
      · exact sstep_yield den prog w s t hc hr
    simp only [schedN, runN, e]
    cases hs : step den prog w s t with
    | go s' t' =>
      exact ih s' t' (by simp only [Shared.asleep, step_life den prog w s s' t t' hs]; exact hr)
        (fun k s'' t'' hk hrun => h (k + 1) s'' t'' (Nat.succ_lt_succ hk) (by simp only [runN, hs]; exact hrun))
    | halt o s' => rfl
end
end GR

/-! GRb: runs in which such yields occur: steps, codes, trees. -/
namespace GR
open PySem
section
variable (M : Model)
inductive Go2 : Shared → Thread → Shared → Thread → Prop
  | step {s t s' t'} : M.step s t = .go s' t' → Go2 s t s' t'
  | yield {s t s' t'} : okYield s t → stepK M.den M.prog M.w s t = .go s' t' → Go2 s t s' t'
inductive Ss : Shared → Thread → Shared → Thread → Prop
  | refl {s t} : Ss s t s t
  | cons {s t s1 t1 s2 t2} : Go2 M s t s1 t1 → Ss s1 t1 s2 t2 → Ss s t s2 t2
end
variable {M : Model}
theorem Ss.trans {s t s1 t1 s2 t2} (a : Ss M s t s1 t1) (b : Ss M s1 t1 s2 t2) : Ss M s t s2 t2 := by
  induction a with
  | refl => exact b
  | cons g _ ih => exact .cons g (ih b)
theorem Ss.go {s t s1 t1 s2 t2} (h : M.step s t = .go s1 t1) (b : Ss M s1 t1 s2 t2) : Ss M s t s2 t2 := .cons (.step h) b
theorem Ss.one {s t s1 t1} (h : M.step s t = .go s1 t1) : Ss M s t s1 t1 := .cons (.step h) .refl
theorem reach_ss {base : List Frame} {s t c p pre s' e} (h : Reach M base s t c p pre s' e) : ∃ t' c' p' pre', Exits e t' c' p' pre' ∧ Ss M s ⟨t, c, p, pre ++ base⟩ s' ⟨t', c', p', pre' ++ base⟩ := by
  induction h with
  | exit hx => exact ⟨_, _, _, _, hx, .refl⟩
  | step hs _ ih =>
    obtain ⟨t', c', p', pre', hx, h⟩ := ih
    exact ⟨t', c', p', pre', hx, .go hs h⟩
/-! ### codes, generators -/
def Ret2 (M : Model) (Γ : Ctx) (p : Pos) (s : Shared) (r : Result) (s' : Shared) : Prop :=
  ∀ base, Γ.Fits base → ∃ c' p', Ss M s ⟨M.den Γ.code, Γ.code, p, base⟩ s' ⟨leafOf r, c', p', base⟩
def Wak2 (M : Model) (Γ : Ctx) (p : Pos) (g : Nat) (r : Resume) (s : Shared) (res : GenResult) (s' : Shared) : Prop :=
  ∀ (base : List Frame) (l : List Value) (k : GenResult → Sem PySem.Fin), Γ.Fits base → Ss M s ⟨.resume g r l k, Γ.code, p, base⟩ s' ⟨k res, Γ.code, p, base⟩
theorem ret2_of {Γ : Ctx} {p s r s'} (h : Returns M Γ p s r s') : Ret2 M Γ p s r s' := fun base hf => by
  obtain ⟨t', c', p', pre', hx, hs⟩ := reach_ss (runs_reach h base hf)
  obtain ⟨rfl, rfl⟩ := hx
  exact ⟨c', p', hs⟩
theorem wak2_of {Γ : Ctx} {p g r s res s'} (h : Wakes M Γ p g r s res s') : Wak2 M Γ p g r s res s' := fun base l k hf => by
  unfold Wakes at h
  split at h
  · exact h.elim
  · rename_i c hg
    split at h
    · obtain ⟨e₁, s₁, hr, hq, rfl, rfl⟩ := h
      obtain ⟨t', c', p', pre', hx, hs⟩ := reach_ss (runs_reach hr _ (hf.wake c g k l p))
      exact .go (step_resume_fresh M s Γ.code p base l k hg) (hs.trans (.one (step_exit_gen s₁ g k l Γ.code p base hx hq)))
    · rename_i v hv
      obtain ⟨rfl, rfl⟩ := h
      exact .one (step_resume_justStarted M _ Γ.code p base l k hg hv)
    · obtain ⟨rfl, rfl⟩ := h
      exact .one (step_resume_throwFresh M _ Γ.code p base _ l k hg)
  · rename_i k₀ l₀ c₀ p₀ fs cl hg
    obtain ⟨e₁, s₁, hr, hq, rfl, rfl⟩ := h
    obtain ⟨t', c', p', pre', hx, hs⟩ := reach_ss (runs_reach hr _ (hf.wake c₀ g k l p))
    exact .go (step_resume_suspended M s Γ.code p base r l k hg) (hs.trans (.one (step_exit_gen s₁ g k l Γ.code p base hx hq)))
  · rename_i hg
    obtain ⟨rfl, rfl⟩ := h
    exact .one (step_resume_running M _ Γ.code p base r l k hg)
  · rename_i hg
    obtain ⟨rfl, rfl⟩ := h
    exact .one (step_resume_finished M _ Γ.code p base r l k hg)
def wpCode2 (M : Model) (Γ : Ctx) (R : Result → Shared → Prop) (p : Pos) (s : Shared) : Prop := ∃ r s', Ret2 M Γ p s r s' ∧ R r s'
section
variable {α β : Type}
/-- a tree may run, and comes to an end -/
def wp2 (M : Model) (Γ : Ctx) : Sem α → (α → Pos → Shared → Prop) → (Value → Pos → Shared → Prop) → Pos → Shared → Prop
  | .pure a, Q, _, p, s => Q a p s
  | .raise e, _, E, p, s => E e p s
  | .rule _ k, Q, E, p, s => wp2 M Γ (k ()) Q E p s
  | .at p' k, Q, E, _, s => wp2 M Γ (k ()) Q E p' s
  | .load a _ k, Q, E, p, s => ∃ o, s.heap.get? a = some o ∧ wp2 M Γ (k o) Q E p s
  | .update a _ f k, Q, E, p, s => (s.heap.get? a).isSome ∧ wp2 M Γ (k ()) Q E p { s with heap := s.heap.update a f }
  | .loadIfAlive a k, Q, E, p, s => wp2 M Γ (k (s.heap.get? a)) Q E p s
  | .point _ k, Q, E, p, s => wp2 M Γ (k ()) Q E p s
  | .alloc o k, Q, E, p, s => wp2 M Γ (k s.heap.objs.size) Q E p { s with heap := s.heap.push o }
  | .fresh k, Q, E, p, s => wp2 M Γ (k s.toks) Q E p { s with toks := s.toks + 1 }
  | .ask k, Q, E, p, s => wp2 M Γ (k ⟨M.prog, M.w.params⟩) Q E p s
  | .choose src n k, Q, E, p, s => n ≠ 0 ∧ wp2 M Γ (k (M.w.draws src (s.drawn.get src) % n)) Q E p { s with drawn := s.drawn.bump src }
  | .os q _ k, Q, E, p, s => wp2 M Γ (k (Os.step s.os q).2) Q E p { s with os := (Os.step s.os q).1 }
  | .call c h _ _ k, Q, E, p, s => wpCode2 M (Γ.enter c h p) (fun r s' => wp2 M Γ (k r) Q E p s') p s
  | .handled own k, Q, E, p, s => wp2 M Γ (k (if own then Γ.own else Γ.handled)) Q E p s
  | .genState g k, Q, E, p, s => ∃ st, s.gens[g]? = some st ∧ wp2 M Γ (k st.seen) Q E p s
  | .newGen c k, Q, E, p, s => wp2 M Γ (k s.gens.size) Q E p { s with gens := s.gens.push (.fresh c) }
  | .resume g r _ k, Q, E, p, s => ∃ res s', Wak2 M Γ p g r s res s' ∧ wp2 M Γ (k res) Q E p s'
  | .stack k, Q, E, p, s => wp2 M Γ (k ((Γ.code, p) :: Γ.below)) Q E p s
  | .thread k, Q, E, p, s => wp2 M Γ (k 0) Q E p s
  | _, _, _, _, _ => False
theorem wp2_mono {Γ : Ctx} (t : Sem α) {Q Q' : α → Pos → Shared → Prop} {E E' : Value → Pos → Shared → Prop} (hQ : ∀ a p s, Q a p s → Q' a p s) (hE : ∀ e p s, E e p s → E' e p s) : ∀ p s, wp2 M Γ t Q E p s → wp2 M Γ t Q' E' p s := by
  induction t with
  | pure a => exact fun p s h => hQ _ _ _ h
  | raise e => exact fun p s h => hE _ _ _ h
  | rule _ k ih => exact fun p s h => ih () p s h
  | «at» p' k ih => exact fun p s h => ih () p' s h
  | load a _ k ih => exact fun p s ⟨o, h1, h⟩ => ⟨o, h1, ih o p s h⟩
  | update a _ f k ih => exact fun p s h => ⟨h.1, ih () p _ h.2⟩
  | loadIfAlive a k ih => exact fun p s h => ih _ p s h
  | point _ k ih => exact fun p s h => ih () p s h
  | alloc o k ih => exact fun p s h => ih _ p _ h
  | fresh k ih => exact fun p s h => ih _ p _ h
  | ask k ih => exact fun p s h => ih _ p s h
  | choose src n k ih => exact fun p s h => ⟨h.1, ih _ p _ h.2⟩
  | os q _ k ih => exact fun p s h => ih _ p _ h
  | call c hd _ _ k ih => exact fun p s ⟨r, s', h1, h⟩ => ⟨r, s', h1, ih r p s' h⟩
  | handled own k ih => exact fun p s h => ih _ p s h
  | genState g k ih => exact fun p s ⟨st, h1, h⟩ => ⟨st, h1, ih _ p s h⟩
  | newGen c k ih => exact fun p s h => ih _ p _ h
  | resume g r _ k ih => exact fun p s ⟨res, s', h1, h⟩ => ⟨res, s', h1, ih res p s' h⟩
  | stack k ih => exact fun p s h => ih _ p s h
  | thread k ih => exact fun p s h => ih _ p s h
  | _ => exact fun p s h => h
theorem wp2_of {Γ : Ctx} (t : Sem α) {Q : α → Pos → Shared → Prop} {E : Value → Pos → Shared → Prop} : ∀ p s, Sem.wp M Γ t Q E p s → wp2 M Γ t Q E p s := by
  induction t with
  | pure a => exact fun p s h => h
  | raise e => exact fun p s h => h
  | rule _ k ih => exact fun p s h => ih () p s h
  | «at» p' k ih => exact fun p s h => ih () p' s h
  | load a _ k ih => exact fun p s ⟨o, h1, h⟩ => ⟨o, h1, ih o p s h⟩
  | update a _ f k ih => exact fun p s h => ⟨h.1, ih () p _ h.2⟩
  | loadIfAlive a k ih => exact fun p s h => ih _ p s h
  | point _ k ih => exact fun p s h => ih () p s h
  | alloc o k ih => exact fun p s h => ih _ p _ h
  | fresh k ih => exact fun p s h => ih _ p _ h
  | ask k ih => exact fun p s h => ih _ p s h
  | choose src n k ih => exact fun p s h => ⟨h.1, ih _ p _ h.2⟩
  | os q _ k ih => exact fun p s h => ih _ p _ h
  | call c hd _ _ k ih => exact fun p s ⟨r, s', h1, h⟩ => ⟨r, s', ret2_of h1, ih r p s' h⟩
  | handled own k ih => exact fun p s h => ih _ p s h
  | genState g k ih => exact fun p s ⟨st, h1, h⟩ => ⟨st, h1, ih _ p s h⟩
  | newGen c k ih => exact fun p s h => ih _ p _ h
  | resume g r _ k ih => exact fun p s ⟨res, s', h1, h⟩ => ⟨res, s', wak2_of h1, ih res p s' h⟩
  | stack k ih => exact fun p s h => ih _ p s h
  | thread k ih => exact fun p s h => ih _ p s h
  | _ => exact fun p s h => h.elim
theorem wp2_bind (Γ : Ctx) (m : Sem α) (f : α → Sem β) (Q : β → Pos → Shared → Prop) (E : Value → Pos → Shared → Prop) (p : Pos) (s : Shared) :
    wp2 M Γ (m.bind f) Q E p s = wp2 M Γ m (fun a p' s' => wp2 M Γ (f a) Q E p' s') E p s := by
  induction m generalizing p s <;> simp only [Sem.bind, wp2, *]
theorem wp2_tryCatch (Γ : Ctx) (m : Sem α) (h : Value → Sem α) (Q : α → Pos → Shared → Prop) (E : Value → Pos → Shared → Prop) (p : Pos) (s : Shared) :
    wp2 M Γ (m.tryCatch h) Q E p s = wp2 M Γ m Q (fun e p' s' => wp2 M Γ (h e) Q E p' s') p s := by
  induction m generalizing p s <;> simp only [Sem.tryCatch, wp2, *]
theorem wp2_onRaise (Γ : Ctx) (m : Sem α) (h : Value → Sem Unit) (Q : α → Pos → Shared → Prop) (E : Value → Pos → Shared → Prop) (p : Pos) (s : Shared) :
    wp2 M Γ (m.onRaise h) Q E p s = wp2 M Γ m Q (fun e p' s' => wp2 M Γ (h e) (fun _ p'' s'' => E e p'' s'') E p' s') p s := by
  induction m generalizing p s <;> simp only [Sem.onRaise, wp2, wp2_bind, *]
theorem wp2_keep (Γ : Ctx) (vs : List Value) (m : Sem α) (Q : α → Pos → Shared → Prop) (E : Value → Pos → Shared → Prop) (p : Pos) (s : Shared) : wp2 M Γ (m.keep vs) Q E p s = wp2 M Γ m Q E p s := by
  induction m generalizing p s <;> simp only [Sem.keep, wp2, *]
theorem wp2_holding (Γ : Ctx) (vs : List Value) (m : Sem α) (Q : α → Pos → Shared → Prop) (E : Value → Pos → Shared → Prop) (p : Pos) (s : Shared) : wp2 M Γ (holding vs m) Q E p s = wp2 M Γ m Q E p s := by
  rw [holding_eq_keep, wp2_keep]
end
/-- what a code's tree comes to -/
def fin2 (M : Model) (Γ : Ctx) (R : Result → Shared → Prop) : PySem.Fin → Pos → Shared → Prop
  | .done f, _, s => R (.ok f) s
  | .again c, p, s => c.quiet = true ∧ wpCode2 M (Γ.goto c) R p s
theorem wp2_ss {Γ : Ctx} {R : Result → Shared → Prop} (t : Sem PySem.Fin) : ∀ p s, wp2 M Γ t (fin2 M Γ R) (fun e _ s' => R (.error e) s') p s → ∃ r s', R r s' ∧ ∀ base, Γ.Fits base → ∃ c' p', Ss M s ⟨t, Γ.code, p, base⟩ s' ⟨leafOf r, c', p', base⟩ := by
  have one : ∀ {t1 t2 : Sem PySem.Fin} {p1 p2 : Pos} {s1 s2 : Shared}, (∀ base, Γ.Fits base → M.step s1 ⟨t1, Γ.code, p1, base⟩ = .go s2 ⟨t2, Γ.code, p2, base⟩) → (∃ r s', R r s' ∧ ∀ base, Γ.Fits base → ∃ c' p', Ss M s2 ⟨t2, Γ.code, p2, base⟩ s' ⟨leafOf r, c', p', base⟩) →
      ∃ r s', R r s' ∧ ∀ base, Γ.Fits base → ∃ c' p', Ss M s1 ⟨t1, Γ.code, p1, base⟩ s' ⟨leafOf r, c', p', base⟩ := fun st ⟨r, s', hR, h⟩ => ⟨r, s', hR, fun base hf => by
    obtain ⟨c', p', hs⟩ := h base hf
    exact ⟨c', p', .go (st base hf) hs⟩⟩
  induction t with
  | pure fin =>
    intro p s h
    cases fin with
    | done f => exact ⟨.ok f, s, h, fun base hf => ⟨_, _, .refl⟩⟩
    | again c =>
      obtain ⟨hq, r, s', hr, hR⟩ := h
      refine ⟨r, s', hR, fun base hf => ?_⟩
      obtain ⟨c', p', hs⟩ := hr base (hf.goto c)
      exact ⟨c', p', .go (step_again M s Γ.code p base c hq) hs⟩
  | raise e => exact fun p s h => ⟨.error e, s, h, fun base hf => ⟨_, _, .refl⟩⟩
  | rule _ k ih => exact fun p s h => one (fun base hf => step_rule ..) (ih () p s h)
  | «at» p' k ih => exact fun p s h => one (fun base hf => step_at ..) (ih () p' s h)
  | load a part k ih => exact fun p s ⟨o, h1, h⟩ => one (fun base hf => step_load _ _ _ _ _ _ _ h1) (ih o p s h)
  | update a part f k ih => exact fun p s h => one (fun base hf => step_update _ _ _ _ _ _ _ _ h.1) (ih () p _ h.2)
  | loadIfAlive a k ih => exact fun p s h => one (fun base hf => step_loadIfAlive ..) (ih _ p s h)
  | point _ k ih => exact fun p s h => one (fun base hf => step_point ..) (ih () p s h)
  | alloc o k ih => exact fun p s h => one (fun base hf => step_alloc ..) (ih _ p _ h)
  | fresh k ih => exact fun p s h => one (fun base hf => step_fresh ..) (ih _ p _ h)
  | ask k ih => exact fun p s h => one (fun base hf => step_ask ..) (ih _ p s h)
  | choose src n k ih => exact fun p s h => one (fun base hf => step_choose _ _ _ _ _ _ _ h.1) (ih _ p _ h.2)
  | os q _ k ih => exact fun p s h => one (fun base hf => step_os ..) (ih _ p _ h)
  | call c hd g l k ih =>
    intro p s ⟨r, s', h1, h⟩
    obtain ⟨r2, s2, hR, h2⟩ := ih r p s' h
    refine ⟨r2, s2, hR, fun base hf => ?_⟩
    obtain ⟨c1, p1, hs1⟩ := h1 _ (hf.enter c k hd g l p [])
    obtain ⟨c2, p2, hs2⟩ := h2 base hf
    exact ⟨c2, p2, .go (step_call ..) (hs1.trans (.go (step_leaf_ret ..) hs2))⟩
  | handled own k ih =>
    refine fun p s h => one (fun base hf => ?_) (ih _ p s h)
    rw [step_handled]
    cases own
    · rw [hf.handled]; rfl
    · rw [hf.own]; rfl
  | genState g k ih => exact fun p s ⟨st, h1, h⟩ => one (fun base hf => step_genState _ _ _ _ _ _ h1) (ih _ p s h)
  | newGen c k ih => exact fun p s h => one (fun base hf => step_newGen ..) (ih _ p _ h)
  | resume g r l k ih =>
    intro p s ⟨res, s', h1, h⟩
    obtain ⟨r2, s2, hR, h2⟩ := ih res p s' h
    refine ⟨r2, s2, hR, fun base hf => ?_⟩
    obtain ⟨c2, p2, hs2⟩ := h2 base hf
    exact ⟨c2, p2, (h1 base l k hf).trans hs2⟩
  | stack k ih => exact fun p s h => one (fun base hf => by rw [hf.below]; exact step_stack ..) (ih _ p s h)
  | thread k ih => exact fun p s h => one (fun base hf => step_thread ..) (ih _ p s h)
  | _ => exact fun p s h => False.elim h
theorem code2_of {Γ : Ctx} {R : Result → Shared → Prop} {p s} (h : wp2 M Γ (M.den Γ.code) (fin2 M Γ R) (fun e _ s' => R (.error e) s') p s) : wpCode2 M Γ R p s := by
  obtain ⟨r, s', hR, hs⟩ := wp2_ss _ p s h
  exact ⟨r, s', hs, hR⟩
end GR

/-! GRc: such runs, wherever they stand: the rules of trees and codes. -/
namespace GR
open PySem
section
variable {α β : Type} {M : Model} {A : Around} {E : Value → Shared → Prop} {s : Shared}
def wpAny2 (M : Model) (A : Around) (t : Sem α) (Q : α → Shared → Prop) (E : Value → Shared → Prop) (s : Shared) : Prop := ∀ Γ p, Γ.In A → wp2 M Γ t (fun a _ s' => Q a s') (fun e _ s' => E e s') p s
def codeAny2 (M : Model) (A : Around) (c : Code) (R : Result → Shared → Prop) (s : Shared) : Prop := ∀ Γ p, Γ.code = c → Γ.Below A → wpCode2 M Γ R p s
theorem any_of {t : Sem α} {Q : α → Shared → Prop} (h : wpAny M A t Q E s) : wpAny2 M A t Q E s := fun Γ p hΓ => wp2_of t p s (h Γ p hΓ)
theorem cod_of {c : Code} {R : Result → Shared → Prop} (h : codeAny M A c R s) : codeAny2 M A c R s := fun Γ p hc hΓ => by
  obtain ⟨r, s', h1, h2⟩ := h Γ p hc hΓ
  exact ⟨r, s', ret2_of h1, h2⟩
theorem any_pure {a : α} {Q : α → Shared → Prop} (h : Q a s) : wpAny2 M A (pure a) Q E s := fun _ _ _ => h
theorem any_mono {t : Sem α} {Q Q' : α → Shared → Prop} {E' : Value → Shared → Prop} (h : wpAny2 M A t Q E s) (hQ : ∀ a s, Q a s → Q' a s) (hE : ∀ e s, E e s → E' e s) : wpAny2 M A t Q' E' s :=
  fun Γ p hΓ => wp2_mono t (fun a _ s => hQ a s) (fun e _ s => hE e s) p s (h Γ p hΓ)
theorem any_bind {m : Sem α} {f : α → Sem β} {Q : β → Shared → Prop} (h : wpAny2 M A m (fun a s' => wpAny2 M A (f a) Q E s') E s) : wpAny2 M A (m >>= f) Q E s := fun Γ p hΓ => by
  show wp2 M Γ (m.bind f) _ _ p s
  rw [wp2_bind]
  exact wp2_mono m (fun a p' s' h' => h' Γ p' hΓ) (fun _ _ _ h' => h') p s (h Γ p hΓ)
/-- the head by the kit's rules -/
theorem any_bindL {m : Sem α} {f : α → Sem β} {Q : β → Shared → Prop} (h : wpAny M A m (fun a s' => wpAny2 M A (f a) Q E s') E s) : wpAny2 M A (m >>= f) Q E s := any_bind (any_of h)
theorem any_onRaise {m : Sem α} {k : Value → Sem Unit} {Q : α → Shared → Prop} (h : wpAny2 M A m Q (fun e s' => wpAny2 M A (k e) (fun _ s'' => E e s'') E s') s) : wpAny2 M A (m.onRaise k) Q E s := fun Γ p hΓ => by
  rw [wp2_onRaise]
  exact wp2_mono m (fun _ _ _ h' => h') (fun e p' s' h' => h' Γ p' hΓ) p s (h Γ p hΓ)
theorem any_attempt {m : Sem α} {Q : Except Value α → Shared → Prop} (h : wpAny2 M A m (fun a => Q (.ok a)) (fun e => Q (.error e)) s) : wpAny2 M A m.attempt Q E s := fun Γ p hΓ => by
  have := h Γ p hΓ
  simp only [Sem.attempt, wp2_tryCatch, wp2_bind, wp2]
  exact this
theorem any_holding {vs : List Value} {m : Sem α} {Q : α → Shared → Prop} (h : wpAny2 M A m Q E s) : wpAny2 M A (holding vs m) Q E s := fun Γ p hΓ => by
  rw [wp2_holding]
  exact h Γ p hΓ
theorem any_standAt {pos : Pos} {Q : Unit → Shared → Prop} (h : Q () s) : wpAny2 M A (standAt pos) Q E s := fun _ _ _ => h
theorem cod_mono {c : Code} {R R' : Result → Shared → Prop} (h : codeAny2 M A c R s) (hR : ∀ r s, R r s → R' r s) : codeAny2 M A c R' s := fun Γ p hc hΓ => by
  obtain ⟨r, s', h1, h2⟩ := h Γ p hc hΓ
  exact ⟨r, s', h1, hR _ _ h2⟩
theorem any_run {c : Code} {h : Option Value} {Q : Flow → Shared → Prop} (hc : codeAny2 M (A.mark h) c (fun r s' => match r with | .ok f => Q f s' | .error e => E e s') s) (hnb : h ≠ some byPass := by intro x; cases x) : wpAny2 M A (run c h) Q E s := fun Γ p hΓ => by
  obtain ⟨r, s', h1, h2⟩ := hc _ p rfl (hΓ.enter c h p hnb)
  refine ⟨r, s', h1, ?_⟩
  cases r <;> exact h2
theorem any_runValue {c : Code} {Q : Value → Shared → Prop} (hc : codeAny2 M A c (fun r s' => match r with | .ok (.ret v) => Q v s' | .ok _ => False | .error e => E e s') s) : wpAny2 M A (runValue c) Q E s := by
  refine any_bind (any_run (c := c) (h := none) (Q := fun f s' => wpAny2 M A _ Q E s') (cod_mono hc fun r s' hr => ?_))
  cases r with
  | error e => exact hr
  | ok f =>
    cases f with
    | ret v => exact any_pure hr
    | next => exact hr.elim
    | brk => exact hr.elim
    | cont => exact hr.elim
theorem any_call {f : Value} {pos : List Value} {kw : List (Str × Value)} {Q : Value → Shared → Prop} (hc : codeAny2 M A (.call f ⟨pos, kw⟩) (fun r s' => match r with | .ok (.ret v) => Q v s' | .ok _ => False | .error e => E e s') s) : wpAny2 M A (call f pos kw) Q E s := any_runValue hc
theorem cod_tree {c : Code} {R : Result → Shared → Prop} (h : wpAny2 M (A.under c) (M.den c) (fun fin s' => match fin with | .done f => R (.ok f) s' | .again c' => c'.quiet = true ∧ codeAny2 M A c' R s') (fun e s' => R (.error e) s') s) : codeAny2 M A c R s := fun Γ p hc hΓ => by
  refine code2_of ?_
  rw [hc]
  refine wp2_mono _ (fun fin p' s' h' => ?_) (fun _ _ _ h' => h') p s (h Γ p (hc ▸ hΓ.in))
  cases fin with
  | done f => exact h'
  | again c' => exact ⟨h'.1, h'.2 (Γ.goto c') p' rfl (hΓ.goto c')⟩
theorem cod_loop {c : Code} {R : Result → Shared → Prop} (hq : c.quiet = true) (I : Nat → Shared → Prop)
    (turn : ∀ n s, I n s → wpAny2 M (A.under c) (M.den c) (fun fin s' => match fin with | .done f => R (.ok f) s' | .again c' => c' = c ∧ ∃ m, m < n ∧ I m s') (fun e s' => R (.error e) s') s)
    (n : Nat) (h : I n s) : codeAny2 M A c R s := by
  induction n using Nat.strongRecOn generalizing s with
  | ind n ih =>
    refine cod_tree (any_mono (turn n s h) (fun fin s' hf => ?_) fun _ _ h' => h')
    cases fin with
    | done f => exact hf
    | again c' => obtain ⟨rfl, m, hm, hI⟩ := hf; exact ⟨hq, ih m hm hI⟩
end
/-! ### the whole run -/
section
variable (den : Code → Sem PySem.Fin) (prog : Program) (w : World)
theorem step_calm {M : Model} {s t s' t'} (h : M.step s t = .go s' t') : t.calm = true ∧ stepK M.den M.prog M.w s t = .go s' t' := by
  have hl : t.loud = false := by
    cases hl : t.loud with
    | false => rfl
    | true => rw [M.step_loud hl] at h; cases h
  rw [M.step_quiet hl] at h
  refine ⟨?_, h⟩
  rw [Thread.calm_eq, hl]
  cases hr : t.refused with
  | false => rfl
  | true =>
    obtain ⟨what, e⟩ := stepK_refused M.den M.prog M.w (s := s) hr
    rw [e] at h; cases h
theorem ss_run {M : Model} {s t s' t'} (h : Ss M s t s' t') : ∃ n, runNK M.den M.prog M.w n s t = .running s' t' ∧ ∀ k s1 t1, k < n → runNK M.den M.prog M.w k s t = .running s1 t1 → calm2 s1 t1 := by
  induction h with
  | refl => exact ⟨0, rfl, fun k s1 t1 hk => absurd hk (Nat.not_lt_zero _)⟩
  | @cons s t s1 t1 s2 t2 g _ ih =>
    obtain ⟨n, h1, h2⟩ := ih
    have key : stepK M.den M.prog M.w s t = .go s1 t1 ∧ calm2 s t := by
      cases g with
      | step g => exact ⟨(step_calm g).2, .inl (step_calm g).1⟩
      | yield hy g => exact ⟨g, .inr hy⟩
    refine ⟨n + 1, by simp only [runNK, key.1]; exact h1, fun k s3 t3 hk hr => ?_⟩
    cases k with
    | zero => injection hr with e1 e2; subst e1 e2; exact key.2
    | succ k =>
      simp only [runNK, key.1] at hr
      exact h2 k s3 t3 (Nat.lt_of_succ_lt_succ hk) hr
theorem okYield_forget {s s' : Shared} {t t' : Thread} (hs : s.forget = s'.forget) (ht : t.forget = t'.forget) (h : okYield s t) : okYield s' t' := by
  obtain ⟨v, l, k, a, o, n, rest, kw, fs, b, rs, h1, h2, h3, h4, h5, h6⟩ := h
  obtain ⟨cur, code, pos, stack⟩ := t
  obtain ⟨cur', code', pos', stack'⟩ := t'
  simp only [Thread.forget, Thread.mk.injEq] at ht
  obtain ⟨e1, e2, e3, e4⟩ := ht
  simp only at h1 h2 h5
  subst h1 h2 e1 e2
  have eh : s.heap = s'.heap := (by show s.forget.heap = s'.forget.heap; rw [hs])
  have z := splitAtGen_forgetAll stack'
  rw [← e4, splitAtGen_forgetAll, h5] at z
  cases hq : splitAtGen stack' with
  | none => rw [hq] at z; cases z
  | some x =>
    rw [hq] at z
    simp only [Option.map_some, Option.some.injEq, Prod.mk.injEq] at z
    refine ⟨v, l, k, a, o, n, rest, kw, x.1, x.2.1, x.2.2, rfl, rfl, by rw [← eh]; exact h3, h4, hq, ?_⟩
    rw [← any_guarded_forgetAll, ← z.1, any_guarded_forgetAll]
    exact h6
theorem calm2_forget {s s' : Shared} {t t' : Thread} (hs : s.forget = s'.forget) (ht : t.forget = t'.forget) (h : calm2 s t) : calm2 s' t' := by
  rcases h with h | h
  · exact .inl (by rw [← Thread.calm_forget, ← ht, Thread.calm_forget]; exact h)
  · exact .inr (okYield_forget hs ht h)
theorem leaf_calm (r : Result) (c p st) : Thread.calm ⟨leafOf r, c, p, st⟩ = true := by cases r <;> rfl
theorem ends2 {M : Model} {s s' : Shared} {t : Sem PySem.Fin} {c c' : Code} {p p' : Pos} {r : Result} (hz : s.asleep) (h : Ss M s ⟨t, c, p, []⟩ s' ⟨leafOf r, c', p', []⟩) (hl : leftWithCleanup s'.gens = false) :
    ∃ n s'', runN M.den M.prog M.w n s ⟨t, c, p, []⟩ = .halted (outcomeOf r) s'' ∧ schedN M.den M.prog M.w n (.single s ⟨t, c, p, []⟩) = .halted (outcomeOf r) s'' ∧ s''.forget = s'.forget := by
  obtain ⟨n, h1, h2⟩ := ss_run h
  have real : ∀ k s1 t1, runN M.den M.prog M.w k s ⟨t, c, p, []⟩ = .running s1 t1 → ∃ s2 t2, runNK M.den M.prog M.w k s ⟨t, c, p, []⟩ = .running s2 t2 ∧ s2.forget = s1.forget ∧ t2.forget = t1.forget := fun k s1 t1 hk => by
    have e := runNK_same M.den M.prog M.w k (s₁ := s) (s₂ := s) (t₁ := ⟨t, c, p, []⟩) (t₂ := ⟨t, c, p, []⟩) rfl rfl
    rw [hk] at e
    cases hr : runNK M.den M.prog M.w k s ⟨t, c, p, []⟩ with
    | halted o2 s2 => rw [hr] at e; cases e
    | running s2 t2 =>
      rw [hr] at e
      simp only [Run.forget] at e
      injection e with e1 e2
      exact ⟨s2, t2, rfl, e1, e2⟩
  obtain ⟨s1, t1, hn⟩ : ∃ s1 t1, runN M.den M.prog M.w n s ⟨t, c, p, []⟩ = .running s1 t1 := by
    have e := runNK_same M.den M.prog M.w n (s₁ := s) (s₂ := s) (t₁ := ⟨t, c, p, []⟩) (t₂ := ⟨t, c, p, []⟩) rfl rfl
    rw [h1] at e
    cases hr : runN M.den M.prog M.w n s ⟨t, c, p, []⟩ with
    | halted o2 s2 => rw [hr] at e; cases e
    | running s2 t2 => exact ⟨s2, t2, rfl⟩
  obtain ⟨s2, t2, e0, e1, e2⟩ := real n s1 t1 hn
  rw [h1] at e0
  injection e0 with e3 e4
  subst e3 e4
  obtain ⟨cur1, code1, pos1, stack1⟩ := t1
  simp only [Thread.forget, Thread.mk.injEq, forgetAll_nil] at e2
  obtain ⟨f1, f2, f3, f4⟩ := e2
  have f5 : stack1 = [] := by cases stack1 with
    | nil => rfl
    | cons x y => cases f4
  subst f1 f2 f3 f5
  have hl1 : leftWithCleanup s1.gens = false := by
    rw [← leftWithCleanup_forget, show s1.gens.map GenState.forget = s1.forget.gens from rfl, ← e1]
    show leftWithCleanup (s'.gens.map GenState.forget) = false
    rw [leftWithCleanup_forget]; exact hl
  have last : step M.den M.prog M.w s1 ⟨leafOf r, c', p', []⟩ = .halt (outcomeOf r) s1 := by
    obtain ⟨heap, gens, drawn, toks, os⟩ := s1
    have hl1 : leftWithCleanup gens = false := hl1
    cases r <;> simp [leafOf, outcomeOf, step, finish, hl1]
  have run1 : runN M.den M.prog M.w (n + 1) s ⟨t, c, p, []⟩ = .halted (outcomeOf r) s1 := by
    have app : ∀ k (s0 : Shared) (t0 : Thread), runN M.den M.prog M.w k s0 t0 = .running s1 ⟨leafOf r, c', p', []⟩ → runN M.den M.prog M.w (k + 1) s0 t0 = .halted (outcomeOf r) s1 := by
      intro k
      induction k with
      | zero => intro s0 t0 hk; injection hk with z1 z2; subst z1 z2; simp only [runN, last]
      | succ k ih =>
        intro s0 t0 hk
        rw [runN] at hk ⊢
        cases hs : step M.den M.prog M.w s0 t0 with
        | go s3 t3 => rw [hs] at hk; exact ih s3 t3 hk
        | halt o s3 => rw [hs] at hk; cases hk
    exact app n _ _ hn
  refine ⟨n + 1, s1, run1, ?_, e1.symm⟩
  have q := sched2 M.den M.prog M.w (n + 1) s ⟨t, c, p, []⟩ hz fun k s3 t3 hk hr => ?_
  · rw [q, run1]; rfl
  · obtain ⟨s4, t4, g0, g1, g2⟩ := real k s3 t3 hr
    by_cases hkn : k < n
    · refine ⟨calm2_forget g1 g2 (h2 k s4 t4 hkn g0), fun hx => ?_⟩
      have stop : ∀ j (s0 : Shared) (t0 : Thread), runN M.den M.prog M.w j s0 t0 = .running s3 t3 → ∀ i, runN M.den M.prog M.w (j + (i + 1)) s0 t0 = .halted (.unsupported "lifetime:generator-with-cleanup-left-suspended") s3 := by
        intro j
        induction j with
        | zero => intro s0 t0 hj i; injection hj with z1 z2; subst z1 z2; rw [Nat.zero_add, runN, hx]
        | succ j ih =>
          intro s0 t0 hj i
          rw [Nat.succ_add, runN]
          rw [runN] at hj
          cases hs : step M.den M.prog M.w s0 t0 with
          | go s5 t5 => rw [hs] at hj; exact ih s5 t5 hj i
          | halt o s5 => rw [hs] at hj; cases hj
      have z := stop k _ _ hr (n - k - 1)
      rw [show k + (n - k - 1 + 1) = n by omega, hn] at z
      cases z
    · have hk2 : k = n := by omega
      subst hk2
      rw [hn] at hr
      injection hr with z1 z2
      subst z1 z2
      refine ⟨.inl (leaf_calm ..), fun hx => ?_⟩
      rw [last] at hx
      injection hx with z _
      cases r <;> cases z
/-- the counterpart of the kit's last step -/
theorem thread_ends2 {prog : Program} {w : World} {t : Sem PySem.Fin} {s : Shared} {R : Result → Shared → Prop} (hreg : s.asleep)
    (h : wpAny2 (model prog w) callerA t (fun fin s' => ∃ f, fin = .done f ∧ (R (.ok f) s' ∧ leftWithCleanup s'.gens = false)) (fun e s' => R (.error e) s' ∧ leftWithCleanup s'.gens = false) s) :
    ∃ n r s' s'', runN (denote table) prog w n s ⟨t, .builtin "claim.caller" {}, default, []⟩ = .halted (outcomeOf r) s' ∧
      schedN (denote table) prog w n (.single s ⟨t, .builtin "claim.caller" {}, default, []⟩) = .halted (outcomeOf r) s' ∧ s'.forget = s''.forget ∧ R r s'' := by
  have h2 := h ⟨.builtin "claim.caller" {}, none, none, [], none⟩ default caller_in
  obtain ⟨r, s', ⟨hR, hl⟩, hs⟩ := wp2_ss (Γ := ⟨.builtin "claim.caller" {}, none, none, [], none⟩) (R := fun r s' => R r s' ∧ leftWithCleanup s'.gens = false) t default s (wp2_mono t (fun fin _ s' ⟨f, e, q⟩ => by subst e; exact q) (fun e _ s' q => q) _ _ h2)
  obtain ⟨c', p', hs⟩ := hs [] ⟨rfl, rfl, rfl, rfl⟩
  obtain ⟨n, s'', h3, h4, h5⟩ := ends2 hreg hs hl
  exact ⟨n, r, s'', s', h3, h4, h5, hR⟩
end
end GR

/-! GRd: from such a run to the law's row. -/
noncomputable section
namespace GR
open PySem PySem.W PySem.Calls PyProof.Rows
/-- what is asked of the law's def -/
abbrev WalkO2 (q : Program) (loose : List Str) (XP : (Str → Option Value) → Heap → Prop) (YP : World → Heap → Prop) (r : RowW) (d : DefRec) (kwd : List (Str × Expr)) (run : Value → List Value → Sem Value) : Prop :=
  ∀ (w : World) (s₀ s₁ : Shared) (mg mb : Str → Option Value), Ground q loose r.records XP w s₀ mg mb s₁.heap → YP w s₁.heap → ∀ (a : Addr) (o : Obj) (pm cd doc dV kV : Value), s₁.heap.get? a = some o →
    o.data = .func { docDef d.name d.params d.body d.scope pm cd doc with defaults := dV, kwdefaults := kV } → s₁.heap.CodeRec cd d.name → Dflts mg s₁.heap d.params kwd dV kV → mg d.name = some (.ref a) → s₁.gens = #[] →
    ∀ (args : List WData) (vals : List Value) (as : List Addr), r.claim.pre args = true → WData.layableAll args = true → ReadsAllW r.records (classAt s₀.heap) s₁.heap vals args as → WellAll w.params s₁.heap vals args → (∀ a ∈ as, (a == sysModules) = false) →
      wpAny2 (model r.prog w) callerA (run (.ref a) vals) (fun v s' => GoodWG r.claim (classAt s₀.heap) (ExcName.means s₀.heap) args s₁ (.ok (.ret v)) s')
        (fun e s' => GoodWG r.claim (classAt s₀.heap) (ExcName.means s₀.heap) args s₁ (.error e) s') s₁
theorem callFrom2 {c : ClaimW} {tree : List Value → Sem PySem.Fin} {w : World} {s : Shared} {free : Addr → Prop} {gens : Prop} {kept : Heap → Prop} (hz : s.asleep) (hgens : s.gens = #[])
    (h : ∀ args, c.pre args = true → WData.layableAll args = true → ∀ ord : List DictEntry → List DictEntry, (∀ l, (ord l).Perm l) →
      ∃ vs s₁, layAllW c.records (classAt s.heap) w.params ord args s = some (vs, s₁) ∧
        wpAny2 (model c.prog w) callerA (tree vs) (fun fin s' => ∃ f, fin = .done f ∧ (c.Ends s args vs s₁ (.ok f) s' ∧ s'.os = s.os ∧ AllBare s'.gens ∧ kept s'.heap))
          (fun e s' => c.Ends s args vs s₁ (.error e) s' ∧ s'.os = s.os ∧ AllBare s'.gens ∧ kept s'.heap) s₁) :
    c.CallFrom (fun vs => ⟨tree vs, .builtin "claim.caller" {}, default, []⟩) w free gens kept s := by
  intro args hpre hlay ord hord
  obtain ⟨vs, s₁, hlaid, hcode⟩ := h args hpre hlay ord hord
  have hal := layAllW_rest _ _ _ hlaid
  obtain ⟨k, r, s', s'', hrun, hsched, hfo, hcase, hos, hkp⟩ := thread_ends2 (prog := c.prog) (w := w) (t := tree vs) (s := s₁) (R := fun r s' => c.Ends s args vs s₁ r s' ∧ s'.os = s.os ∧ kept s'.heap) (Shared.asleep_of_life hal.2.2.2 hz)
    (any_mono hcode (fun fin s' ⟨f, e, h1, h2, h3, h4⟩ => ⟨f, e, ⟨h1, h2, h4⟩, leftWithCleanup_false_of_bare h3⟩) fun e s' ⟨h1, h2, h3, h4⟩ => ⟨⟨h1, h2, h4⟩, leftWithCleanup_false_of_bare h3⟩)
  obtain ⟨eh, _, _, eo, _⟩ := Shared.forget_eq hfo
  have hcase := hcase.congr eh
  rw [← eh] at hkp
  rw [← eo] at hos
  refine ⟨vs, s₁, hlaid, k, _, s', hsched, ?_, (fun _ i x hx => by rw [hgens] at hx; simp at hx), hkp, by rw [(runN_life _ _ _ hrun).trans hal.2.2.2], Shared.rest_eq hos⟩
  rcases hcase with ⟨v, rfl, d1, d2, d3, d4, d5⟩ | ⟨e, ob, cls, rfl, d1, d2, d3, d4, d5⟩
  · exact .inl ⟨v, rfl, d1, d2, d3, fun b o y _ => d4 b o y, d5⟩
  · exact .inr ⟨e, ob, cls, rfl, d1, d2, d3, d4, fun b o y _ => d5 b o y⟩
theorem holds2 {r : OpenRow} {q : Program} {loose : List Str} {Xt : Shared → Bool} {XP : (Str → Option Value) → Heap → Prop} {α : Type} {Yf : Shared → α} {Ya : World → α} {YP : World → Heap → Prop} {d : DefRec} {kwd : List (Str × Expr)} {N : Nat}
    (left : LeftO r.prog q loose Xt Yf Ya N) (hY : ∀ w s, Yf s = Ya w → YP w s.heap) (hYk : ∀ w h h', YP w h → (∀ b o, h.get? b = some o → h'.get? b = some o) → YP w h')
    (hX : ∀ s, Xt s = true → XP (s.heap.nsMap mainGlobals) s.heap) (hXk : ∀ mg h h', XP mg h → (∀ b o, h.get? b = some o → h'.get? b = some o) → XP mg h')
    (hdef : defOf q r.name = some (d, kwd)) (hp : r.prog.theDef r.name = some (d.params, d.body, d.scope)) (hk : kwWritten? d.params.kwonlyargs d.params.kw_defaults = some kwd) (hRf : ∀ s, Xt s = true → RecFacts r.records s.heap) (hwr : (!r.writes || r.records.isEmpty) = true)
    (k1 : r.wellSaid = true) (ok : (chainsOk q && opensWell r.prog && (frees r.toRowW && r.within.isEmpty)) = true) (hb : r.prog.bare) (hw : r.toRowW.promised)
    (call : WalkO2 q loose XP YP r.toRowW d kwd fun f vs => PySem.call f vs) : r.Holds := by
  refine ⟨k1, hw, ?_⟩
  obtain ⟨ok, k5⟩ := Bool.and_eq_true_iff.mp ok
  obtain ⟨hch, o1⟩ := Bool.and_eq_true_iff.mp ok
  obtain ⟨k5, k6⟩ := Bool.and_eq_true_iff.mp k5
  obtain ⟨hsame, hu, ha, hap, hm⟩ := frees_parts k5
  refine ⟨⟨hb, o1, by show r.toRowW.makers.map _ = []; rw [hm]; rfl⟩, hw.witness, fun w => ⟨(left.behind hX hch w).1, fun s' hs' => ?_⟩⟩
  obtain ⟨s₀, hf, hg0, s, hT, hz, hgens, hg, G00, y⟩ := (left.behind (XP := fun mg h => XP mg h ∧ RecFacts r.records h) (fun s hs => ⟨hX s hs, hRf s hs⟩) hch w).2 s' hs'
  have G0 : Ground q loose [] XP w s (s.heap.nsMap mainGlobals) (s.heap.nsMap builtinsNs) s.heap := ⟨G00.T, G00.B, G00.D, G00.TE, G00.TD, G00.W, G00.X.1, G00.cls, G00.has, G00.apart, G00.once, G00.K⟩
  have RF := G00.X.2
  have hT' := hT
  refine ⟨s₀, hf, hg0, s, hT, fun n hn => ?_, RF.1, RF.2.1, ?_⟩
  · obtain rfl : n = r.name := by split at hn <;> simp_all
    exact pinned_of_view hg G0 hdef hp hk
  have hgens : s.gens = #[] := Array.eq_empty_of_size_eq_zero (beq_iff_eq.mp hgens)
  have G : Ground q loose r.records XP w s _ _ s.heap := RF.ground G0
  refine callFrom2 (c := r.toRowW.claim) hz hgens fun args hpre hlay ord hord => ?_
  obtain ⟨⟨vs, s₁⟩, hlaid⟩ := Option.isSome_iff_exists.mp (layAllW_isSome (P := w.params) (ord := ord) G.has args r.args s (pre_splitW hpre).1)
  have keeps := layAllW_keeps _ _ _ hlaid
  have hal := layAllW_rest _ _ _ hlaid
  obtain ⟨as, hrd, hin, hold⟩ := reads_layAllW hord _ _ _ hlaid hlay s₁.heap (fun _ _ e => e)
  have L : Laid r.records w s s₁ args vs as := ⟨⟨ord, hord, hlaid⟩, hrd, hin, hold, keeps, hal.1.trans hgens, hal.2.2.1⟩
  have G₁ := G.keeps hXk keeps
  obtain ⟨a, o, pm, cd, doc, dV, kV, h1, h2, h3, h4, h5⟩ := G₁.fn hdef
  have h := call w s s₁ _ _ G₁ (hYk _ _ _ (hY w s y) keeps) a o pm cd doc dV kV h2 h3 h4 h5 (defOf_name hdef ▸ h1) L.gens args vs as hpre hlay L.reads L.well (L.low G.low)
  have hi := ident_freeW (r := r.toRowW) hu ha hap
  have hwi : r.toRowW.claim.within = [] := List.isEmpty_iff.mp k6
  refine ⟨vs, s₁, hlaid, any_bindL (wpAny_nsGet G₁.T.g (by
    rw [h1]
    exact any_bind (any_mono h (fun v s' g => any_pure ⟨_, rfl, have z := g.laid (c := r.toRowW.claim) hsame hwi hi L; ⟨z.1, z.2.1, z.2.2, fun q => ⟨namesKept_of hT' hg _ keeps g.2.1.old, noTable hwr q⟩⟩⟩) fun e s' g => have z := g.laid (c := r.toRowW.claim) hsame hwi hi L; ⟨z.1, z.2.1, z.2.2, fun q => ⟨namesKept_of hT' hg _ keeps g.2.1.old, noTable hwr q⟩⟩)))⟩
theorem head2 {r : OpenRow} {q : Program} {H : Hook} {ob : SharedT → H.α} {M : Nat} {loose : List PySem.Str} {d : DefRec} {kwd : List (PySem.Str × PySem.Expr)} (ho : ∀ s : SharedT, ob s = H.obs s.abs)
    (e : opening r.prog = plainProg r.prog.main.scope.names) (f : ∀ s, fenceModules? r.prog s = some s) (run : ∀ w, HandSHeadRun.RunEq r q H ob M loose w)
    (hdef : defOf q r.name = some (d, kwd)) (hp : r.prog.theDef r.name = some (d.params, d.body, d.scope)) (hk : kwWritten? d.params.kwonlyargs d.params.kw_defaults = some kwd)
    (hwr : (!r.writes || r.records.isEmpty) = true) (k1 : r.wellSaid = true) (ok : (chainsOk q && opensWell r.prog && (frees r.toRowW && r.within.isEmpty)) = true) (hb : r.prog.bare) (hw : r.toRowW.promised)
    (call : WalkO2 q loose (XL q []) H.says r.toRowW d kwd fun f vs => PySem.call f vs) : r.Holds := by
  have left : LeftO r.prog q loose (fun s => xlAt q [] s && recOk r.toRowW.records s) H.obs H.val (M + 600) true :=
    HandSHeadRun.left_one (M := M) e (Nat.ble_eq_true_of_le (by omega)) f (Nat.ble_eq_true_of_le (by omega)) fun w os => by
      have z := run w os
      have eo : ob = fun s => H.obs s.abs := funext ho
      rw [eo] at z
      simp only [HandSHeadRun.endQ_eq, HandSHeadRun.seenQ_eq]
      exact z
  exact holds2 (r := r) (q := q) (loose := loose) (XP := XL q []) (YP := H.says) (d := d) (kwd := kwd) left H.of H.keeps (fun s z => xl_of s (Bool.and_eq_true_iff.mp z).1) XL.keeps hdef hp hk (fun s z => recFacts_of (Bool.and_eq_true_iff.mp z).2) hwr k1 ok hb hw call
end GR

/-! GRq: statements, calls and defs in runs of the second kind. -/
namespace QL
open PySem PySem.Spec PyProof.Rows L2 GR
section
variable {prog : Program} {w : World} {A : Around} {E : Value → Shared → Prop} {s : Shared} {env : PySem.Env}
theorem any_execs_cons {st : Stmt} {rest : List Stmt} {Q : Flow → Shared → Prop} (h : wpAny2 (model prog w) A (exec st env) (fun f s' => match f with | .next => wpAny2 (model prog w) A (execs rest env) Q E s' | f => Q f s') E s) : wpAny2 (model prog w) A (execs (st :: rest) env) Q E s := by
  rw [execs_cons]
  refine any_bind (any_mono h (fun f s' h' => ?_) fun _ _ x => x)
  cases f <;> first | exact h' | exact any_pure h'
theorem any_If {test : Expr} {body orelse : List Stmt} {pos : Pos} {Q : Flow → Shared → Prop} (h : wpAny2 (model prog w) A (isTrue test env (eval test env)) (fun b s₂ => if b then wpAny2 (model prog w) A (execs body env) Q E s₂ else wpAny2 (model prog w) A (execs orelse env) Q E s₂) E s) :
    wpAny2 (model prog w) A (exec (.If test body orelse pos) env) Q E s := by
  rw [exec_If]
  refine any_bind (any_standAt (any_bind (any_mono h (fun b s2 h2 => ?_) fun _ _ x => x)))
  cases b <;> exact h2
theorem func2 {R : Result → Shared → Prop} {body : List Stmt} (h : wpAny2 (model prog w) (A.deeper env) (execs body env) (fun f s' => R (.ok (.ret (match f with | .ret v => v | _ => .none))) s')
      (fun e s' => wpAny (model prog w) (A.deeper env) (leaving env e) (fun _ s'' => R (.error e) s'') (fun e' s'' => R (.error e') s'') s') s) : codeAny2 (model prog w) A (.func body env) R s := by
  refine cod_tree ?_
  show wpAny2 _ (A.deeper env) (do point; match ← (execs body env).onRaise (leaving env) with | .ret v => ret v | _ => ret .none) _ _ s
  refine any_bindL (wpAny_point (any_bind (any_onRaise (any_mono h (fun f s' h' => ?_) fun _ _ h' => any_of h'))))
  cases f <;> exact any_pure h'
theorem call_function2 {R : Result → Shared → Prop} {a : Addr} {args : Args} {o : Obj} {fd : FuncData} {body : List Stmt} (hroom : A.depth < recursionLimit) (ho : s.heap.get? a = some o) (hd' : o.data = .func fd) (hco : fd.scope.isCoroutine = false) (hgen : fd.scope.isGenerator = false) (hbody : fd.body = .stmts body) (hcd : s.heap.CodeRec fd.code fd.qualname)
    (h : wpAny (model prog w) A.in1 (bindArgs fd args) (fun binds s₁ => wpAny (model prog w) A.in1 (newFunctionEnv fd.scope fd.globals fd.closure binds (fd.qualname ++ ".<locals>.") (some a) fd.code none fd.builtins)
        (fun env s₂ => s₂.heap.NoLimit ∧ codeAny2 (model prog w) A (.func body env) R s₂) (fun e s' => R (.error e) s') s₁) (fun e s' => R (.error e) s') s) : codeAny2 (model prog w) A (.call (.ref a) args) R s := by
  refine cod_tree ?_
  show wpAny2 _ A.in1 (callAny (.ref a) args) _ _ s
  simp only [callAny]
  refine any_bindL (wpAny_load ho ?_)
  obtain ⟨c, oc, vs, tq, hc, hoc, hdc, hq⟩ := hcd
  simp only [hd', callFunction, hco, hgen, hbody, hc]
  rw [hc] at h
  refine any_bindL (m := field (.ref c) 1) (wpAny_field hoc hdc hq (any_bindL (wpAny_pure ?_)))
  exact any_bindL (wpAny_mono h (fun binds s₁ h₁ => any_bindL (wpAny_mono h₁ (fun env s₂ h₂ => any_bindL (wpAny_enterFrame h₂.1 hroom (any_pure (And.intro rfl h₂.2)))) fun _ _ h' => h')) fun _ _ h' => h')
end
theorem call_fn2 {P : Program} {w : World} {A : Around} {s : Shared} {K : PySem.W.Frag} {R : Result → Shared → Prop} {name qual : Str} {params : Arguments} {body : List Stmt} {scope : Scope} {dV kV doc pm cdv ct oc : Value} {an od : Option Addr} {osl : Array (Option Value)} {f : Addr} {args : Args} {binds : List (Str × Value)}
    (X : K.In s.heap) (hlim : s.heap.NoLimit) (ho : K.lookup f = some ⟨oc, od, .func (PySem.W.fnOf name qual params body scope dV kV doc pm an cdv ct), osl⟩) (hcd : PySem.W.codeIn K cdv qual = true) (hroom : A.depth < recursionLimit)
    (hbind : BindsTo s (PySem.W.fnOf name qual params body scope dV kV doc pm an cdv ct) args binds)
    (hkind : (binds.all fun y => scope.names.lookup y.1 == some .local || scope.names.lookup y.1 == some .cell) = true)
    (h : ∀ s₁, InCallC s s.heap.objs.size (bindL (envOfC qual scope s.heap.objs.size f cdv).kindOf binds fun _ => none) (cellsFrom (s.heap.objs.size + 1) scope.names []) (bindC (envOfC qual scope s.heap.objs.size f cdv).kindOf binds fun _ => none) s₁ →
      wpAny2 (model P w) (A.deeper (envOfC qual scope s.heap.objs.size f cdv)) (execs body (envOfC qual scope s.heap.objs.size f cdv)) (fun fl s' => R (.ok (.ret (match fl with | .ret v => v | _ => .none))) s')
        (fun e s' => wpAny (model P w) (A.deeper (envOfC qual scope s.heap.objs.size f cdv)) (leaving (envOfC qual scope s.heap.objs.size f cdv) e) (fun _ s'' => R (.error e) s'') (fun e' s'' => R (.error e') s'') s') s₁)
    (hco : scope.isCoroutine = false) (hgen : scope.isGenerator = false) (hk : scope.kind = .function) : codeAny2 (model P w) A (.call (.ref f) args) R s := by
  refine call_function2 hroom (X _ _ ho) rfl hco hgen rfl (PySem.W.codeRec_of X hcd) (hbind _ _ _ _ ?_)
  refine wpAny_newFunctionEnv_cells hk (fun y hy => ?_) fun env he s₁ x => ?_
  · have z := List.all_eq_true.mp hkind y hy
    simp only [Bool.or_eq_true, beq_iff_eq] at z
    rcases z with z | z
    · exact .inl z
    · exact .inr ⟨z, PySem.W.cellsFrom_some _ _ _ (.inl z)⟩
  · subst he
    exact ⟨hlim.keeps x.toInCall.keep, func2 (h s₁ x)⟩
/-! ### judgements -/
section
variable {Tq : List (Addr × Str)}
def WE2 (Z : Zb Tq) (X : Cx) (e : Expr) (env : Env) (P : R → Env → Prop) : Prop :=
  ∀ (pins : List (Addr × Obj)) (s : Shared) (σ : L2.St) (H F : Hp) (O : List Addr), Inv X pins σ H s → Bas Z F H O → OwE F H O σ env → wpAny2 (model X.prog X.w) X.A (eval e X.env) (EP X pins σ (Post Z σ H F O P)) X.xe s
def WT2 (Z : Zb Tq) (X : Cx) (e : Expr) (env : Env) (P : Bool → Env → Prop) : Prop :=
  ∀ (pins : List (Addr × Obj)) (s : Shared) (σ : L2.St) (H F : Hp) (O : List Addr), Inv X pins σ H s → Bas Z F H O → OwE F H O σ env → wpAny2 (model X.prog X.w) X.A (isTrue e X.env (eval e X.env)) (TP X pins σ (PostT Z σ H F O P)) X.xe s
def WS2 (Z : Zb Tq) (X : Cx) (st : Stmt) (env : Env) (P : Out → Prop) : Prop :=
  ∀ (pins : List (Addr × Obj)) (s : Shared) (σ : L2.St) (H F : Hp) (O : List Addr), Inv X pins σ H s → Bas Z F H O → OwE F H O σ env → wpAny2 (model X.prog X.w) X.A (exec st X.env) (SP X pins (endsOf Z H F O P)) X.xe s
def WSs2 (Z : Zb Tq) (X : Cx) (st : List Stmt) (env : Env) (P : Out → Prop) : Prop :=
  ∀ (pins : List (Addr × Obj)) (s : Shared) (σ : L2.St) (H F : Hp) (O : List Addr), Inv X pins σ H s → Bas Z F H O → OwE F H O σ env → wpAny2 (model X.prog X.w) X.A (execs st X.env) (SP X pins (endsOf Z H F O P)) X.xe s
variable {Z : Zb Tq} {X : Cx} {e c : Expr} {env : Env} {st : Stmt} {rest body els : List Stmt} {pos : Pos} {P : Out → Prop}
theorem WE.two {PR : R → Env → Prop} (h : WE Z X e env PR) : WE2 Z X e env PR := fun pins s σ H F O I b o => any_of (h pins s σ H F O I b o)
theorem WT.two {PT : Bool → Env → Prop} (h : WT Z X e env PT) : WT2 Z X e env PT := fun pins s σ H F O I b o => any_of (h pins s σ H F O I b o)
theorem WS.two (h : WS Z X st env P) : WS2 Z X st env P := fun pins s σ H F O I b o => any_of (h pins s σ H F O I b o)
theorem WSs.two (h : WSs Z X rest env P) : WSs2 Z X rest env P := fun pins s σ H F O I b o => any_of (h pins s σ H F O I b o)
theorem WE2.imp {P1 P2 : R → Env → Prop} (h : WE2 Z X e env P1) (hp : ∀ r e, P1 r e → P2 r e) : WE2 Z X e env P2 := fun pins s σ H F O I b o =>
  any_mono (h pins s σ H F O I b o) (EP.imp fun v H1 ⟨F1, O1, r, e1, b1, st, fr, p⟩ => ⟨F1, O1, r, e1, b1, st, fr, hp _ _ p⟩) fun _ _ x => x
def seqP2 (Z : Zb Tq) (X : Cx) (rest : List Stmt) (P : Out → Prop) : Out → Prop
  | .nx e => WSs2 Z X rest e P
  | .ret t e => P (.ret t e)
  | .bk e => P (.bk e)
  | .ct e => P (.ct e)
theorem wss2_cons (h : WS2 Z X st env (seqP2 Z X rest P)) : WSs2 Z X (st :: rest) env P := fun pins s σ H F O I b o => by
  refine any_execs_cons (any_mono (h pins s σ H F O I b o) (fun f s1 q => ?_) fun _ _ x => x)
  cases f with
  | next =>
    obtain ⟨σ', H', I', F', O', e', b', o', f', p⟩ := q
    exact any_mono (p pins s1 σ' H' F' O' I' b' o') (SP.le (endsOf.from f' fun _ q => q)) fun _ _ x => x
  | ret v => exact q
  | brk => exact q
  | cont => exact q
/-- a statement of the first kind, then the rest -/
theorem wss2_consL (h : WS Z X st env (seqP2 Z X rest P)) : WSs2 Z X (st :: rest) env P := wss2_cons h.two
theorem wss2_nil (h : P (.nx env)) : WSs2 Z X [] env P := (wss_nil h).two
theorem wss2_one (h : WS2 Z X st env P) : WSs2 Z X [st] env P := fun pins s σ H F O I b o => by
  refine any_execs_cons (any_mono (h pins s σ H F O I b o) (fun f s1 q => ?_) fun _ _ x => x)
  cases f with
  | next => exact any_of (wpAny_execs_nil q)
  | ret v => exact q
  | brk => exact q
  | cont => exact q
theorem ws2_if (h : WT2 Z X c env fun k e1 => (k = true → WSs2 Z X body e1 P) ∧ (k = false → WSs2 Z X els e1 P)) : WS2 Z X (.If c body els pos) env P := fun pins s σ H F O I b o => by
  refine any_If (any_mono (h pins s σ H F O I b o) (fun k s1 ⟨H1, I1, F1, O1, e1, b1, o1, fr, p⟩ => ?_) fun _ _ x => x)
  cases k with
  | true => exact any_mono (p.1 rfl pins s1 σ H1 F1 O1 I1 b1 o1) (SP.le (endsOf.from fr fun _ q => q)) fun _ _ x => x
  | false => exact any_mono (p.2 rfl pins s1 σ H1 F1 O1 I1 b1 o1) (SP.le (endsOf.from fr fun _ q => q)) fun _ _ x => x
/-! tests -/
theorem wt2_not {PT : Bool → Env → Prop} (h : WT2 Z X e env fun k e1 => PT (!k) e1) : WT2 Z X (.UnaryOp .Not e pos) env PT := fun pins s σ H F O I b o => by
  show wpAny2 _ _ (do return !(← isTrue e X.env (eval e X.env))) _ _ _
  exact any_bind (any_mono (h pins s σ H F O I b o) (fun c s' ⟨H1, I1, F1, O1, e1, b1, o1, fr, p⟩ => any_pure ⟨H1, I1, F1, O1, e1, b1, o1, fr, p⟩) fun _ _ x => x)
theorem wt2_val {PT : Bool → Env → Prop} (h : WE2 Z X e env fun r e1 => ∃ d, r = .t (.va (.bool d)) ∧ PT d e1) (he : ∀ whole, isTrue e X.env whole = (do let v ← whole; standAt e.pos; holding [v] (truthy v)) := by intro _; rfl) : WT2 Z X e env PT := fun pins s σ H F O I b o => by
  rw [he]
  refine any_bind (any_mono (h pins s σ H F O I b o) (fun v s1 ⟨x, H1, I1, r1, F1, O1, r, e1, b1, st, fr, d, er, p⟩ => ?_) fun _ _ x => x)
  subst er
  obtain ⟨O2, O3, rfl, o2, w2⟩ := st
  cases w2 with
  | va rq =>
    cases rq with
    | bl =>
      obtain rfl : v = Value.bool d := r1
      rw [List.append_nil] at b1 fr
      exact any_bind (any_standAt (any_holding (any_of (wpAny_truthy_bool ⟨H1, I1, F1, O2, e1, b1, o2, fr, p⟩))))
end
/-! ### defs -/
structure FnG2 (P : Program) (w : World) (K : PySem.W.Frag) (mg : Str → Option Value) (base : Heap) (Tq : List (Addr × Str)) (k : Nat) (f : Addr) (fd : FuncData) (ps : List Str) (sp : Spc) : Prop where
  len : ∀ ts Q E, sp ts Q E → ts.length = ps.length
  run : ∀ (A : Around) (outer : List PySem.Env) (s : Shared) (H : Hp) (args : Args) (us : List Value) (vs : List V) (F : Hp) (O : List Addr) (ts : List T) (QT : T → List (Option T) → Prop) (ET : Ex → List (Option T) → Prop) (E : XK) (tbs : TabZ Tq H F O),
    Room k A → A.guards = some [] → Env0 P w K mg base A outer s H → BindsTo s fd args (ps.zip us) → Vals vs us → Bas ⟨H, F, O, tbs⟩ F H O → StV F H O vs ts → sp ts QT ET →
    (∀ ex ts' cls d H' F' O', Bas ⟨H, F, O, tbs⟩ F' H' O' → StVO F' H' O' vs ts' → ExAt F' ex cls d → ET ex ts' → E cls d H') →
    codeAny2 (model P w) A (.call (.ref f) args) (CR (L2.CX P w) outer P w H s (fun v H' => ∃ F' O1 O2 t ts', Bas ⟨H, F, O, tbs⟩ F' H' (O1 ++ O2) ∧ StVO F' H' O1 vs ts' ∧ Ow F' H' O2 v t ∧ QT t ts') E) s
theorem FnG2.mono {P : Program} {w : World} {K : PySem.W.Frag} {mg : Str → Option Value} {base : Heap} {Tq : List (Addr × Str)} {j k : Nat} {f : Addr} {fd : FuncData} {ps : List Str} {sp : Spc} (G : FnG2 P w K mg base Tq j f fd ps sp) (h : j ≤ k) : FnG2 P w K mg base Tq k f fd ps sp :=
  ⟨G.len, fun A outer s H args us vs F O ts QT ET E tbs hr => G.run A outer s H args us vs F O ts QT ET E tbs (hr.mono h)⟩


section
variable {Tq : List (Addr × Str)} {Z : Zb Tq} {X : Cx} {env : Env} {P : R → Env → Prop} {ET : Ex → Env → Prop}
theorem call_g2 {k : Nat} {f : Addr} {fd : FuncData} {ps : List Str} {sp : Spc} {as : List A} {vs : List V} {us us0 : List Value} {kw : List (Str × Value)} {pins : List (Addr × Obj)} {s : Shared} {σ : L2.St} {H F : Hp} {O : List Addr}
    (G : FnG2 X.prog X.w X.K X.mg X.base Tq k f fd ps sp) (hr : Room k X.A) (hg : X.A.guards = some []) (tk : Takes X (wxOf Z ET)) (hb : BindsTo s fd ⟨us0, kw⟩ (ps.zip us)) (I : Inv X pins σ H s) (b : Bas Z F H O) (o : OwE F H O σ env)
    (st : StAs F vs as) (r : Vals vs us) (h : callD sp as env (fun t e => P (.t t) e) ET) : wpAny2 (model X.prog X.w) X.A (call (.ref f) us0 kw) (EP X pins σ (Post Z σ H F O P)) X.xe s := by
  obtain ⟨ts, e2, Oc, Or, pm, sv, o2, h⟩ := deref_ok st o h
  have bc := (b.perm pm).left.entry
  have ex : ∀ c ∈ Or, Held H c := o2.held
  refine any_call (cod_mono (G.run X.A X.stack s H ⟨us0, kw⟩ us vs F Oc ts _ _ (fun cls d H' => ∃ e ts' F' O', Bas ⟨H, F, Oc, (b.perm pm).left.tabs⟩ F' H' O' ∧ StVO F' H' O' vs ts' ∧ ExAt F' e cls d ∧ putb as ts' e2 fun e3 => ET e e3) (b.perm pm).left.tabs hr hg I.env0 hb r bc sv h
    fun e ts' cls d H' F' O' b' s' x' q => ⟨e, ts', F', O', b', s', x', q⟩) fun rs s' hq => ?_)
  have back : ∀ {F' H' : Hp} {O1 O2 : List Addr} {ts' : List (Option T)} {kk : Env → Prop}, Bas ⟨H, F, Oc, (b.perm pm).left.tabs⟩ F' H' (O1 ++ O2) → StVO F' H' O1 vs ts' → putb as ts' e2 kk →
      ∃ e3 O3, OwE F' H' O3 σ e3 ∧ Bas Z F' H' (O3 ++ O2) ∧ Frm Tq H F O H' F' (O3 ++ O2) ∧ kk e3 := fun {F' H' O1 O2 ts' kk} b' s' q => by
    have fr := b'.abs
    have b3 := Bas.frame fr (b.perm pm) b' ex
    have keep := fr.rest (R := Or) (pm.nodup b.nd) ex
    obtain ⟨e3, O3, Od, o3, p3, q3⟩ := putb_ok st s' (o2.stay fr.fz keep) q
    have p4 : ((O1 ++ O2) ++ Or).Perm ((O3 ++ O2) ++ Od) := by
      have e1 : ((O1 ++ O2) ++ Or).Perm ((O1 ++ Or) ++ O2) := by
        rw [List.append_assoc, List.append_assoc]
        exact List.perm_append_comm.append_left O1
      have e2 : ((O3 ++ O2) ++ Od).Perm ((O3 ++ Od) ++ O2) := by
        rw [List.append_assoc, List.append_assoc]
        exact List.perm_append_comm.append_left O3
      exact e1.trans ((p3.append_right O2).trans e2.symm)
    exact ⟨e3, O3, o3, (b3.perm p4).left, (fr.frame (R := Or)).perm (fun c => pm.symm.mem_iff) (fun c hc => p4.mem_iff.mpr (List.mem_append_left _ hc)), q3⟩
  cases rs with
  | error e =>
    refine tk e s' (XE.of_call I (fun cls d H' hE => ?_) hq)
    obtain ⟨x, ts', F', O', b', sv', xa, q⟩ := hE
    obtain ⟨e3, O3, o3, b3, fr3, q3⟩ := back (O2 := []) (by rw [List.append_nil]; exact b') sv' q
    rw [List.append_nil] at b3 fr3
    exact ⟨F', O3, e3, x, b3, o3, xa, q3⟩
  | ok fl =>
    cases fl with
    | ret u =>
      refine EP.imp (fun v H' q => ?_) u s' (I.after hq)
      obtain ⟨F', O1, O2, t, ts', b', sv', w', q⟩ := q
      obtain ⟨e3, O3, o3, b3, fr3, q3⟩ := back b' sv' q
      exact ⟨F', O3 ++ O2, .t t, e3, b3, ⟨O3, O2, rfl, o3, w'⟩, fr3, q3⟩
    | next => exact hq.elim
    | brk => exact hq.elim
    | cont => exact hq.elim

/-! ### f(a, ..), f(a, .., k = b, ..) -/
end
theorem fn_g2 {P : Program} {w : World} {K : PySem.W.Frag} {mg : Str → Option Value} {base : Heap} {Tq : List (Addr × Str)} {x qual : Str} {st : Stmt} {f : Addr} {fd : FuncData} {N ps : List Str} {k : Nat} {sp : Spc} (Fn : Fun K x qual st f fd) (S : FnScope N ps (defScope st)) (len : ∀ ts Q E, sp ts Q E → ts.length = ps.length)
    (hbody : ∀ (cdv : Value) (A : Around) (outer : List PySem.Env) (s : Shared) (H : Hp) (E : XK) (Z : Zb Tq) (ts : List T) (QT : T → List (Option T) → Prop) (ET : Ex → List (Option T) → Prop), Room k (BX P w K mg base N qual st f cdv A outer s H E).A → (BX P w K mg base N qual st f cdv A outer s H E).A.guards = some [] →
      PassesOwn (model P w) (BX P w K mg base N qual st f cdv A outer s H E).A (BX P w K mg base N qual st f cdv A outer s H E).env (BX P w K mg base N qual st f cdv A outer s H E).xe →
      Takes (BX P w K mg base N qual st f cdv A outer s H E) (wxOf Z fun ex e => back ts e (ET ex)) → sp ts QT ET → WSs2 Z (BX P w K mg base N qual st f cdv A outer s H E) (defBody st) (startE N ts) (finP QT ts)) : FnG2 P w K mg base Tq (k + 1) f fd ps sp := by
  obtain ⟨oc, od, kV, doc, pm, an, cdv, ct, osl, rfl, lk, hcd⟩ := Fn.ex
  refine ⟨len, fun A outer s H args us vs F O ts QT ET E tbs hr hg e0 hb r b sv hsp hE => ?_⟩
  have hl : vs.length = ps.length := sv.len.trans (len _ _ _ hsp)
  refine call_fn2 (e0.mod.kin.keeps fun b o e => (e0.bs b o e).1) (e0.mod.nolimit.keeps fun b o e => (e0.bs b o e).1) lk hcd hr.depth hb ?_ (fun s1 ic => ?_) S.co S.gen S.kind
  · refine List.all_eq_true.mpr fun y hy => ?_
    rcases S.par y.1 (List.of_mem_zip hy).1 with q | q <;> rw [q] <;> rfl
  · have I : Inv (BX P w K mg base N qual st f cdv A outer s H E) [] (L2.start N vs) H s1 := inv_start S hr.hd e0 hl r ic
    have tk : Takes (BX P w K mg base N qual st f cdv A outer s H E) (wxOf ⟨H, F, O, tbs⟩ fun ex e => back ts e (ET ex)) := by
      refine (takes_of (X := BX P w K mg base N qual st f cdv A outer s H E) (E := E) rfl rfl rfl rfl).imp fun cls d σ H' ⟨F', O', env, ex, b', o', xa, q⟩ => ?_
      obtain ⟨O1, Od, ts', p1, s1, q⟩ := back_ok sv o' q
      exact hE ex _ cls d H' F' O1 (b'.perm p1).left s1 xa q
    have hgd : (BX P w K mg base N qual st f cdv A outer s H E).A.guards = some [] := hg
    have body := hbody cdv A outer s H E ⟨H, F, O, tbs⟩ ts QT ET (hr.deeper _) hgd (passes_of (X := BX P w K mg base N qual st f cdv A outer s H E) rfl) tk hsp
    have o0 : OwE F H O (L2.start N vs) (startE N ts) := by
      unfold L2.start startE
      rw [sv.len]
      exact sv.start (N := N) _
    refine any_mono (body [] s1 (L2.start N vs) H F O I b o0) (fun fl s' hs => ?_) fun e s' hs => hs
    have fin : ∀ {σ' : L2.St} {H' F' : Hp} {O1 O2 : List Addr} {t : T} {e : Env} {v : V} {u : Value}, Inv (BX P w K mg base N qual st f cdv A outer s H E) [] σ' H' s' → RelV v u → Bas ⟨H, F, O, tbs⟩ F' H' (O1 ++ O2) → (∃ σ'', OwE F' H' O1 σ'' e) → Ow F' H' O2 v t → back ts e (QT t) →
        CE outer P w H s (fun v H' => ∃ F' O1 O2 t ts', Bas ⟨H, F, O, tbs⟩ F' H' (O1 ++ O2) ∧ StVO F' H' O1 vs ts' ∧ Ow F' H' O2 v t ∧ QT t ts') u s' := fun {σ' H' F' O1 O2 t e v u} J rv b' ⟨σ'', o'⟩ w' q => by
      obtain ⟨O3, Od, ts', p3, s3, q⟩ := back_ok sv o' q
      refine ⟨v, H', J.os, J.bare, J.base, J.hok, rv, F', O3, O2, t, _, ?_, s3, w', q⟩
      have p4 : (O1 ++ O2).Perm ((O3 ++ O2) ++ Od) := (p3.append_right O2).trans (by
        rw [List.append_assoc, List.append_assoc]
        exact List.perm_append_comm.append_left O3)
      exact (b'.perm p4).left
    cases fl with
    | ret u =>
      obtain ⟨v, σ', H', J, rv, F', O1, O2, σ'', t, e, b', o', w', _, q⟩ := hs
      exact fin J rv b' ⟨σ'', o'⟩ w' q
    | next =>
      obtain ⟨σ', H', J, F', O1, e, b', o', _, q⟩ := hs
      exact fin (v := V.non) (u := Value.none) (t := .va .none) (O2 := []) J rfl (by rw [List.append_nil]; exact b') ⟨_, o'⟩ (.va .non) q
    | brk =>
      obtain ⟨_, _, _, _, _, _, _, _, _, q⟩ := hs
      exact q.elim
    | cont =>
      obtain ⟨_, _, _, _, _, _, _, _, _, q⟩ := hs
      exact q.elim

structure Df2 (P : Program) (w : World) (K : PySem.W.Frag) (mg : Str → Option Value) (base : Heap) (Tq : List (Addr × Str)) (k : Nat) (x : Str) (ps : List Str) (sp : Spc) : Prop where
  ex : ∃ (f : Addr) (fd : FuncData), FnG2 P w K mg base Tq k f fd ps sp ∧ mg x = some (.ref f) ∧ PySem.W.keepIn K (.ref f) = true ∧ Binds K fd ps []
theorem Df2.mono {P : Program} {w : World} {K : PySem.W.Frag} {mg : Str → Option Value} {base : Heap} {Tq : List (Addr × Str)} {j k : Nat} {x : Str} {ps : List Str} {sp : Spc} (G : Df2 P w K mg base Tq j x ps sp) (h : j ≤ k) : Df2 P w K mg base Tq k x ps sp :=
  let ⟨f, fd, g, r⟩ := G.ex; ⟨f, fd, g.mono h, r⟩
theorem law_goesE2 {P : Program} {w : World} {K : PySem.W.Frag} {mg mb : Str → Option Value} {k : Nat} {fa a : Addr} {fd : FuncData} {x : Str} {sp : Spc} {s : Shared} {vs : List Value} {ns : List Int} {cs : Cs} {Es : List Addr} (hE : EmAt K s.heap Es) (hq : ∀ p ∈ cs, p.2.2 ≠ "()")
    (KX : K.In s.heap) (hns : s.heap.Ns mainGlobals mg) (hb : s.heap.Ns builtinsNs mb) (hbb : ∀ x : Str, x ≠ "__name__" → mb x = bootBuiltins x) (hlim : s.heap.NoLimit) (hg : s.gens = #[])
    (hT : ∀ p ∈ cs, s.heap.get? p.2.1 = some { cls := .none, data := .fields #[] }) (nT : ∀ p ∈ cs, K.lookup p.2.1 = none) (C : ∀ p ∈ cs, PySem.W.CodeHd s.heap p.1 p.2.1)
    (hbm : ∃ (bm : Addr) (ob : Obj), mg "__builtins__" = some (.ref bm) ∧ bm ≠ builtinsNs ∧ s.heap.get? bm = some ob ∧ ob.cls = .type "module" ∧ ob.dict = some builtinsNs ∧ ob.data = .plain)
    (ha : s.heap.get? a = some { cls := .type "list", data := .seq vs.toArray }) (hi : IntsAre vs ns) (hl : ns.length ≤ sizeLine) (hr : Room k callerA)
    (F : ∀ base : Heap, K.In base → base.Ns mainGlobals mg → (∀ p ∈ cs, LamX.TabB base mg p.1 p.2.1) → FnG2 P w K mg base (cs.tqE Es) k fa fd [x] sp) (hbind : ∀ (s : Shared) (u : Value), BindsTo s fd ⟨[u], []⟩ [(x, u)])
    (hsp : sp [scT K a ns] (fun t _ => t = .va (.bool true)) fun _ _ => False) :
    codeAny2 (model P w) callerA (.call (.ref fa) ⟨[.ref a], []⟩) (fun r s' => r = .ok (.ret (.bool true)) ∧ PySem.OldK s.heap s'.heap ∧ s'.os = s.os ∧ AllBare s'.gens) s := by
  have hTs : ∀ c ∈ cs.map (·.2.1), s.heap.get? c = some { cls := .none, data := .fields #[] } := fun c hc => by
    obtain ⟨p, hp, e⟩ := List.mem_map.mp hc
    rw [← e]
    exact hT p hp
  obtain ⟨H, F0, S⟩ := start_of (P := P) (w := w) (K := K) KX ha hi hl hTs hE
  have none_if : ∀ {c : Addr} {o : Obj}, s.heap.get? c = some o → (∀ ys n, o.data ≠ .seq ys n) → o.data ≠ .fields #[] → H c = none := fun {c o} e hd hf => by
    by_cases z : c ∈ cs.map (·.2.1)
    · rw [hTs c z] at e
      cases e
      exact absurd rfl hf
    · rw [S.nt c z]
      cases q : F0 c with
      | none => rfl
      | some u =>
        obtain ⟨h1, _, o', _, ho', _⟩ := S.one c (by rw [q]; exact fun z => nomatch z)
        rcases h1 with rfl | h1
        · rw [ha] at e
          cases e
          exact absurd rfl (hd _ _)
        · obtain ⟨_, o9, n9, e9, _, d9⟩ := hE c h1
          rw [e] at e9
          cases e9
          exact absurd d9 (hd _ _)
  have ns_ : ∀ {c : Addr} {m : Str → Option Value}, s.heap.Ns c m → (hidT s.heap H).Ns c m := fun {c m} ⟨o, es, ep, e, d, r⟩ => ⟨o, es, ep, hidT_get e (none_if e (fun ys n z => by rw [d] at z; cases z) fun z => by rw [d] at z; cases z), d, r⟩
  have kin : K.In (hidT s.heap H) := fun c o e => hidT_get (KX c o e) (by
    by_cases z : c ∈ cs.map (·.2.1)
    · obtain ⟨p, hp, ep⟩ := List.mem_map.mp z
      rw [← ep, nT p hp] at e
      cases e
    · rw [S.nt c z]
      cases q : F0 c with
      | none => rfl
      | some u =>
        obtain ⟨_, q2, _⟩ := S.one c (by rw [q]; exact fun z => nomatch z)
        rw [e] at q2
        cases q2)
  have lim : (hidT s.heap H).NoLimit := let ⟨mc, h1, h2⟩ := hlim; ⟨mc, ns_ h1, h2⟩
  have env : Env0 P w K mg (hidT s.heap H) callerA [] s H := by
    refine ⟨rfl, ⟨kin, ns_ hns, ⟨mb, ns_ hb, hbb⟩, lim⟩, fun b o e => of_hidT e, Nat.le_of_eq (hidT_size _ _), trivial, fun b hb => ?_, S.ok, .of_eq hg⟩
    exact absurd (show b ∈ ([] : List Addr) from hb) List.not_mem_nil
  have TB : ∀ p ∈ cs, LamX.TabB (hidT s.heap H) mg p.1 p.2.1 := fun p hp => by
    have hTp := hT p hp
    refine ⟨?_, ?_, fun z => ?_⟩
    · obtain ⟨o, us, file, tf, flags, tg, inF, text, tt, e1, r1, r2, r3, r4, r5, r6, r7, r8, hne⟩ := C p hp
      refine ⟨o, us, file, tf, flags, tg, inF, text, tt, hidT_get e1 (none_if e1 (fun vs n z => ?_) fun z => ?_), r1, r2, r3, r4, r5, r6, r7, r8, hne⟩
      · rw [r2] at z
        cases z
      · rw [r2] at z
        cases z
        simp at r3
    · obtain ⟨bm, ob, b1, b2, b3, b4, b5, b6⟩ := hbm
      have nG : bm ≠ mainGlobals := fun q => by
        obtain ⟨o, es, ep, e, hd, _⟩ := hns
        rw [q, e] at b3
        cases b3
        rw [hd] at b6
        cases b6
      have nP : bm ≠ p.2.1 := fun q => by
        rw [q, hTp] at b3
        cases b3
        cases b6
      refine ⟨bm, ob, b1, b2, nG, nP, hidT_get b3 (none_if b3 (fun vs n z => ?_) fun z => ?_), b4, b5, b6⟩
      · rw [b6] at z
        cases z
      · rw [b6] at z
        cases z
    · obtain ⟨o, es, ep, e, hd, _⟩ := hns
      rw [z, hTp] at e
      cases e
      cases hd
  have aT : a ∉ cs.map (·.2.1) := fun z => by
    have q := hTs a z
    rw [ha] at q
    have z' : Data.seq vs.toArray _ = Data.fields #[] := congrArg Obj.data (Option.some.inj q)
    cases z'
  have ofT : ∀ p ∈ cs.tqE Es, p.2 ≠ "()" → ∃ c ∈ cs, c.2 = p := fun p hp ne => by
    rcases List.mem_append.mp hp with z | z
    · obtain ⟨c, hc, e⟩ := List.mem_map.mp z
      exact ⟨c, hc, e⟩
    · obtain ⟨c, _, e⟩ := List.mem_map.mp z
      rw [← e] at ne
      exact absurd rfl ne
  have ofE : ∀ p ∈ cs.tqE Es, p.2 = "()" → p.1 ∈ Es := fun p hp e => by
    rcases List.mem_append.mp hp with z | z
    · obtain ⟨c, hc, e2⟩ := List.mem_map.mp z
      rw [← e2] at e
      exact absurd e (hq c hc)
    · obtain ⟨c, hc, e2⟩ := List.mem_map.mp z
      rw [← e2]; exact hc
  have tz1 : ∀ p ∈ cs.tqE Es, p.2 ≠ "()" → LamX.TabS H p.1 p.2 := fun p hp ne => by
    obtain ⟨c, hc, e⟩ := ofT p hp ne
    refine LamX.TabS.nil (S.tb _ (List.mem_map.mpr ⟨c, hc, ?_⟩))
    rw [← e]
  have tz2 : ∀ p ∈ cs.tqE Es, p.2 ≠ "()" → F0 p.1 = none := fun p hp ne => by
    cases q : F0 p.1 with
    | none => rfl
    | some u =>
      obtain ⟨c, hc, e⟩ := ofT p hp ne
      obtain ⟨e2, _⟩ := S.one p.1 (by rw [q]; exact fun z => nomatch z)
      rcases e2 with e2 | e2
      · exact absurd (List.mem_map.mpr ⟨c, hc, by rw [← e2, ← e]⟩) aT
      · obtain ⟨_, o9, n9, e9, _, d9⟩ := hE p.1 e2
        rw [hTs p.1 (List.mem_map.mpr ⟨c, hc, by rw [← e]⟩)] at e9
        cases e9
        cases d9
  have tz4 : ∀ p ∈ cs.tqE Es, p.2 = "()" → Rd F0 p.1 (.tup []) := fun p hp e => by
    obtain ⟨o, z⟩ := S.em _ (ofE p hp e)
    exact .inr ⟨o, z⟩
  have tabz : TabZ (cs.tqE Es) H F0 [] := ⟨tz1, tz2, (fun _ _ _ z => nomatch z), tz4⟩
  have bas : Bas ⟨H, F0, [], tabz⟩ F0 H [] := ⟨S.sub, List.nodup_nil, fun _ z => (nomatch z), Frm.refl _ _ _⟩
  have args : StV F0 H [] [.ref a] [scT K a ns] := by
    have := StV.cons (O1 := []) (O2 := []) (scT_ow (F := F0) (H := H) S.sq) .nil
    exact this
  refine cod_mono ((F _ kin (ns_ hns) TB).run callerA [] s H ⟨[.ref a], []⟩ [.ref a] [.ref a] F0 [] _ _ _ (fun _ _ _ => False) tabz hr rfl env (hbind s (.ref a)) (.cons rfl .nil) bas args hsp fun _ _ _ _ _ _ _ _ _ _ q => q) fun r s' h => ?_
  cases r with
  | error e =>
    obtain ⟨_, _, _, _, _, _, _, _, _, _, _, _, q⟩ := h
    exact q.elim
  | ok fl =>
    cases fl with
    | next => exact h.elim
    | brk => exact h.elim
    | cont => exact h.elim
    | ret u =>
      obtain ⟨v, H', os, bare, un, hok', rv', F', O1, O2, t, ts', _, _, ow, et⟩ := h
      subst et
      have ev : v = .bl true := by
        cases ow with
        | va r => cases r; rfl
      subst ev
      obtain rfl : u = Value.bool true := rv'
      have key : ∀ b o, b ∉ cs.map (·.2.1) → s.heap.get? b = some o → s'.heap.get? b = some o := fun b o nb e => by
        by_cases q : H b = none
        · exact un.keep b o e q (fun z => absurd (show b ∈ ([] : List Addr) from z) List.not_mem_nil) List.not_mem_nil
        · have eF := S.nt b nb
          obtain ⟨_, _, o', u', ho', hb'⟩ := S.one b (by rw [← eF]; exact q)
          rw [e] at ho'
          cases ho'
          exact (hok' b _ (un.frzs b _ _ (eF.trans hb'))).1
      have grown : ∀ p ∈ cs, ∃ more : Array Value, s'.heap.get? p.2.1 = some { cls := .none, data := .fields more } := fun p hp => by
        obtain ⟨more, z⟩ := un.tbls p.2.1 #[] (S.tb _ (List.mem_map.mpr ⟨p, hp, rfl⟩))
        exact ⟨_, hok' p.2.1 _ z⟩
      refine ⟨rfl, ⟨fun b o e => ?_, fun b o e => ?_⟩, os, bare⟩
      · by_cases hb : b ∈ cs.map (·.2.1)
        · obtain ⟨p, hp, ep⟩ := List.mem_map.mp hb
          obtain ⟨more, hm⟩ := grown p hp
          rw [← ep] at e ⊢
          rw [hT p hp] at e
          cases e
          exact .inr (.inl ⟨((C p hp).tab (hT p hp)).isCodeTable, rfl, #[], more, rfl, by rw [Array.empty_append]; exact hm⟩)
        · exact .inl (key b o hb e)
      · by_cases hb : b ∈ cs.map (·.2.1)
        · obtain ⟨p, hp, ep⟩ := List.mem_map.mp hb
          obtain ⟨more, hm⟩ := grown p hp
          rw [← ep]
          exact ⟨_, hm⟩
        · exact ⟨o, key b o hb e⟩

theorem attach2 {l : PySem.W.OpenLaw} {n : Nat} {q : Program} {loose : List Str} {XP : (Str → Option Value) → Heap → Prop} {YP : World → Heap → Prop} {d : DefRec} (hn : l.most = some n) (hdf : d.params.defaults = [])
    (call : ∀ (w : World) (s₀ s₁ : Shared) (mg mb : Str → Option Value) (fa : Addr) (o : Obj) (pm cd doc : Value) (a : Addr) (vs : List Value) (ns : List Int), PySem.W.Ground q loose [] XP w s₀ mg mb s₁.heap → YP w s₁.heap →
      s₁.heap.get? fa = some o → o.data = .func (PySem.Calls.docDef d.name d.params d.body d.scope pm cd doc) → s₁.heap.CodeRec cd d.name → mg d.name = some (.ref fa) → s₁.heap.get? a = some { cls := .type "list", data := .seq vs.toArray } → IntsAre vs ns → ns.length ≤ n → s₁.gens = #[] →
      codeAny2 (model l.prog w) callerA (.call (.ref fa) ⟨[.ref a], []⟩) (fun r s' => r = .ok (.ret (.bool true)) ∧ OldK s₁.heap s'.heap ∧ s'.os = s₁.os ∧ AllBare s'.gens) s₁) : WalkO2 q loose XP YP l.row.toRowW d [] (fun f vs => PySem.call f vs) := by
  intro w s₀ s₁ mg mb G Y fa o pm cd doc dV kV ho hd hcd hD hmg hg args vals as hpre hlay hrd hwl hlo
  obtain rfl : dV = .none := PySem.W.Dflts.none hD hdf
  obtain rfl : kV = .none := PySem.W.Dflts.noKw hD
  obtain ⟨a, vs, ns, rfl, rfl, hobj, hints, hlen⟩ := Att.script_of hn hpre hwl
  refine any_call (cod_mono (call w s₀ s₁ mg mb fa o pm cd doc a vs ns G Y ho (PySem.W.fd_plain hd) hcd hmg hobj hints hlen hg) fun r s' hq => ?_)
  obtain ⟨rfl, h2, h3, h4⟩ := hq
  exact ⟨.inl ⟨.bool true, .bool true, [], rfl, fun _ => rfl, .bool true, Att.post_true l _, fun _ => ⟨List.Pairwise.nil, fun _ hm => (nomatch hm)⟩⟩, h2, h3, h4⟩
/-- the goal that head2 leaves -/
theorem walk_gE2 {l : PySem.W.OpenLaw} {n k : Nat} {q : Program} {loose : List Str} {XP : (Str → Option Value) → Heap → Prop} {YP : World → Heap → Prop} {d : DefRec} {sp : PySem.W.Frag → Spc} {x : Str}
    (hn : l.most = some n) (hn2 : n ≤ sizeLine) (hdf : d.params.defaults = []) (hr : Room k callerA)
    (F : ∀ (w : World) (mg : Str → Option Value) (fa : Addr) (h : Heap), YP w h → h.Ns mainGlobals mg → mg d.name = some (.ref fa) →
      ∃ (K : PySem.W.Frag) (cs : Cs) (fd : FuncData), K.In h ∧ CsAt K h cs ∧ (∀ (s : Shared) (u : Value), BindsTo s fd ⟨[u], []⟩ [(x, u)]) ∧ ∀ base : Heap, K.In base → base.Ns mainGlobals mg → (∀ p ∈ cs, LamX.TabB base mg p.1 p.2.1) → FnG2 l.prog w K mg base (cs.tqE []) k fa fd [x] (sp K))
    (hsp : ∀ (K : PySem.W.Frag) (a : Addr) (ns : List Int), ns.length ≤ n → sp K [scT K a ns] (fun t _ => t = .va (.bool true)) fun _ _ => False) :
    WalkO2 q loose XP YP l.row.toRowW d [] (fun f vs => PySem.call f vs) :=
  attach2 hn hdf fun w s₀ s₁ mg mb fa o pm cd doc a vs ns G Y ho hd hcd hmg hobj hints hlen hg => by
    obtain ⟨K, cs, fd, KX, c, hb, hF⟩ := F w mg fa _ Y G.T.g hmg
    exact law_goesE2 (Es := []) (fun _ z => nomatch z) c.nq KX G.T.g G.T.b G.T.builtins G.T.nolimit hg c.hT c.nT c.C G.T.bmain hobj hints (Nat.le_trans hlen hn2) hr hF hb (hsp K a ns hlen)
end QL

/-! GRr: expressions, for, list comprehensions of the second kind. -/
namespace QL
open PySem PySem.Spec PyProof.Rows L2 GR
section
variable {M : Model} {A : Around} {E : Value → Shared → Prop} {s : Shared} {env : PySem.Env}
theorem any_keep {α : Type} {vs : List Value} {m : Sem α} {Q : α → Shared → Prop} (h : wpAny2 M A m Q E s) : wpAny2 M A (m.keep vs) Q E s := fun Γ p hΓ => by
  rw [wp2_keep]
  exact h Γ p hΓ
theorem op_leaf {ops : List Value} {m : Sem Value} {Q : Value → Shared → Prop} (h : wpAny M A m Q E s) : wpAny M A (operate ops m) Q E s := fun Γ p hΓ => by
  rw [Sem.wp_operate]
  exact h Γ p hΓ
theorem any_spliced_cons {x : Sem Value} {rest : List (Bool × Sem Value)} {Q : List Value → Shared → Prop} (h : wpAny2 M A x (fun v s₁ => wpAny2 M A (spliced rest) (fun vs s₂ => Q (v :: vs) s₂) E s₁) E s) : wpAny2 M A (spliced ((false, x) :: rest)) Q E s := by
  rw [spliced]
  refine any_bind (any_mono h (fun v s₁ h₁ => ?_) fun _ _ x => x)
  simp only [Bool.false_eq_true, if_false]
  exact any_bindL (wpAny_pure (any_bind (any_holding (any_mono h₁ (fun vs s₂ h₂ => any_pure h₂) fun _ _ x => x))))
theorem any_evalArgs {f : Value} {x : Sem Value} {rest : List (Bool × Sem Value)} {Q : Args → Shared → Prop} (h : wpAny2 M A (spliced ((false, x) :: rest)) (fun vs s' => Q ⟨vs, []⟩ s') E s) : wpAny2 M A (evalArgs f true ((false, x) :: rest) []) Q E s := by
  unfold evalArgs
  show wpAny2 M A (spliced ((false, x) :: rest) >>= _) Q E s
  refine any_bind (any_mono h (fun vs s' h' => ?_) fun _ _ x => x)
  refine any_holding ?_
  exact any_bindL (wpAny_pure (any_bindL (wpAny_pure (any_pure h'))))
theorem any_tail {t : Sem Value} {Q : Value → Shared → Prop} (ht : wpAny2 M A t Q E s) : wpAny2 M A (t >>= fun r => holding [r] point >>= fun _ => pure r) Q E s :=
  any_bind (any_mono ht (fun r s₂ hr => any_bindL (wpAny_holding (wpAny_point (any_pure hr)))) fun _ _ x => x)
theorem any_callWith {f : Value} {first : List Value} {pos : Pos} {P : Heap → Prop} {args : List (Bool × Sem Value)} {Q : Value → Shared → Prop} (hplain : args.any (·.1) = false)
    (hk : ∀ h, P h → ∃ k, (k = Keeper.frame ∨ k = Keeper.machine ∨ k = Keeper.boundFrame) ∧ PySem.W.Looks M h (keeperOf f) k)
    (h : wpAny2 M A (evalArgs f true args []) (fun a s₁ => P s₁.heap ∧ wpAny2 M A (call f (first ++ a.pos) a.kw) Q E s₁) E s) : wpAny2 M A (callWith pos f first args []) Q E s := by
  unfold callWith
  refine any_bind (any_holding (any_mono h (fun a s₁ h₁ => any_bind (any_standAt ?_)) fun _ _ x => x))
  obtain ⟨k, hk', L⟩ := hk _ h₁.1
  simp only [hplain, List.any_nil, Bool.or_false]
  refine any_bindL (L.here ?_)
  have marked (mk : Value) : wpAny2 M A (callMarked mk f (first ++ a.pos) a.kw) Q E s₁ := by unfold callMarked; exact any_keep h₁.2
  rcases hk' with rfl | rfl | rfl <;> dsimp only <;> first | exact any_tail h₁.2 | (split <;> first | exact any_tail h₁.2 | exact any_tail (marked _))
theorem any_callMachine {f : Value} {pos : Pos} {args : List (Bool × Sem Value)} {Q : Value → Shared → Prop} (hplain : args.any (·.1) = false) (hk : keeperOf f = pure .machine) (h : wpAny2 M A (evalArgs f true args []) (fun a s₁ => wpAny2 M A (call f a.pos a.kw) Q E s₁) E s) : wpAny2 M A (callWith pos f [] args []) Q E s := by
  unfold callWith
  refine any_bind (any_holding (any_mono h (fun a s₁ h₁ => any_bind (any_standAt ?_)) fun _ _ x => x))
  simp only [hplain, List.any_nil, Bool.or_false, hk]
  exact any_bindL (wpAny_pure (any_tail h₁))
theorem any_isTrue_Compare1 {l r : Expr} {op : CmpOp} {pos : Pos} {whole : Sem Value} {Q : Bool → Shared → Prop} (h : wpAny2 M A (eval l env) (fun a s₁ => wpAny2 M A (eval r env) (fun b s₂ => wpAny M A (compareOp op a b) (fun c s₃ => wpAny M A (truthy c) Q E s₃) E s₂) E s₁) E s) (hm : behindInMarks op r = false) :
    wpAny2 M A (isTrue (.Compare l [op] [r] pos) env whole) Q E s := by
  rw [isTrue_Compare1, markedBehindIn_of_false hm]
  exact any_bind (any_mono h (fun a s1 h1 => any_bind (any_holding (any_mono h1 (fun b s2 h2 => any_bind (any_standAt (any_bindL (op_leaf (wpAny_mono h2 (fun c s3 h3 => any_of (wpAny_holding h3)) fun _ _ x => x))))) fun _ _ x => x))) fun _ _ x => x)
theorem any_runOwn {c : Code} {h : Option Value} {Q : Flow → Shared → Prop} (hc : codeAny2 M (A.mark h) c (fun r s' => match r with | .ok f => Q f s' | .error e => cameBackBy M A env E e s') s) (hnb : h ≠ some byPass := by intro x; cases x) : wpAny2 M A (runOwn c env h) Q E s := by
  unfold runOwn
  refine any_onRaise (any_run (cod_mono hc fun r s' hr => ?_) hnb)
  cases r with
  | ok f => exact hr
  | error e => exact any_of hr
theorem any_noted {α : Type} {m : Sem α} {Q : α → Shared → Prop} (h : wpAny2 M A m Q (notedBy M A env E) s) : wpAny2 M A (m.onRaise fun x => do noteFrame x env; theTreesLotGoes x) Q E s :=
  any_onRaise (any_mono h (fun _ _ q => q) fun _ _ hx => any_bindL (wpAny_mono hx (fun _ _ e => any_of (wpAny_theTreesLotGoes e)) fun _ _ e => e))
theorem any_notedAt {α : Type} {m : Sem α} {pos : Pos} {Q : α → Shared → Prop} (h : wpAny2 M A m Q (notedBy M A env E) s) : wpAny2 M A (m.onRaise fun x => do noteFrame x env; standAt pos) Q E s :=
  any_onRaise (any_mono h (fun _ _ q => q) fun _ _ hx => any_bindL (wpAny_mono hx (fun _ _ e => any_standAt e) fun _ _ e => e))
end
section
variable {prog : Program} {w : World} {A : Around} {E : Value → Shared → Prop} {s : Shared} {env : PySem.Env}
theorem any_List {elts : List Expr} {pos : Pos} {Q : Value → Shared → Prop} (h : wpAny2 (model prog w) A (spliced (backTo pos (starEach elts env))) (fun vs s₁ => vs.length ≤ sizeLine ∧ Q (.ref s₁.heap.objs.size) { s₁ with heap := s₁.heap.push { cls := .type "list", data := .seq vs.toArray } }) E s) : wpAny2 (model prog w) A (eval (.List elts pos) env) Q E s := by
  rw [arm_eval_List]
  exact any_bind (any_standAt (any_bind (any_mono h (fun vs s₁ h₁ => any_of (wpAny_newList h₁.2 h₁.1)) fun _ _ e => e)))
theorem any_For {target iter : Expr} {body orelse : List Stmt} {pos : Pos} {Q : Flow → Shared → Prop} (h : wpAny (model prog w) A (eval iter env) (fun x s₁ => wpAny (model prog w) A (pyIter x) (fun it s₂ => codeAny2 (model prog w) A (.forLoop target it body orelse env) (fun r s' => match r with | .ok f => Q f s' | .error e => cameBackBy (model prog w) A env E e s') s₂) E s₁) E s)
    (hs : ∀ x, foldedSetIterable iter env x = pure x) : wpAny2 (model prog w) A (exec (.For target iter body orelse pos) env) Q E s := by
  rw [exec_For]
  exact any_bind (any_standAt (any_bindL (wpAny_mono h (fun x s₁ h₁ => any_bindL (wpAny_of_eq (hs x) (any_bind (any_standAt (any_bindL (wpAny_holding (wpAny_mono h₁ (fun it s₂ h₂ => any_runOwn h₂) fun _ _ h' => h'))))))) fun _ _ h' => h')))
theorem cod_block {R : Result → Shared → Prop} {stmts : List Stmt} (h : wpAny (model prog w) A (execs stmts env) (fun f s' => R (.ok f) s') (notedBy (model prog w) A env fun e s' => R (.error e) s') s) : codeAny2 (model prog w) A (.block stmts env) R s := cod_of (codeAny_block h)
theorem cod_loop' {M : Model} {c : Code} {R : Result → Shared → Prop} (hq : c.quiet = true) (I : Nat → Shared → Prop)
    (turn : ∀ n s, I n s → wpAny2 M (A.under c) (M.den c) (fun fin s' => match fin with | .done f => R (.ok f) s' | .again c' => (c' = c ∧ ∃ m, m < n ∧ I m s') ∨ (c'.quiet = true ∧ codeAny2 M A c' R s')) (fun e s' => R (.error e) s') s)
    (n : Nat) (h : I n s) : codeAny2 M A c R s := by
  induction n using Nat.strongRecOn generalizing s with
  | ind n ih =>
    refine cod_tree (any_mono (turn n s h) (fun fin s' hf => ?_) fun _ _ h' => h')
    cases fin with
    | done f => exact hf
    | again c' =>
      rcases hf with ⟨rfl, m, hm, hI⟩ | hf
      · exact ⟨hq, ih m hm hI⟩
      · exact hf
theorem cod_forLoop {R : Result → Shared → Prop} {target : Expr} {it : Value} {body orelse : List Stmt} (I : Nat → Shared → Prop)
    (turn : ∀ n s, I n s → wpAny (model prog w) A (pyNext it) (fun r s₁ => match r with
      | none => wpAny (model prog w) A (execs orelse env) (fun f s₃ => R (.ok f) s₃) (notedBy (model prog w) A env fun e s' => R (.error e) s') s₁
      | some v => wpAny (model prog w) A (letOwnedTupleGo target it v) (fun _ s₁' => wpAny (model prog w) A (assign target env v) (fun _ s₂ => wpAny2 (model prog w) A (execs body env) (fun f s₃ => match f with
            | .next | .cont => ∃ m, m < n ∧ I m s₃
            | .brk => R (.ok .next) s₃
            | .ret v => R (.ok (.ret v)) s₃) (notedBy (model prog w) A env fun e s' => R (.error e) s') s₂) (notedBy (model prog w) A env fun e s' => R (.error e) s') s₁') (notedBy (model prog w) A env fun e s' => R (.error e) s') s₁) (notedBy (model prog w) A env fun e s' => R (.error e) s') s)
    (n : Nat) (h : I n s) : codeAny2 (model prog w) A (.forLoop target it body orelse env) R s := by
  refine cod_loop' rfl I (fun n s hI => ?_) n h
  show wpAny2 _ A ((forTurn target it body orelse env).onRaise (fun x => do noteFrame x env; theTreesLotGoes x)) _ _ s
  refine any_noted ?_
  simp only [forTurn]
  refine any_bind (any_standAt (any_bindL (wpAny_onRaise (wpAny_mono (turn n s hI) (fun r s₁ h₁ => ?_) fun _ _ h' => wpAny_standAt h'))))
  cases r with
  | none => exact any_pure (.inr ⟨rfl, cod_block h₁⟩)
  | some v =>
    refine any_bindL (wpAny_mono h₁ (fun _ s₁' h₁' => ?_) fun _ _ h' => h')
    refine any_bindL (wpAny_mono h₁' (fun _ s₂ h₂ => any_bind (any_mono h₂ (fun f s₃ h₃ => ?_) fun _ _ h' => h')) fun _ _ h' => h')
    cases f with
    | next => exact any_pure (.inl ⟨rfl, h₃⟩)
    | cont => exact any_pure (.inl ⟨rfl, h₃⟩)
    | brk => exact any_pure h₃
    | ret v => exact any_pure h₃
end
/-! ### judgements of the hand layer, second kind -/
section
variable {X : Cx} {e a b elt tg iter : Expr} {es : List Expr} {te ta tb : TE} {t : TA} {pos : Pos} {st : Stmt} {sts : List Stmt}
structure PE2 (X : Cx) (e : Expr) (t : TE) : Prop where
  run : ∀ (pins : List (Addr × Obj)) (s : Shared) (σ : L2.St) (H : Hp) (Q : VK), Inv X pins σ H s → t σ H Q → wpAny2 (model X.prog X.w) X.A (eval e X.env) (EP X pins σ Q) X.xe s
structure PA2 (X : Cx) (es : List Expr) (t : TA) : Prop where
  run : ∀ (pos : Pos) (pins : List (Addr × Obj)) (s : Shared) (σ : L2.St) (H : Hp) (Q : List V → Hp → Prop), Inv X pins σ H s → t σ H Q → wpAny2 (model X.prog X.w) X.A (spliced (backTo pos (starEach es X.env))) (AP X pins σ Q) X.xe s
structure PT2 (X : Cx) (e : Expr) (t : TT) : Prop where
  run : ∀ (pins : List (Addr × Obj)) (s : Shared) (σ : L2.St) (H : Hp) (Q : Bool → Hp → Prop), Inv X pins σ H s → t σ H Q → wpAny2 (model X.prog X.w) X.A (isTrue e X.env (eval e X.env)) (TP X pins σ Q) X.xe s
structure PSs2 (X : Cx) (st : List Stmt) (t : TS) : Prop where
  run : ∀ (pins : List (Addr × Obj)) (s : Shared) (σ : L2.St) (H : Hp) (D : Ends), Inv X pins σ H s → t D σ H → wpAny2 (model X.prog X.w) X.A (execs st X.env) (SP X pins D) X.xe s
structure PS2 (X : Cx) (st : Stmt) (t : TS) : Prop where
  run : ∀ (pins : List (Addr × Obj)) (s : Shared) (σ : L2.St) (H : Hp) (D : Ends), Inv X pins σ H s → t D σ H → wpAny2 (model X.prog X.w) X.A (exec st X.env) (SP X pins D) X.xe s
theorem pa2_nil : PA2 X [] tNil := ⟨fun pos pins s σ H Q I h => any_of (pa_nil.run pos pins s σ H Q I h)⟩
theorem pa2_cons (ha : PE2 X e te) (hr : PA2 X es t) (hs : starEach (e :: es) X.env = (false, eval e X.env) :: starEach es X.env) : PA2 X (e :: es) (tCons te t) := by
  refine ⟨fun pos pins s σ H Q I h => ?_⟩
  rw [hs]
  show wpAny2 _ _ (spliced ((false, eval e X.env) :: backTo pos (starEach es X.env))) _ _ s
  refine any_spliced_cons (any_mono (ha.run pins s σ H _ I h) (fun u s1 ⟨x, H1, I1, r1, q1⟩ => ?_) fun _ _ x => x)
  exact any_mono (hr.run pos pins s1 σ H1 _ I1 q1) (fun us s2 ⟨xs, H2, I2, r2, q2⟩ => ⟨x :: xs, H2, I2, .cons r1 r2, q2⟩) fun _ _ x => x
theorem pe2_lst (h : PA2 X es t) : PE2 X (.List es pos) (tLst t) := by
  refine ⟨fun pins s σ H Q I hq => ?_⟩
  refine any_List (any_mono (h.run pos pins s σ H _ I hq) (fun us s1 ⟨xs, H1, I1, r, z, q⟩ => ⟨by rw [← r.length]; exact z, ?_⟩) fun _ _ x => x)
  have hf : H1 s1.heap.objs.size = none := I1.hok.fresh (Nat.le_refl _)
  refine ⟨.ref s1.heap.objs.size, upd H1 s1.heap.objs.size (.lst xs), I1.laid (t' := s1.toks) (fun b u e => Heap.get?_push_of_some _ e) (Nat.le_refl _) ?_, rfl, q _ hf⟩
  exact ⟨z, us, 0, r, Heap.get?_push_size _ rfl⟩
theorem pt2_cmpR {op : CmpOp} {r : R2} (ho : OpR X (compareOp op) r) (ha : PE2 X a ta) (hb : PE2 X b tb) (hm : behindInMarks op b = false) : PT2 X (.Compare a [op] [b] pos) (tTest (tOp r ta tb)) := by
  refine ⟨fun pins s σ H Q I h => ?_⟩
  refine any_isTrue_Compare1 (any_mono (ha.run pins s σ H _ I h) (fun v s1 ⟨x, H1, I1, r1, q1⟩ => any_mono (hb.run pins s1 σ H1 _ I1 q1) (fun u s2 ⟨y, H2, I2, r2, q2⟩ => ?_) fun _ _ x => x) fun _ _ x => x) hm
  refine thn (ho pins s2 σ H2 x y v u _ I2 r1 r2 q2) fun c s3 ⟨z, H3, I3, r3, k, e, q3⟩ => ?_
  subst e
  cases r3
  exact wpAny_truthy_bool ⟨H3, I3, q3⟩
theorem pe2_callB {id : String} {r : List V → Hp → VK → Prop} {x : Str} {p : Pos} (hc : CallR X (.builtin id) r) (hg : Gl X x) (hm : X.mg x = none) (hv : bootBuiltins x = some (.builtin id)) (ha : PA2 X (e :: es) t) (hn : x ≠ "__name__") (hdb : (x == ("__debug__" : Str)) = false)
    (he : starEach (e :: es) X.env = (false, eval e X.env) :: starEach es X.env) (hpl : (backTo pos (starEach es X.env)).any (·.1) = false) : PE2 X (.Call (.Name x p) (e :: es) [] pos) (tCB r t) := by
  refine ⟨fun pins s σ H Q I h => ?_⟩
  rw [arm_eval_Call_Name']
  refine any_bindL (ld_blt I hg hm hv ?_ hn hdb)
  have z := ha.run pos pins s σ H _ I h
  rw [he] at z ⊢
  exact any_callMachine (by show (false || (backTo pos (starEach es X.env)).any (·.1)) = false; rw [hpl]; rfl) rfl (any_evalArgs (any_mono z (fun us s1 ⟨vs, H1, I1, r1, q1⟩ => any_of (hc pins s1 σ H1 vs us Q I1 r1 q1)) fun _ _ x => x))
theorem ps2_for {body : List Stmt} {wi : TI} {g : TG} {tb : TS} (hp : PassesOwn (model X.prog X.w) X.A X.env X.xe) (hc : X.calm = true) (hi : PI X tg iter wi) (hg : PG X tg g) (hb : PSs2 X body tb) (hs : ∀ x, foldedSetIterable iter X.env x = pure x) : PS2 X (.For tg iter body [] pos) (tFor wi g tb) := by
  refine ⟨fun pins s σ H D I h => ?_⟩
  refine any_For (thn (hi.run pins s σ H _ I h) fun v s1 h1 => thn h1 fun itv s2 h2 => ?_) hs
  obtain ⟨it, fp, tn, J, H2, e, I2, T, st2, f2, W, ⟨m0, w0⟩, turn⟩ := h2
  subst e
  have stat : ∀ {H' : Hp}, (∀ b ∈ fp, H' b = none) → ∀ b ∈ fp, FpOk X pins H' b := fun hn b hb => ⟨hn b hb, (f2 b hb).2⟩
  refine cod_forLoop (fun n s' => ∃ i σ' H', Inv X pins σ' H' s' ∧ tn i s'.heap ∧ (∀ b ∈ fp, H' b = none) ∧ W i n σ' H') ?_ m0 ⟨0, σ, H2, I2, st2, fun b hb => (f2 b hb).1, w0⟩
  rintro n s3 ⟨i, σ3, H3, I3, st3, fr3, w3⟩
  rcases turn i n σ3 H3 w3 with ⟨stop, qn⟩ | ⟨go, N, hN, step⟩
  · refine wpAny_passesOwn hp (thn (T.done X rfl rfl rfl hc i pins s3 σ3 H3 X.xe I3 (stat fr3) st3 stop) fun r s4 ⟨hr, I4⟩ => ?_)
    subst hr
    exact wpAny_execs_nil ⟨σ3, H3, I4, qn⟩
  · refine wpAny_passesOwn hp (thn (T.item X rfl rfl rfl hc i pins s3 σ3 H3 X.xe I3 (stat fr3) st3 go) fun r s4 ⟨u, hr, h4⟩ => ?_)
    subst hr
    refine wpAny_passesOwn hp (thn h4 fun _ s5 ⟨x, H5, I5, r5, y5, st5, fr5⟩ => ?_)
    have I5' := I5.pinned (stat fr5) (T.obj _ _ st5)
    refine wpAny_passesOwn hp (thn (hg.run _ s5 σ3 H5 x u _ I5' r5 (step x H5 y5)) fun _ s6 ⟨σ6, H6, I6, q6⟩ => ?_)
    refine any_mono (hb.run _ s6 σ6 H6 _ I6 q6) (fun f s7 q7 => ?_) hp
    have again : ∀ {σ7 : L2.St} {H7 : Hp}, Inv X (pins ++ pinsAt fp s5.heap) σ7 H7 s7 → N σ7 H7 → ∃ m, m < n ∧ ∃ i σ' H', Inv X pins σ' H' s7 ∧ tn i s7.heap ∧ (∀ b ∈ fp, H' b = none) ∧ W i m σ' H' := fun {σ7 H7} I7 n7 => by
      obtain ⟨m', hm, w7⟩ := hN σ7 H7 n7
      refine ⟨m', hm, i + 1, σ7, H7, I7.unpinned, T.keep _ _ _ st5 fun b hb o e => (I7.pin (b, o) (List.mem_append_right _ (List.mem_append_right _ (mem_pinsAt hb e)))).1, fun b hb => ?_, w7⟩
      obtain ⟨o, e, d⟩ := T.obj _ _ st5 b hb
      exact (I7.pin (b, o) (List.mem_append_right _ (List.mem_append_right _ (mem_pinsAt hb e)))).2.1
    cases f with
    | next => obtain ⟨σ7, H7, I7, n7⟩ := q7; exact again I7 n7
    | cont => obtain ⟨σ7, H7, I7, n7⟩ := q7; exact again I7 n7
    | brk => obtain ⟨σ7, H7, I7, q7⟩ := q7; exact ⟨σ7, H7, I7.unpinned, q7⟩
    | ret v => obtain ⟨x7, σ7, H7, I7, r7, q7⟩ := q7; exact ⟨x7, σ7, H7, I7.unpinned, r7, q7⟩
end
section
variable {Tq : List (Addr × Str)} {Z : Zb Tq} {X : Cx} {e a b c elt tg iter : Expr} {es : List Expr} {env : Env} {pos p : Pos} {P : Out → Prop} {PR : R → Env → Prop} {st : Stmt} {rest body els : List Stmt}
def tSs2 (Z : Zb Tq) (X : Cx) (st : List Stmt) : TS := fun D σ H => ∃ env F O P, Bas Z F H O ∧ OwE F H O σ env ∧ WSs2 Z X st env P ∧ EndsLe (endsOf Z H F O P) D
theorem pss2_S : PSs2 X rest (tSs2 Z X rest) := ⟨fun pins s σ H D I ⟨env, F, O, P, b, o, w, l⟩ => any_mono (w pins s σ H F O I b o) (SP.le l) fun _ _ x => x⟩
theorem ws2_of {t : TS} (h : PS2 X st t) (w : ∀ σ H F O, Bas Z F H O → OwE F H O σ env → t (endsOf Z H F O P) σ H) : WS2 Z X st env P := fun pins s σ H F O I b o => h.run pins s σ H _ I (w σ H F O b o)
theorem we2_of {t : TE} {P : R → Env → Prop} (h : PE2 X e t) (w : ∀ σ H F O, Bas Z F H O → OwE F H O σ env → t σ H (Post Z σ H F O P)) : WE2 Z X e env P := fun pins s σ H F O I b o => h.run pins s σ H _ I (w σ H F O b o)
theorem wt2_of {t : TT} {P : Bool → Env → Prop} (h : PT2 X e t) (w : ∀ σ H F O, Bas Z F H O → OwE F H O σ env → t σ H (PostT Z σ H F O P)) : WT2 Z X e env P := fun pins s σ H F O I b o => h.run pins s σ H _ I (w σ H F O b o)
def ForI2 {Tq : List (Addr × Str)} (Z : Zb Tq) (X : Cx) (f : TF) (body : List Stmt) (P : Out → Prop) (ds : List D) (e1 : Env) : Prop :=
  ∃ I : Nat → Env → Prop, I 0 e1 ∧ (∀ k d e, ds[k]? = some d → I k e → f d e fun e' => WSs2 Z X body e' (loopP P (I (k + 1)))) ∧ ∀ e, I ds.length e → P (.nx e)
theorem ws2_for {g : TG} {f : TF} {ix : List Nat} (hp : PassesOwn (model X.prog X.w) X.A X.env X.xe) (hc : X.calm = true) (hg : PG X tg g) (gk : GOk Z g f ix) (h : WI Z X tg iter env (ForI2 Z X f body P)) (hs : ∀ x, foldedSetIterable iter X.env x = pure x := by intro _; rfl) :
    WS2 Z X (.For tg iter body [] pos) env P :=
  ws2_of (ps2_for hp hc (pi_I (Z := Z)) hg (pss2_S (Z := Z)) hs) fun σ0 H0 F0 O0 b0 o0 => ⟨env, F0, O0, _, b0, o0, h, fun J H1 F1 O1 ds e1 b1 o1 fr1 gv ⟨I, i0, step, done⟩ => by
    refine ⟨fun i m σ H => m = ds.length - i ∧ i ≤ ds.length ∧ ∃ F O e, Bas Z F H O ∧ OwE F H O σ e ∧ Frm Tq H1 F1 O1 H F O ∧ I i e, ⟨_, rfl, Nat.zero_le _, F1, O1, e1, b1, o1, Frm.refl _ _ _, i0⟩, ?_⟩
    rintro i m σ H ⟨rfl, hi, F, O, e, b, o, fr, hI⟩
    obtain ⟨g1, g2⟩ := gv F H fr.fz b.sub i
    by_cases hlt : i < ds.length
    · obtain ⟨go, yl⟩ := g1 ds[i] (List.getElem?_eq_getElem hlt)
      refine .inr ⟨go, fun σ' H' => ∃ F O e, Bas Z F H' O ∧ OwE F H' O σ' e ∧ Frm Tq H1 F1 O1 H' F O ∧ I (i + 1) e, fun σ' H' q => ⟨ds.length - (i + 1), by omega, rfl, hlt, q⟩, fun x H' y => ?_⟩
      obtain ⟨F', rx, s1, s2, s3, nf⟩ := yl x H' y
      obtain ⟨b2, o2, fr2⟩ := b.grow o s1 s2 s3 nf
      refine gk x _ σ H' F' O e _ _ b2 o2 rx (step i _ e (List.getElem?_eq_getElem hlt) hI) fun σ3 O3 e3 b3 o3 s3 _ h3 => ?_
      have fr3 : Frm Tq H1 F1 O1 H' F' O3 := (fr.trans fr2).perm (fun _ => Iff.rfl) s3
      refine ⟨e3, F', O3, _, b3, o3, h3, loop_le (fr1.trans fr3) ?_⟩
      exact fun σ4 H4 F4 O4 e4 b4 o4 f4 q => ⟨F4, O4, e4, b4, o4, fr3.trans f4, q⟩
    · have e' : i = ds.length := by omega
      subst e'
      exact .inl ⟨g2 (List.getElem?_eq_none (Nat.le_refl _)), F, O, e, b, o, fr1.trans fr, done e hI⟩⟩


end

end QL

/-! GRs: list comprehensions of the second kind; calls, displays, tests. -/
namespace QL
open PySem PySem.Spec PyProof.Rows L2 GR
section
variable {M : Model} {A : Around} {E : Value → Shared → Prop} {s : Shared} {env : PySem.Env}
theorem any_standIf {α : Type} {c : Prop} [Decidable c] {pos : Pos} {k : PUnit → Sem α} {Q : α → Shared → Prop} (h : wpAny2 M A (k ()) Q E s) : wpAny2 M A (if c then (standAt pos >>= k) else k ()) Q E s := by
  split
  · exact any_bind (any_standAt h)
  · exact h
theorem any_comp {e : Expr} {scope : Scope} {pos : Pos} {newAcc first : Sem Value} {g : Comprehension} {gs : List Comprehension} {cl : List (Str × Addr)} {Q : Value → Shared → Prop}
    (hcl : clausesOf e = g :: gs) (hs : ∀ x, foldedSetIterable g.iter env x = pure x) (hclos : closureFor scope env = pure cl) (hkind : scope.kind = .function) (hnames : ∀ x ∈ scope.names, x.2 = .local → scope.names.lookup x.1 = some .local)
    (h : wpAny M A first (fun x s₁ => wpAny M A (pyIter x) (fun it s₂ => wpAny M A newAcc (fun acc s₃ => wpAny M A (newFunctionEnv scope env.globals cl [] env.qual none .none (some env)) (fun cenv s₄ =>
        codeAny2 M A (.compStart e 0 it acc { cenv with scope := relabel scope env }) (compPost M A E none Q acc cenv.locals) s₄) E s₃) E s₂) E s₁) E s) :
    wpAny2 M A (comprehension e scope env pos newAcc false first none) Q E s := by
  unfold comprehension
  rw [hclos, hcl]
  refine any_bindL (wpAny_mono h (fun x s₁ h₁ => any_bind (any_standAt (any_bindL (wpAny_of_eq (hs x) (any_bindL (wpAny_holding (wpAny_mono h₁ (fun it s₂ h₂ =>
    any_standIf (any_bindL (wpAny_mono h₂ (fun acc s₃ h₃ => any_bindL (wpAny_pure (any_bindL (wpAny_mono h₃ (fun cenv s₄ h₄ => ?_) fun _ _ h' => h')))) fun _ _ h' => h')))
      fun _ _ h' => h'))))))) fun _ _ h' => h')
  dsimp only
  have hv : ∀ x ∈ (scope.names.filter fun x => (x.2 == .local || x.2 == .cell) && x.1 != (".0" : Str)).reverse, x.2 = .local →
      Env.kindOf { cenv with scope := relabel scope env } x.1 = some .local := fun x hx hl => lookup_relabel_local (hnames x (List.mem_filter.mp (List.mem_reverse.mp hx)).1 hl)
  refine any_holding (any_bind (any_attempt (any_holding (any_run (cod_mono h₄ fun r s' hr => ?_)))))
  cases r with
  | ok f =>
    obtain ⟨m, hn, hr⟩ := hr
    exact any_bindL (wpAny_holding (wpAny_comp_letGo (cenv := { cenv with scope := relabel scope env }) hkind _ s' m hv hn fun h' m' _ hs' => any_pure (hr h' hs')))
  | error x =>
    obtain ⟨m, hn, hr⟩ := hr
    exact any_bindL (wpAny_holding (wpAny_comp_letGo (cenv := { cenv with scope := relabel scope env }) hkind _ s' m hv hn fun h' m' _ hs' => any_of (wpAny_mono (hr h' hs' _ rfl) (fun _ _ f => f.elim) fun _ _ y => y)))
end
section
variable {prog : Program} {w : World} {A : Around} {R : Result → Shared → Prop} {s : Shared}
theorem cod_compLoop {elt target iter : Expr} {scope : Scope} {pos : Pos} {it acc : Value} {env : PySem.Env} (I : Nat → Shared → Prop)
    (turn : ∀ n s, I n s → wpAny (model prog w) A (pyNext it) (fun r s₁ => match r with
      | none => R (.ok .next) s₁
      | some v => wpAny (model prog w) A (letOwnedTupleGo target it v) (fun _ s₁' => wpAny (model prog w) A (assign target env v) (fun _ s₂ => wpAny2 (model prog w) A (eval elt env) (fun x s₄ =>
              wpAny (model prog w) A (call (.builtin "list.append") [acc, x]) (fun _ s₅ => ∃ m, m < n ∧ I m s₅) (notedBy (model prog w) A env fun e s' => R (.error e) s') s₄) (notedBy (model prog w) A env fun e s' => R (.error e) s') s₂) (notedBy (model prog w) A env fun e s' => R (.error e) s') s₁') (notedBy (model prog w) A env fun e s' => R (.error e) s') s₁) (notedBy (model prog w) A env fun e s' => R (.error e) s') s)
    (n : Nat) (h : I n s) : codeAny2 (model prog w) A (.compLoop (.ListComp elt [⟨target, iter, [], 0⟩] scope pos) 0 it acc env) R s := by
  refine cod_loop rfl I (fun n s hI => ?_) n h
  show wpAny2 _ A ((compTurn (.ListComp elt [⟨target, iter, [], 0⟩] scope pos) 0 it acc env).onRaise (fun x => do noteFrame x env; theTreesLotGoes x)) _ _ s
  refine any_noted ?_
  rw [compTurn_list1]
  refine any_bind (any_standAt (any_bindL (wpAny_mono (turn n s hI) (fun r s₁ h₁ => ?_) fun _ _ h' => h')))
  cases r with
  | none => exact any_pure h₁
  | some v =>
    refine any_bindL (wpAny_mono h₁ (fun _ s₁' h₁' => ?_) fun _ _ h' => h')
    refine any_bindL (wpAny_mono h₁' (fun _ s₂ h₂ => ?_) fun _ _ h' => h')
    exact any_bind (any_bind (any_mono h₂ (fun x s₄ h₄ => any_bindL (wpAny_mono h₄ (fun _ s₅ h₅ => any_pure (any_pure ⟨rfl, h₅⟩)) fun _ _ h' => h')) fun _ _ h' => h'))
theorem cod_compStart {elt target iter : Expr} {ifs : List Expr} {rest : List Comprehension} {scope : Scope} {pos : Pos} {it acc : Value} {env : PySem.Env}
    (h0 : codeAny2 (model prog w) A (.compLoop (.ListComp elt (⟨target, iter, ifs, 0⟩ :: rest) scope pos) 0 it acc env) R s)
    (h : wpAny (model prog w) A (pyIter it) (fun it' s' => codeAny2 (model prog w) A (.compLoop (.ListComp elt (⟨target, iter, ifs, 0⟩ :: rest) scope pos) 0 it' acc env) R s') (notedBy (model prog w) A env fun x s' => R (.error x) s') s) :
    codeAny2 (model prog w) A (.compStart (.ListComp elt (⟨target, iter, ifs, 0⟩ :: rest) scope pos) 0 it acc env) R s := by
  refine cod_tree ?_
  show wpAny2 _ _ ((compStart (.ListComp elt (⟨target, iter, ifs, 0⟩ :: rest) scope pos) 0 it acc env).onRaise (fun x => do noteFrame x env; standAt theWindowsPlace)) _ _ s
  refine any_notedAt ?_
  unfold compStart
  show wpAny2 _ _ (ask >>= _) _ _ s
  refine any_bindL (wpAny_askSetting ?_)
  show wpAny2 _ _ (if _ then _ else _) _ _ s
  split
  · first
      | exact any_bindL (wpAny_pure (any_pure (And.intro rfl h0)))
      | exact any_pure (And.intro rfl h0)
  · first
      | exact any_bindL (wpAny_rule (any_bind (any_standAt (any_bindL (wpAny_mono h (fun it' s' h' => any_pure (And.intro rfl h')) fun _ _ x => x)))))
      | (refine any_bindL (wpAny_rule ?_); show wpAny2 _ _ (standAt iter.pos >>= _) _ _ s; exact any_bind (any_standAt (any_bindL (wpAny_mono h (fun it' s' h' => any_pure (And.intro rfl h')) fun _ _ x => x))))
end
section
variable {X : Cx}
theorem lc_core2 {pins : List (Addr × Obj)} {s : Shared} {σ : L2.St} {H : Hp} {Q : VK} {elt tg iter : Expr} {scope : Scope} {own : List (Str × Nat)} {pos pos' : Pos} {wi : TI} {g : TG} {te : TE} {Qf : Value → Shared → Prop}
    (hc : X.calm = true) (hN : X.N.Nodup) (I : Inv X pins σ H s) (hi : PI X tg iter wi) (ok : BlkOk X.N X.env.scope scope own)
    (hg : ∀ (s : Shared) (H : Hp) (C : Addr) (cl : List (Str × Addr)) (fp : List Addr), PG (X.blk s H scope (compEnvC scope cl C X.env) fp) tg g)
    (he : ∀ (s : Shared) (H : Hp) (C : Addr) (cl : List (Str × Addr)) (fp : List Addr), PE2 (X.blk s H scope (compEnvC scope cl C X.env) fp) elt te) (hs : ∀ x, foldedSetIterable iter X.env x = pure x)
    (h : tLc wi g tYes te (own.map (·.2)) σ H Q)
    (hRR : ∀ D C s' m H', Inv X pins σ H' s' → Q (.ref D) H' → s'.heap.Ns C m → FpOk X pins H' C → compPost (model X.prog X.w) X.A X.xe none Qf (.ref D) C (.ok .next) s') :
    wpAny2 (model X.prog X.w) X.A (comprehension (.ListComp elt [⟨tg, iter, [], 0⟩] scope pos) scope X.env pos' (newList []) false (eval iter X.env) none) Qf X.xe s := by
  have hfree : ∀ y ∈ scope.names, y.2 = .free → ∃ c, X.env.cells.lookup y.1 = some c := fun y hy e => by
    rcases ok.free y hy e with k | k
    · exact I.ok.has _ (.inl k)
    · exact I.ok.has _ (.inr k)
  refine any_comp rfl hs (closure_ok hfree) ok.kind (fun y hy e => by rw [ok.uniq y hy, e]) (thn (hi.run pins s σ H _ I h) fun xv s1 hx => thn hx fun itv s2 h2 => ?_)
  obtain ⟨it, fp, tn, J, H2, e, I2, T, st2, f2, q⟩ := h2
  subst e
  refine wpAny_newObj_type (newEnv_comp ?_) (by show 0 ≤ sizeLine; decide)
  generalize hD : s2.heap.objs.size = D
  have hDn : H2 D = none := I2.hok.fresh (Nat.le_of_eq hD)
  obtain ⟨W, ⟨m0, w0⟩, turn⟩ := q D hDn
  generalize hs3 : ({ s2 with heap := s2.heap.push { cls := .type "list", data := .seq ([] : List Value).toArray } } : Shared) = s3
  have I3 : Inv X pins σ (upd H2 D (.lst [])) s3 := by
    rw [← hs3]
    refine I2.laid (t' := s2.toks) (fun b o e => Heap.get?_push_of_some _ e) (Nat.le_of_eq hD) ⟨Nat.zero_le _, [], 0, .nil, ?_⟩
    rw [← hD]
    exact Heap.get?_push_size _ rfl
  have h3 : s3.heap = s2.heap.push { cls := .type "list", data := .seq ([] : List Value).toArray } := by rw [← hs3]
  have sz : ∀ b ∈ fp, b < s2.heap.objs.size := fun b hb => by
    obtain ⟨o, e, _⟩ := T.obj _ _ st2 b hb
    exact Heap.lt_size e
  have f3 : ∀ b ∈ fp, FpOk X pins (upd H2 D (.lst [])) b ∧ b < s3.heap.objs.size := fun b hb => by
    have hlt := sz b hb
    refine ⟨⟨?_, (f2 b hb).2⟩, by rw [h3, Heap.size_push]; exact Nat.lt_succ_of_lt hlt⟩
    rw [upd_ne (by rw [← hD]; exact Nat.ne_of_lt hlt)]
    exact (f2 b hb).1
  have st3 : tn 0 s3.heap := T.keep _ _ _ st2 fun b _ o e => by rw [h3]; exact Heap.get?_push_of_some _ e
  have I4 := block_start I3 ok hN f3
  have pg := hg s3 (upd H2 D (.lst [])) s3.heap.objs.size (cellsFrom (s3.heap.objs.size + 1) scope.names (cloFrom X.env.cells scope.names [])) fp
  have pe := he s3 (upd H2 D (.lst [])) s3.heap.objs.size (cellsFrom (s3.heap.objs.size + 1) scope.names (cloFrom X.env.cells scope.names [])) fp
  show codeAny2 _ _ (.compStart (.ListComp elt [⟨tg, iter, [], 0⟩] scope pos) 0 (.ref it) (.ref D) (compEnvC scope (cellsFrom (s3.heap.objs.size + 1) scope.names (cloFrom X.env.cells scope.names [])) s3.heap.objs.size X.env)) (compPost (model X.prog X.w) X.A X.xe none Qf (.ref D) s3.heap.objs.size) { s3 with heap := pushCells (s3.heap.push { cls := .type "dict", data := .dict #[] }) scope.names }
  have nfp : ∀ b ∈ fp, (upd H2 D (.lst [])) b = none := fun b hb => (f3 b hb).1.1
  generalize hce : compEnvC scope (cellsFrom (s3.heap.objs.size + 1) scope.names (cloFrom X.env.cells scope.names [])) s3.heap.objs.size X.env = ce at I4 pg pe ⊢
  have cL : ce.locals = s3.heap.objs.size := by subst hce; rfl
  generalize hH3 : upd H2 D (.lst []) = H3 at I3 I4 pg pe w0 nfp f3
  generalize hs4 : ({ s3 with heap := pushCells (s3.heap.push { cls := .type "dict", data := .dict #[] }) scope.names } : Shared) = s4 at I4 ⊢
  have st4 : tn 0 s4.heap := T.keep _ _ _ st3 fun b _ o e => by rw [← hs4]; exact pushCells_keeps _ _ _ _ (Heap.get?_push_of_some _ e)
  have stat : ∀ {σ' : L2.St} {H' : Hp} {s' : Shared}, Inv (X.blk s3 H3 scope ce fp) [] σ' H' s' → (∀ b ∈ fp, H' b = none) → ∀ b ∈ fp, FpOk (X.blk s3 H3 scope ce fp) [] H' b := fun {σ' H' s'} I' hn b hb =>
    ⟨hn b hb, (I'.ok.exf b hb).1, I'.ok.exfs b hb, .inl hb, fun x c e => (I'.ok.exf b hb).2 x c e, fun p hp => absurd (show p ∈ ([] : List (Addr × Obj)) ++ [] from hp) (by simp)⟩
  have loop : codeAny2 (model X.prog X.w) X.A (.compLoop (.ListComp elt [⟨tg, iter, [], 0⟩] scope pos) 0 (.ref it) (.ref D) ce) (compPost (model X.prog X.w) X.A X.xe none Qf (.ref D) s3.heap.objs.size) s4 := by
    refine cod_compLoop (fun n s' => ∃ i H', Inv (X.blk s3 H3 scope ce fp) [] (wipe σ (own.map (·.2))) H' s' ∧ tn i s'.heap ∧ (∀ b ∈ fp, H' b = none) ∧ W i n H') ?_ m0 ⟨0, H3, I4, st4, nfp, w0⟩
    rintro n s5 ⟨i, H5, I5, st5, n5, w5⟩
    rcases turn i n H5 w5 with ⟨stop, qq⟩ | ⟨go, Nx, hNx, step⟩
    · have td := T.done (X.blk s3 H3 scope ce fp) rfl rfl rfl hc i [] s5 _ H5 (fun _ _ => False) I5 (stat I5 n5) st5 stop
      refine thnF td fun r s6 ⟨hr, I6⟩ => ?_
      subst hr
      have I7 : Inv X pins σ H5 s6 := I3.call' (ch := fp) I6.os I6.base I6.hok I6.bare fun b hb => ⟨(f3 b hb).1.2.2.2.1, (f3 b hb).1.2.1, (f3 b hb).1.2.2.2.2.1, (f3 b hb).1.2.2.2.2.2⟩
      have nC : H5 s3.heap.objs.size = none := by
        have z : H5 ce.locals = none := I6.free
        rw [cL] at z
        exact z
      obtain ⟨m, hn, _⟩ := I6.loc
      have hn : s6.heap.Ns ce.locals m := hn
      rw [cL] at hn
      exact hRR D s3.heap.objs.size s6 m H5 I7 qq hn (I3.fpOk (Nat.le_refl _) nC)
    · have ti := T.item (X.blk s3 H3 scope ce fp) rfl rfl rfl hc i [] s5 _ H5 (fun _ _ => False) I5 (stat I5 n5) st5 go
      refine thnF ti fun r s6 ⟨u, hr, h6⟩ => ?_
      subst hr
      refine thnF h6 fun _ s7 ⟨x, H7, I7, r7, y7, st7, n7⟩ => ?_
      have I7' := I7.pinned (stat I7 n7) (T.obj _ _ st7)
      refine thnF (pg.run _ s7 _ H7 x u _ I7' r7 (step x H7 y7)) fun _ s8 ⟨σ8, H8, I8, hw8, q8⟩ => ?_
      have fin : ∀ {s' : Shared} {H' : Hp}, Inv (X.blk s3 H3 scope ce fp) ([] ++ pinsAt fp s7.heap) σ8 H' s' → Nx H' → ∃ m, m < n ∧ ∃ i H', Inv (X.blk s3 H3 scope ce fp) [] (wipe σ (own.map (·.2))) H' s' ∧ tn i s'.heap ∧ (∀ b ∈ fp, H' b = none) ∧ W i m H' := fun {s' H'} I' nx => by
        obtain ⟨m', hm, w'⟩ := hNx H' nx
        have pin' : ∀ b ∈ fp, ∀ o, s7.heap.get? b = some o → s'.heap.get? b = some o ∧ H' b = none := fun b hb o e =>
          let z := I'.pin (b, o) (List.mem_append_right _ (List.mem_append_right _ (mem_pinsAt hb e)))
          ⟨z.1, z.2.1⟩
        have hl : (wipe σ (own.map (·.2))).length = σ8.length := by rw [← hw8, wipe_length]
        refine ⟨m', hm, i + 1, H', (I'.unpinned (pins := [])).weak hl (fun j v e => ?_), T.keep _ _ _ st7 fun b hb o e => (pin' b hb o e).1, fun b hb => ?_, w'⟩
        · rw [← hw8] at e
          exact (wipe_some e).1
        · obtain ⟨o, e, _⟩ := T.obj _ _ st7 b hb
          exact (pin' b hb o e).2
      have q9 := q8
      simp only [tYes, if_true] at q9
      refine any_mono (pe.run _ s8 σ8 H8 _ I8 q9) (fun z s10 ⟨yv, H10, I10, r10, acc, hD10, hz10, nx⟩ => ?_) fun _ _ z => False.elim z
      exact app_ok (X := X.blk s3 H3 scope ce fp) I10 hD10 hz10 r10 fun s11 I11 => fin I11 nx
  exact cod_compStart loop (T.self X.A 0 _ _ _ st4 loop)
theorem pe2_lc {elt tg iter : Expr} {scope : Scope} {own : List (Str × Nat)} {pos : Pos} {wi : TI} {g : TG} {te : TE} (hc : X.calm = true) (hN : X.N.Nodup) (hi : PI X tg iter wi) (ok : BlkOk X.N X.env.scope scope own)
    (hg : ∀ (s : Shared) (H : Hp) (C : Addr) (cl : List (Str × Addr)) (fp : List Addr), PG (X.blk s H scope (compEnvC scope cl C X.env) fp) tg g)
    (he : ∀ (s : Shared) (H : Hp) (C : Addr) (cl : List (Str × Addr)) (fp : List Addr), PE2 (X.blk s H scope (compEnvC scope cl C X.env) fp) elt te) (hs : ∀ x, foldedSetIterable iter X.env x = pure x) :
    PE2 X (.ListComp elt [⟨tg, iter, [], 0⟩] scope pos) (tLc wi g tYes te (own.map (·.2))) := by
  refine ⟨fun pins s σ H Q I h => ?_⟩
  rw [eval_ListComp]
  refine lc_core2 hc hN I hi ok hg he hs h fun D C s' m H' I' q hn f => ⟨m, hn, fun h'' sb => ?_⟩
  obtain ⟨f0, f1, f2, f3, f4, f5⟩ := f
  exact ⟨.ref D, H', I'.turned (t' := s'.toks) (fun b o hb e => (sb.2 b hb).trans e) f0 f1 f3 f4 f5, rfl, q⟩
end
section
variable {Tq : List (Addr × Str)} {Z : Zb Tq} {X : Cx} {e a b c elt tg iter : Expr} {es : List Expr} {env : Env} {pos p : Pos} {P PR : R → Env → Prop} {st : Stmt} {rest body els : List Stmt}
def WA2 (Z : Zb Tq) (X : Cx) (e : Expr) (env : Env) (P : A → Env → Prop) : Prop := WE2 Z X e env fun r env' => toA r fun a => P a env'
theorem WA2.run {P : A → Env → Prop} {pins : List (Addr × Obj)} {σ : L2.St} {H F : Hp} {O : List Addr} {s : Shared} (h : WA2 Z X e env P) (I : Inv X pins σ H s) (b : Bas Z F H O) (o : OwE F H O σ env) :
    wpAny2 (model X.prog X.w) X.A (eval e X.env) (EP X pins σ (PostA Z σ H F O P)) X.xe s := any_mono (h pins s σ H F O I b o) (EP.imp fun _ _ => Post.toA) fun _ _ x => x
theorem WA.two {P : A → Env → Prop} (h : WA Z X e env P) : WA2 Z X e env P := WE.two h
def tA2 (Z : Zb Tq) (X : Cx) (e : Expr) : TE := fun σ H Q => ∃ env F O P, Bas Z F H O ∧ OwE F H O σ env ∧ WA2 Z X e env P ∧ ∀ v H', PostA Z σ H F O P v H' → Q v H'
theorem pe2_A : PE2 X e (tA2 Z X e) := ⟨fun pins s σ H Q I ⟨env, F, O, P, b, o, w, q⟩ => any_mono (w.run I b o) (EP.imp q) fun _ _ x => x⟩
def tAB2 (Z : Zb Tq) (X : Cx) (scope : Scope) (e : Expr) : TE := fun σ H Q => ∃ env F O P, Bas Z F H O ∧ OwE F H O σ env ∧ (Blk X scope fun X' => WA2 Z X' e env P) ∧ ∀ v H', PostA Z σ H F O P v H' → Q v H'
theorem pe2_AB {scope : Scope} (s : Shared) (H : Hp) (C : Addr) (cl : List (Str × Addr)) (fp : List Addr) : PE2 (X.blk s H scope (compEnvC scope cl C X.env) fp) elt (tAB2 Z X scope elt) :=
  ⟨fun pins s' σ H' Q I ⟨env, F, O, P, b, o, w, q⟩ => any_mono ((w s H C cl fp).run I b o) (EP.imp q) fun _ _ x => x⟩
/-- one turn's element -/
def ElI2 {Tq : List (Addr × Str)} (Z : Zb Tq) (X : Cx) (scope : Scope) (elt : Expr) (vs : List Nat) (I : List D → Env → Prop) (acc : List D) (e2 : Env) : Prop :=
  Blk X scope fun X' => WA2 Z X' elt e2 fun a e3 => absorb [a] e3 fun ds e4 => match ds with
    | [y] => acc.length < sizeLine ∧ I (acc ++ [y]) (wipeE e4 vs)
    | _ => False
structure LcI2 {Tq : List (Addr × Str)} (Z : Zb Tq) (X : Cx) (scope : Scope) (f : TF) (elt : Expr) (vs : List Nat) (T : Env → (Bool → Env → Prop) → Prop) (P : R → Env → Prop) (ds : List D) (e1 : Env) : Prop where
  ex : ∃ I : Nat → List D → Env → Prop, I 0 [] (wipeE e1 vs) ∧ (∀ k d acc e, ds[k]? = some d → I k acc e → f d e fun e' => T e' fun bb e2 => (bb = true → ElI2 Z X scope elt vs (I (k + 1)) acc e2) ∧ (bb = false → I (k + 1) acc (wipeE e2 vs))) ∧
    ∀ acc e, I ds.length acc e → ∀ p, P (.t (.lst p acc)) e
theorem lc_read2 {g : TG} {f : TF} {ix : List Nat} {scope : Scope} {vs : List Nat} {tt : TT} {T : Env → (Bool → Env → Prop) → Prop} (gk : GOk Z g f ix) (hix : ∀ i ∈ ix, i ∈ vs)
    (tk : ∀ σ H F O env k (Q : Bool → Hp → Prop), Bas Z F H O → OwE F H O σ env → T env k → (∀ bb H' F' O' e', Bas Z F' H' O' → OwE F' H' O' σ e' → Frm Tq H F O H' F' O' → k bb e' → Q bb H') → tt σ H Q)
    {σ0 : L2.St} {H0 F0 : Hp} {O0 : List Addr} (b0 : Bas Z F0 H0 O0) (o0 : OwE F0 H0 O0 σ0 env) (h : WI Z X tg iter env (LcI2 Z X scope f elt vs T PR)) :
    tLc (tI Z X tg iter) g tt (tAB2 Z X scope elt) vs σ0 H0 (Post Z σ0 H0 F0 O0 PR) := by
  refine ⟨env, F0, O0, _, b0, o0, h, fun J H1 F1 O1 ds e1 b1 o1 fr1 gv ⟨I, i0, step, done⟩ D hD => ?_⟩
  have fD : F1 D = none := b1.sub.free hD
  refine ⟨fun i m H => m = ds.length - i ∧ i ≤ ds.length ∧ ∃ F O e e0 acc accV, Bas Z F H (O ++ [D]) ∧ OwE F H O (wipe σ0 vs) e ∧ e = wipeE e0 vs ∧ H D = some (.lst accV) ∧ RpA F accV acc ∧ Frm Tq H1 F1 O1 H F (O ++ [D]) ∧ I i acc e, ⟨_, rfl, Nat.zero_le _, ?_⟩, ?_⟩
  · -- the start
    obtain ⟨O2, Od, h2, h3⟩ := o1.wipeO vs
    have hn : ∀ a ∈ O1, a ≠ D := fun a ha z => by subst z; exact o1.there a ha hD
    have fr : Frm Tq H1 F1 O1 (upd H1 D (.lst [])) F1 (O2 ++ [D]) := ⟨Same.refl _, fun a o e _ _ => same_new hD a o e, fun a e => by
      by_cases z : a = D
      · subst z; rw [upd_same]; exact fun z => nomatch z
      · rw [upd_ne z]; exact e, fun a e => .inl e, fun a ha => (List.mem_append.mp ha).elim (fun z => .inl (h3.mem_iff.mpr (List.mem_append_left _ z))) fun z => .inr (by rw [List.mem_singleton.mp z]; exact hD), tab_new hD⟩
    have b2 := (b1.dropP h3).1
    refine ⟨F1, O2, wipeE e1 vs, e1, [], [], ⟨b1.sub.trans (same_new hD), List.nodup_append.mpr ⟨b2.nd, List.nodup_cons.mpr ⟨fun z => (nomatch z), List.nodup_nil⟩, fun a ha c hc z => ?_⟩, fun a ha => ?_, b1.abs.trans fr⟩, ?_, rfl, upd_same, .nil, fr, i0⟩
    · rw [List.mem_singleton.mp hc] at z
      exact hn a (h3.mem_iff.mpr (List.mem_append_left _ ha)) z
    · rcases List.mem_append.mp ha with ha | ha
      · exact b2.dis a ha
      · rw [List.mem_singleton.mp ha]; exact fD
    · have o3 : OwE F1 (upd H1 D (.lst [])) O2 σ0 (wipeE e1 vs) := h2.stay (Same.refl _) fun a ha => upd_ne (hn a (h3.mem_iff.mpr (List.mem_append_left _ ha)))
      exact o3.wiped wipe_wipe
  · rintro i m H ⟨rfl, hi, F, O, e, e0, acc, accV, b, o, he0, hDl, rA, fr, hI⟩
    obtain ⟨g1, g2⟩ := gv F H fr.fz b.sub i
    by_cases hlt : i < ds.length
    · obtain ⟨go, yl⟩ := g1 ds[i] (List.getElem?_eq_getElem hlt)
      refine .inr ⟨go, fun H' => ∃ F O e e0 acc accV, Bas Z F H' (O ++ [D]) ∧ OwE F H' O (wipe σ0 vs) e ∧ e = wipeE e0 vs ∧ H' D = some (.lst accV) ∧ RpA F accV acc ∧ Frm Tq H1 F1 O1 H' F (O ++ [D]) ∧ I (i + 1) acc e, fun H' q => ⟨ds.length - (i + 1), by omega, rfl, hlt, q⟩, fun x H' y => ?_⟩
      obtain ⟨F', rx, s1, s2, s3, nf⟩ := yl x H' y
      have dD : ∀ a ∈ [D], Held H a := fun a ha => by rw [List.mem_singleton.mp ha]; exact ⟨_, hDl, fun _ z => nomatch z⟩
      have bL := b.left
      obtain ⟨b2, o2, fr2⟩ := bL.grow o s1 s2 s3 nf
      have b2D : Bas Z F' H' (O ++ [D]) := Bas.frame fr2 b b2 dD
      refine gk x _ (wipe σ0 vs) H' F' O e _ _ b2 o2 rx (step i _ acc e (List.getElem?_eq_getElem hlt) hI) fun σ3 O3 e3 b3 o3 s3' w3 h3 => ?_
      have hw : wipe σ3 vs = wipe (wipe σ0 vs) vs := w3 vs hix
      rw [wipe_wipe] at hw
      refine ⟨hw, ?_⟩
      have hD3 : H' D = some (.lst accV) := s2 _ _ hDl
      have dD3 : ∀ a ∈ [D], Held H' a := fun a ha => by rw [List.mem_singleton.mp ha]; exact ⟨_, hD3, fun _ z => nomatch z⟩
      have fr23 : Frm Tq H F O H' F' O3 := fr2.perm (fun _ => Iff.rfl) s3'
      have b3D : Bas Z F' H' (O3 ++ [D]) := Bas.frame fr23 b b3 dD
      have frD : Frm Tq H1 F1 O1 H' F' (O3 ++ [D]) := fr.trans fr23.frame
      refine tk σ3 H' F' O3 e3 _ _ b3 o3 h3 fun bb H4 F4 O4 e4 b4 o4 fr4 h4 => ?_
      have hD4 : H4 D = some (.lst accV) := fr4.out D _ hD3 (fun _ z => nomatch z) fun z => (List.nodup_append.mp b3D.nd).2.2 D z D (List.mem_singleton.mpr rfl) rfl
      have b4D : Bas Z F4 H4 (O4 ++ [D]) := Bas.frame fr4 b3D b4 dD3
      have frD4 : Frm Tq H1 F1 O1 H4 F4 (O4 ++ [D]) := frD.trans fr4.frame
      have dD4 : ∀ a ∈ [D], Held H4 a := fun a ha => by rw [List.mem_singleton.mp ha]; exact ⟨_, hD4, fun _ z => nomatch z⟩
      -- a turn's end
      have fin : ∀ {H5 F5 : Hp} {O5 : List Addr} {e5 : Env} {acc5 : List PyData} {accV5 : List V}, Bas Z F5 H5 (O5 ++ [D]) → OwE F5 H5 O5 σ3 e5 → H5 D = some (.lst accV5) → RpA F5 accV5 acc5 → Frm Tq H1 F1 O1 H5 F5 (O5 ++ [D]) → I (i + 1) acc5 (wipeE e5 vs) →
          ∃ F O e e0 acc accV, Bas Z F H5 (O ++ [D]) ∧ OwE F H5 O (wipe σ0 vs) e ∧ e = wipeE e0 vs ∧ H5 D = some (.lst accV) ∧ RpA F accV acc ∧ Frm Tq H1 F1 O1 H5 F (O ++ [D]) ∧ I (i + 1) acc e := fun {H5 F5 O5 e5 acc5 accV5} b5 o5 hD5 r5 fr5 hI5 => by
        obtain ⟨O6, Od6, h6, p6⟩ := o5.wipeO vs
        have p6' : (O5 ++ [D]).Perm ((O6 ++ [D]) ++ Od6) := (p6.append_right [D]).trans (by
          rw [List.append_assoc, List.append_assoc]
          exact List.perm_append_comm.append_left O6)
        refine ⟨F5, O6, wipeE e5 vs, e5, acc5, accV5, (b5.perm p6').left, h6.wiped ?_, rfl, hD5, r5, fr5.perm (fun _ => Iff.rfl) fun c hc => p6'.mem_iff.mpr (List.mem_append_left _ hc), hI5⟩
        rw [wipe_wipe]
        exact hw.symm
      cases bb with
      | false => exact iteF (fin b4D o4 hD4 (rA.mono (s1.trans fr4.fz)) frD4 (h4.2 rfl))
      | true =>
        refine iteT ⟨e4, F4, O4, _, b4, o4, h4.1 rfl, fun y H5 ⟨F5, O5, a5, e5, b5, o5, st5, fr5, p5⟩ => ?_⟩
        obtain ⟨F6, O6, ds6, e6, b6, o6, r6, fr6, q6⟩ := absorb_ok (.cons st5 .nil) b5 o5 p5
        have fr56 := fr5.trans fr6
        cases r6 with
        | cons r7 rr =>
          cases rr
          obtain ⟨hz, q7⟩ := q6
          have hD5 : H5 D = some (.lst accV) := fr5.out D _ hD4 (fun _ z => nomatch z) fun z => (List.nodup_append.mp b4D.nd).2.2 D z D (List.mem_singleton.mpr rfl) rfl
          have b6D : Bas Z F6 H5 (O6 ++ [D]) := Bas.frame fr56 b4D b6 dD4
          have frD6 : Frm Tq H1 F1 O1 H5 F6 (O6 ++ [D]) := frD4.trans fr56.frame
          have nD : ∀ a ∈ O6, a ≠ D := fun a ha z => (List.nodup_append.mp b6D.nd).2.2 a ha D (List.mem_singleton.mpr rfl) z
          have fD6 : F6 D = none := b6D.dis D (List.mem_append_right _ (List.mem_singleton.mpr rfl))
          have rA6 : RpA F6 accV acc := rA.mono (s1.trans (fr4.fz.trans fr56.fz))
          refine ⟨accV, hD5, by rw [rA6.len]; exact hz, ?_⟩
          have hs : Same F6 (upd H5 D (.lst (accV ++ [y]))) := fun a x ha => by
            have z : a ≠ D := fun z => by subst z; rw [fD6] at ha; cases ha
            rw [upd_ne z]; exact b6D.sub a x ha
          have fr7 : Frm Tq H5 F6 (O6 ++ [D]) (upd H5 D (.lst (accV ++ [y]))) F6 (O6 ++ [D]) := ⟨Same.refl _, fun a x ha _ hn => by
            rw [upd_ne fun z => hn (by rw [z]; exact List.mem_append_right _ (List.mem_singleton.mpr rfl))]; exact ha, fun a ha => by
            by_cases z : a = D
            · subst z; rw [upd_same]; exact fun z => nomatch z
            · rw [upd_ne z]; exact ha, fun a ha => .inl ha, fun a ha => .inl ha, tab_upd fun o e => by rw [hD5] at e; cases e; exact ⟨(fun _ z => nomatch z), (fun _ z => nomatch z)⟩⟩
          exact fin ⟨hs, b6D.nd, b6D.dis, b6D.abs.trans fr7⟩ (o6.stay (Same.refl _) fun a ha => upd_ne (nD a ha)) upd_same (rA6.app (.cons r7 .nil)) (frD6.trans fr7) q7
    · have e' : i = ds.length := by omega
      subst e'
      refine .inl ⟨g2 (List.getElem?_eq_none (Nat.le_refl _)), F, O ++ [D], .t (.lst D acc), e, b, ⟨O, [D], rfl, ?_, .lst hDl rA⟩, fr1.trans fr, done acc e hI D⟩
      subst he0
      exact o.wiped wipe_wipe.symm
theorem w2_lc {g : TG} {f : TF} {ix : List Nat} {scope : Scope} {own : List (Str × Nat)} (hc : X.calm = true) (hN : X.N.Nodup) (ok : BlkOk X.N X.env.scope scope own) (hg : Blk X scope fun X' => PG X' tg g) (gk : GOk Z g f ix) (hix : ∀ i ∈ ix, i ∈ own.map (·.2))
    (h : WI Z X tg iter env (LcI2 Z X scope f elt (own.map (·.2)) (fun e k => k true e) PR)) (hs : ∀ x, foldedSetIterable iter X.env x = pure x := by intro _; rfl) : WE2 Z X (.ListComp elt [⟨tg, iter, [], 0⟩] scope pos) env PR :=
  we2_of (pe2_lc (own := own) hc hN (pi_I (Z := Z)) ok hg (pe2_AB (Z := Z)) hs) fun σ H F O b o => lc_read2 gk hix (fun σ H F O env k Q b o t q => q true H F O env b o (Frm.refl _ _ _) t) b o h

/-! arguments -/
def WAs2 (Z : Zb Tq) (X : Cx) : List Expr → Env → (List A → Env → Prop) → Prop
  | [], env, P => P [] env
  | e :: es, env, P => (starEach (e :: es) X.env = (false, eval e X.env) :: starEach es X.env) ∧ WA2 Z X e env fun a env1 => WAs2 Z X es env1 fun as env2 => P (a :: as) env2
def tAs2 (Z : Zb Tq) (X : Cx) (es : List Expr) : TA := fun σ H Q => ∃ env F O P, Bas Z F H O ∧ OwE F H O σ env ∧ WAs2 Z X es env P ∧ ∀ v H', PostAs Z σ H F O P v H' → Q v H'
theorem pa2_As : ∀ {es : List Expr}, PA2 X es (tAs2 Z X es)
  | [] => ⟨fun pos pins s σ H Q I ⟨env, F, O, P, b, o, w, q⟩ => pa2_nil.run pos pins s σ H Q I (q [] H ⟨F, O, [], env, b, o, .nil, Frm.refl _ _ _, w⟩)⟩
  | e :: es => ⟨fun pos pins s σ H Q I ⟨env, F, O, P, b, o, w, q⟩ => by
    have hp := pa2_cons (X := X) (pe2_A (Z := Z) (e := e)) (pa2_As (es := es)) w.1
    refine hp.run pos pins s σ H Q I ⟨env, F, O, _, b, o, w.2, ?_⟩
    rintro v1 H1 ⟨F1, O1, a1, env1, b1, o1, st1, fr1, w1⟩
    refine ⟨env1, F1, O1, _, b1, o1, w1, ?_⟩
    rintro vs H2 ⟨F2, O2, as, env2, b2, o2, st2, fr2, w2⟩
    exact q _ _ ⟨F2, O2, a1 :: as, env2, b2, o2, .cons (st1.mono fr2.fz) st2, fr1.trans fr2, w2⟩⟩
theorem w2_lst (h : WAs2 Z X es env fun as env1 => absorb as env1 fun ds env2 => ds.length ≤ sizeLine ∧ ∀ p, P (.t (.lst p ds)) env2) : WE2 Z X (.List es pos) env P :=
  we2_of (pe2_lst pa2_As) fun σ H F O b o => ⟨env, F, O, _, b, o, h, fun vs H1 ⟨F1, O1, as, env1, b1, o1, st1, fr1, h1⟩ => by
    obtain ⟨F2, O2, ds, env2, b2, o2, r2, fr2, z, q⟩ := absorb_ok st1 b1 o1 h1
    refine ⟨by rw [r2.len]; exact z, fun p hp => ?_⟩
    exact ((NewV.lst b2.sub r2 hp (k := fun t => t = .lst p ds) rfl).post b2 o2 (fun t e => by subst e; exact q p)).from (fr1.trans fr2)⟩
def W22 (Z : Zb Tq) (X : Cx) (a b : Expr) (env : Env) (k : D → D → Env → Prop) : Prop := WA2 Z X a env fun a1 e1 => WA2 Z X b e1 fun a2 e2 => View a1 e2 fun d1 => View a2 e2 fun d2 => k d1 d2 e2
theorem wt2_cmp {op : CmpOp} {g : D → D → (T → Prop) → Prop} {P : Bool → Env → Prop} (ho : DOp X (compareOp op) g) (h : W22 Z X a b env fun d1 d2 e2 => g d1 d2 fun t => ∃ k, t = .va (.bool k) ∧ P k e2) (hm : behindInMarks op b = false := by first | exact nomark _ | rfl) :
    WT2 Z X (.Compare a [op] [b] pos) env P := wt2_of (pt2_cmpR ho.r pe2_A pe2_A hm) fun σ H F O b0 o => by
  refine ⟨env, F, O, _, b0, o, h, fun v1 H1 ⟨F1, O1, a1, env1, b1, o1, st1, fr1, h1⟩ => ?_⟩
  refine ⟨env1, F1, O1, _, b1, o1, h1, fun v2 H2 ⟨F2, O2, a2, env2, b2, o2, st2, fr2, h2⟩ => ?_⟩
  obtain ⟨d1, w1, h3⟩ := View.vw h2 o2 (st1.mono fr2.fz)
  obtain ⟨d2, w2, h4⟩ := View.vw h3 o2 st2
  refine ⟨F2, d1, d2, _, b2.sub, w1, w2, h4, fun v H' n => ?_⟩
  obtain ⟨k, F3, O3, env3, rfl, b3, o3, fr3, p⟩ := post_bool (K := P) (n.post b2 o2 (P := fun r e1 => ∃ k, r = .t (.va (.bool k)) ∧ P k e1) fun t ⟨k, e, q⟩ => ⟨k, by rw [e], q⟩)
  exact ⟨k, rfl, F3, O3, env3, b3, o3, (fr1.trans fr2).trans fr3, p⟩
theorem callD_post2 {g : List D → (T → Prop) → Prop} {σ : L2.St} {H F : Hp} {O : List Addr} (b0 : Bas Z F H O) (o : OwE F H O σ env)
    (h : WAs2 Z X es env fun as e1 => Views as e1 fun ds => g ds fun t => P (.t t) e1) : tCB (rC g) (tAs2 Z X es) σ H (Post Z σ H F O P) :=
  ⟨env, F, O, _, b0, o, h, fun vs H1 ⟨F1, O1, as, e1, b1, o1, st, fr, p⟩ => by
    obtain ⟨ds, ws, q⟩ := Views.vws o1 st p
    exact ⟨F1, ds, _, b1.sub, ws, q, fun v H' n => (n.post b1 o1 fun t q => q).from fr⟩⟩
theorem w2_callB {g : List D → (T → Prop) → Prop} {x : Str} {id : String} {p : Pos} (hc : DCall X (.builtin id) g) (hm : X.mg x = none) (hv : bootBuiltins x = some (.builtin id)) (h : WAs2 Z X (e :: es) env fun as e1 => Views as e1 fun ds => g ds fun t => P (.t t) e1)
    (hg : Gl X x := by rfl) (hn : x ≠ "__name__" := by decide) (hdb : (x == ("__debug__" : Str)) = false := by decide)
    (he : starEach (e :: es) X.env = (false, eval e X.env) :: starEach es X.env := by rfl) (hpl : (backTo pos (starEach es X.env)).any (·.1) = false := by rfl) : WE2 Z X (.Call (.Name x p) (e :: es) [] pos) env P :=
  we2_of (pe2_callB hc.r hg hm hv pa2_As hn hdb he hpl) fun σ H F O b0 o => callD_post2 b0 o h
/-- f(e, ..), f a def of the second kind -/
theorem w2_fn {k : Nat} {x : Str} {ps : List Str} {sp : Spc} (G : Df2 X.prog X.w X.K X.mg X.base Tq k x ps sp) (hr : Room k X.A) (hgd : X.A.guards = some []) (h : WAs2 Z X (e :: es) env fun as e1 => callD sp as e1 (fun t e => P (.t t) e) fun _ _ => False)
    (hg : Gl X x := by rfl) (hdb : (x == ("__debug__" : Str)) = false := by decide) (he : starEach (e :: es) X.env = (false, eval e X.env) :: starEach es X.env := by rfl) (hpl : (backTo pos (starEach es X.env)).any (·.1) = false := by rfl) :
    WE2 Z X (.Call (.Name x p) (e :: es) [] pos) env P := fun pins s σ H F O I b o => by
  obtain ⟨f, fd, g, hm, hk, hb⟩ := G.ex
  rw [arm_eval_Call_Name']
  refine any_bindL (ld_glob I hg hm ?_ hdb)
  have z := (pa2_As (Z := Z)).run pos pins s σ H (PostAs Z σ H F O _) I ⟨env, F, O, _, b, o, h, fun _ _ q => q⟩
  rw [he] at z ⊢
  refine any_callWith (P := X.K.In) (by show (false || (backTo pos (starEach es X.env)).any (·.1)) = false; rw [hpl]; rfl) (PySem.W.keeps_K hk) (any_evalArgs (any_mono z (fun us s1 ⟨vs, H1, I1, r, F1, O1, as, e1, b1, o1, st, fr, q⟩ => ⟨I1.kIn, ?_⟩) fun _ _ x => x))
  have hl : us.length = ps.length := by
    obtain ⟨ts, e2, Oc, Or, pm, sv, o2, hh⟩ := deref_ok st o1 q
    rw [← r.length, sv.len, g.len _ _ _ hh]
  have hb2 : BindsTo s1 fd ⟨us, []⟩ (ps.zip us) := by
    have := hb s1 us I1.kIn (by rw [List.append_nil]; exact hl)
    rwa [List.append_nil] at this
  exact any_mono (call_g2 (us0 := us) (kw := []) (us := us) g hr hgd takes_no hb2 I1 b1 o1 st r q) (EP.imp fun v H' q => q.from fr) fun _ _ x => x
/-! or, and: as tests -/
theorem wt2_or1 {PT : Bool → Env → Prop} (h : WT2 Z X a env PT) : ∀ (whole : Sem Value) (pins : List (Addr × Obj)) (s : Shared) (σ : L2.St) (H F : Hp) (O : List Addr), Inv X pins σ H s → Bas Z F H O → OwE F H O σ env →
    wpAny2 (model X.prog X.w) X.A (isTrue (.BoolOp .Or [a] pos) X.env whole) (TP X pins σ (PostT Z σ H F O PT)) X.xe s := fun whole pins s σ H F O I b o => by
  show wpAny2 _ _ (do
    match BoolOp.Or, ← isTrue a X.env (eval a X.env) with
    | .And, false => pure false
    | .Or, true => pure true
    | _, _ => allTrue .Or [] X.env) _ _ _
  refine any_bind (any_mono (h pins s σ H F O I b o) (fun c s' h' => ?_) fun _ _ x => x)
  cases c with
  | false => exact any_of (isTrue_or_nil (pos := pos) (whole := whole) h')
  | true => exact any_pure h'
theorem wt2_or {PT : Bool → Env → Prop} (h : WT2 Z X a env fun k e1 => (k = true → PT true e1) ∧ (k = false → WT2 Z X b e1 PT)) : WT2 Z X (.BoolOp .Or [a, b] pos) env PT := fun pins s σ H F O I b0 o => by
  show wpAny2 _ _ (do
    match BoolOp.Or, ← isTrue a X.env (eval a X.env) with
    | .And, false => pure false
    | .Or, true => pure true
    | _, _ => allTrue .Or [b] X.env) _ _ _
  refine any_bind (any_mono (h pins s σ H F O I b0 o) (fun c s' ⟨H1, I1, F1, O1, e1, b1, o1, fr, p⟩ => ?_) fun _ _ x => x)
  cases c with
  | false => exact any_mono (wt2_or1 (pos := pos) (p.2 rfl) (eval b X.env) pins s' σ H1 F1 O1 I1 b1 o1) (fun k s2 ⟨H2, I2, F2, O2, e2, b2, o2, fr2, q⟩ => ⟨H2, I2, F2, O2, e2, b2, o2, fr.trans fr2, q⟩) fun _ _ x => x
  | true => exact any_pure ⟨H1, I1, F1, O1, e1, b1, o1, fr, p.1 rfl⟩
end
end QL

/-! GRg: the body of a generator def whose generator another delegates to: while it sleeps its own object is marked, its consumer's list grows. -/
namespace QL
open PySem PySem.Spec PyProof.Rows L2 GenW
/-- a generator's object, nobody asleep over it -/
def GenO (g : Nat) (o : Obj) : Prop := o.cls = .type "generator" ∧ (∃ nm qn, o.data = .fields #[.int g 0, nm, qn]) ∧ (o.slots = #[] ∨ o.slots = #[some (rawInt 0)])
theorem GenO.nocell {g : Nat} {o : Obj} (h : GenO g o) : ∀ v, o.data ≠ .cell v := fun v q => by
  obtain ⟨_, ⟨_, _, e⟩, _⟩ := h
  rw [e] at q; cases q
structure Slp (S : Addr) (Ls : List Addr) (a : Addr) (g : Nat) (v : Value) (s s' : Shared) : Prop where
  os : s'.os = s.os
  bare : AllBare s'.gens
  keep : ∀ b o, b ≠ S → b ≠ a → b ∉ Ls → s.heap.get? b = some o → s'.heap.get? b = some o
  gen : ∃ go, s'.heap.get? a = some go ∧ GenO g go
  own : ∀ acc c, s.heap.get? S = some (L2.lstObj acc c) → ∃ c', s'.heap.get? S = some (L2.lstObj (acc.push v) c')
  oth : ∀ L ∈ Ls, ∃ o, s'.heap.get? L = some o ∧ ∀ v, o.data ≠ .cell v
/-- Ls: what else its consumer changes; as the stretch found it -/
def GI2 (X : Cx) (S : Addr) (Ls : List Addr) (a : Addr) (g : Nat) (s₀ : Shared) (ys : List V) (σ : L2.St) (H : Hp) (s : Shared) : Prop := ∃ go los, GenO g go ∧ (los.map (·.1) = Ls ∧ ∀ p ∈ los, s₀.heap.get? p.1 = some p.2) ∧ GI X S ((a, go) :: los) ys σ H s
def Apart2 (X : Cx) (S : Addr) (Ls : List Addr) (a : Addr) : Prop := X.pn = [] ∧ a ≠ S ∧ Apart X S ∧ Apart X a ∧ ∀ L ∈ Ls, L ≠ S ∧ L ≠ a ∧ Apart X L
theorem GI2.at {X : Cx} {S : Addr} {Ls : List Addr} {a : Addr} {g : Nat} {s₀ : Shared} {ys : List V} {σ : L2.St} {H : Hp} {s : Shared} (h : GI2 X S Ls a g s₀ ys σ H s) :
    H S = none ∧ H a = none ∧ (∃ (acc : Array Value) (c : Nat), Vals ys acc.toList ∧ s.heap.get? S = some (L2.lstObj acc c)) ∧ ∃ go, s.heap.get? a = some go ∧ GenO g go := by
  obtain ⟨go, los, ok, _, acc, c, r, I⟩ := h
  obtain ⟨h1, h2, _⟩ := I.pin (S, L2.lstObj acc c) (List.mem_append_right _ List.mem_cons_self)
  obtain ⟨h3, h4, _⟩ := I.pin (a, go) (List.mem_append_right _ (List.mem_cons_of_mem _ List.mem_cons_self))
  exact ⟨h2, h4, ⟨acc, c, r, h1⟩, go, h3, ok⟩
theorem GI2.oth {X : Cx} {S : Addr} {Ls : List Addr} {a : Addr} {g : Nat} {s₀ : Shared} {ys : List V} {σ : L2.St} {H : Hp} {s : Shared} (h : GI2 X S Ls a g s₀ ys σ H s) : ∀ L ∈ Ls, ∃ o, s₀.heap.get? L = some o ∧ s.heap.get? L = some o ∧ (∀ v, o.data ≠ .cell v) ∧ H L = none ∧ L ≠ X.env.locals := fun L hL => by
  obtain ⟨go, los, ok, ⟨e, h0⟩, acc, c, r, I⟩ := h
  rw [← e] at hL
  obtain ⟨p, hp, rfl⟩ := List.mem_map.mp hL
  obtain ⟨h1, h2, h3, h4, h5⟩ := I.pin p (List.mem_append_right _ (List.mem_cons_of_mem _ (List.mem_cons_of_mem _ hp)))
  exact ⟨p.2, h0 p hp, h1, h5, h2, h3⟩
theorem los_of {P : Addr → Obj → Prop} : ∀ {Ls : List Addr}, (∀ L ∈ Ls, ∃ o, P L o) → ∃ los : List (Addr × Obj), los.map (·.1) = Ls ∧ ∀ p ∈ los, P p.1 p.2
  | [], _ => ⟨[], rfl, fun _ z => nomatch z⟩
  | L :: Ls, h => by
    obtain ⟨o, ho⟩ := h L List.mem_cons_self
    obtain ⟨los, e, hp⟩ := los_of (Ls := Ls) fun x hx => h x (List.mem_cons_of_mem _ hx)
    refine ⟨(L, o) :: los, by rw [List.map_cons, e], fun p hq => ?_⟩
    rcases List.mem_cons.mp hq with z | z
    · rw [z]; exact ho
    · exact hp p z
theorem GI2.woken {X : Cx} {S : Addr} {Ls : List Addr} {a : Addr} {g : Nat} {s₀ : Shared} {ys : List V} {x : V} {v : Value} {σ : L2.St} {H : Hp} {s s' : Shared} (hA : Apart2 X S Ls a) (h : GI2 X S Ls a g s₀ ys σ H s) (rv : RelV x v) (z : Slp S Ls a g v s s') : GI2 X S Ls a g s' (ys ++ [x]) σ H s' := by
  have hoth := h.oth
  obtain ⟨go0, los0, ok0, okL0, acc, c, r, I⟩ := h
  obtain ⟨hpn, hne, hS, ha, hLs⟩ := hA
  obtain ⟨eS, hS0, hSL, hSf, _⟩ := I.pin (S, L2.lstObj acc c) (List.mem_append_right _ List.mem_cons_self)
  obtain ⟨ea, ha0, haL, haf, _⟩ := I.pin (a, go0) (List.mem_append_right _ (List.mem_cons_of_mem _ List.mem_cons_self))
  have hLf : ∀ L ∈ Ls, L ∉ X.fs := fun L hL => by
    rw [← okL0.1] at hL
    obtain ⟨p, hp, rfl⟩ := List.mem_map.mp hL
    exact (I.pin p (List.mem_append_right _ (List.mem_cons_of_mem _ (List.mem_cons_of_mem _ hp)))).2.2.2.1
  have I0 : Inv X [] σ H s := I.pins_of fun p hp => absurd hp List.not_mem_nil
  obtain ⟨z1, z2, z3, ⟨go, zg, ok⟩, z4, z5⟩ := z
  obtain ⟨c', eS'⟩ := z4 acc c eS
  obtain ⟨los, eL, hlos⟩ := los_of z5
  obtain ⟨hh, gg, d, t, o⟩ := s'
  have ho : o = s.os := z1
  subst ho
  have nt : ∀ b u, H b = some u → b ≠ S ∧ b ≠ a ∧ b ∉ Ls := fun b u q => ⟨fun hb => (by rw [hb, hS0] at q; cases q), fun hb => (by rw [hb, ha0] at q; cases q), fun hb => (by obtain ⟨_, _, _, _, n, _⟩ := hoth b hb; rw [n] at q; cases q)⟩
  have nc : ∀ b, b ∉ S :: a :: Ls → b ≠ S ∧ b ≠ a ∧ b ∉ Ls := fun b hb => ⟨fun e => hb (by rw [e]; exact List.mem_cons_self), fun e => hb (by rw [e]; exact List.mem_cons_of_mem _ List.mem_cons_self), fun e => hb (List.mem_cons_of_mem _ (List.mem_cons_of_mem _ e))⟩
  have J : Inv X [] σ H { s with heap := hh, gens := gg, drawn := d, toks := t } := by
    refine I0.step (g' := gg) (t' := t) (d' := d) (ch := S :: a :: Ls) (fun b hb => ?_)
      (fun b ob _ _ hc q _ => z3 b ob (nc b hc).1 (nc b hc).2.1 (nc b hc).2.2 q) (fun b ob _ _ hc q _ => ⟨ob.slots, z3 b ob (nc b hc).1 (nc b hc).2.1 (nc b hc).2.2 q⟩) (fun _ _ _ _ n => n) (fun b ob hc q => ⟨ob, z3 b ob (nc b hc).1 (nc b hc).2.1 (nc b hc).2.2 q⟩)
      (fun _ _ q => q) (fun _ _ _ q => q) (fun b ps q => ⟨#[], by rw [q]; simp⟩) (fun m hm => ?_) (fun b u q => ?_) z2
    · rcases List.mem_cons.mp hb with e | hb
      · rw [e]
        exact ⟨.inr hS.1, hS.2.1, hS.2.2, fun p hp => by rw [hpn] at hp; simp at hp⟩
      · rcases List.mem_cons.mp hb with e | hb
        · rw [e]
          exact ⟨.inr ha.1, ha.2.1, ha.2.2, fun p hp => by rw [hpn] at hp; simp at hp⟩
        · obtain ⟨_, _, hL⟩ := hLs b hb
          exact ⟨.inr hL.1, hL.2.1, hL.2.2, fun p hp => by rw [hpn] at hp; simp at hp⟩
    · obtain ⟨ob, es, ep, ho, r⟩ := hm
      exact ⟨ob, es, ep, z3 _ ob (Ne.symm hSL) (Ne.symm haL) (fun q => by obtain ⟨_, _, _, _, _, n⟩ := hoth _ q; exact n rfl) ho, r⟩
    · have key : ∀ c : Addr, (c = b ∨ H c = some (.own b)) → c ≠ S ∧ c ≠ a ∧ c ∉ Ls := fun c hc => by
        rcases hc with y | y
        · rw [y]; exact nt b u q
        · exact nt c _ y
      exact (I0.hok b u q).stay (fun c v hc y => z3 c v (key c hc).1 (key c hc).2.1 (key c hc).2.2 y) (fun _ y => y) fun _ _ y => y
  refine ⟨go, los, ok, ⟨eL, fun p hp => (hlos p hp).1⟩, acc.push v, c', ?_, J.pins_of fun p hp => ?_⟩
  · rw [Array.toList_push]
    exact r.append (.cons rv .nil)
  · rcases List.mem_cons.mp hp with hp | hp
    · rw [hp]
      exact ⟨eS', hS0, hSL, hSf, fun v q => by cases q⟩
    · rcases List.mem_cons.mp hp with hp | hp
      · rw [hp]
        exact ⟨zg, ha0, haL, haf, ok.nocell⟩
      · have hm : p.1 ∈ Ls := by rw [← eL]; exact List.mem_map.mpr ⟨p, hp, rfl⟩
        obtain ⟨_, _, _, _, n1, n2⟩ := hoth _ hm
        exact ⟨(hlos p hp).1, n1, n2, hLf _ hm, (hlos p hp).2⟩
/-! ### the protocol -/
def GY2 (X : Cx) (S : Addr) (Ls : List Addr) (a : Addr) (g : Nat) : Protocol := fun n s₀ v s kap => ∃ ys x σ H, n + 1 + ys.length = sizeLine ∧ RelV x v ∧ GI2 X S Ls a g s₀ ys σ H s ∧ ∀ s', Slp S Ls a g v s s' → kap (.send .none) s'
def GR2 (X : Cx) (S : Addr) (Ls : List Addr) (a : Addr) (g : Nat) (Q : List V → VK) : GenEnd := fun n s₀ r s => match r with
  | .ok (.ret u) => ∃ ys v σ H, n + ys.length = sizeLine ∧ GI2 X S Ls a g s₀ ys σ H s ∧ RelV v u ∧ Q ys v H
  | _ => False
def GSP2 (X : Cx) (S : Addr) (Ls : List Addr) (a : Addr) (g : Nat) (s₀ : Shared) (D : GEnds) (ys : List V) (f : Flow) (s : Shared) : Prop :=
  match f with
  | .next => ∃ σ H, GI2 X S Ls a g s₀ ys σ H s ∧ D.nx ys σ H
  | .brk => ∃ σ H, GI2 X S Ls a g s₀ ys σ H s ∧ D.bk ys σ H
  | .cont => ∃ σ H, GI2 X S Ls a g s₀ ys σ H s ∧ D.ct ys σ H
  | .ret u => ∃ v σ H, GI2 X S Ls a g s₀ ys σ H s ∧ RelV v u ∧ D.rt ys v H
structure GC2 (X : Cx) (S : Addr) (Ls : List Addr) (a : Addr) (A : Around) (c : Code) (fs : List Frame) (gd : Bool → Bool) : Prop where
  apart : Apart2 X S Ls a
  over : A.over c fs = X.A
  split : splitAtGen fs = none
  guard : fs.any Frame.guarded = false
  gd : gd false = false
  xe : ∀ e s, X.xe e s → False
def GK2 (X : Cx) (S : Addr) (Ls : List Addr) (a : Addr) (g : Nat) (A : Around) (R : GenEnd) (c : Code) (fs : List Frame) (K : Flow → Sem PySem.Fin) (D : GEnds) : Prop :=
  ∀ (n : Nat) (ys : List V) (s₀ s : Shared) (f : Flow), n + ys.length = sizeLine → GSP2 X S Ls a g s₀ D ys f s → Seg (model X.prog X.w) A R (GY2 X S Ls a g) n s₀ c (K f) fs s
structure GS2 (X : Cx) (st : Stmt) (t : TGn) : Prop where
  run : ∀ (A : Around) (S : Addr) (Ls : List Addr) (a : Addr) (g : Nat) (R : GenEnd) (n : Nat) (ys : List V) (s₀ : Shared) (c : Code) (fs : List Frame) (K : Flow → Sem PySem.Fin) (J : Value → Sem PySem.Fin) (gd : Bool → Bool) (lv : List Value → List Value) (s : Shared) (σ : L2.St) (H : Hp) (D : GEnds),
    GC2 X S Ls a A c fs gd → n + ys.length = sizeLine → GK2 X S Ls a g A R c fs K D → GI2 X S Ls a g s₀ ys σ H s → t D ys σ H → Seg (model X.prog X.w) A R (GY2 X S Ls a g) n s₀ c ((exec st X.env).wrap K J gd lv) fs s
structure GSs2 (X : Cx) (st : List Stmt) (t : TGn) : Prop where
  run : ∀ (A : Around) (S : Addr) (Ls : List Addr) (a : Addr) (g : Nat) (R : GenEnd) (n : Nat) (ys : List V) (s₀ : Shared) (c : Code) (fs : List Frame) (K : Flow → Sem PySem.Fin) (J : Value → Sem PySem.Fin) (gd : Bool → Bool) (lv : List Value → List Value) (s : Shared) (σ : L2.St) (H : Hp) (D : GEnds),
    GC2 X S Ls a A c fs gd → n + ys.length = sizeLine → GK2 X S Ls a g A R c fs K D → GI2 X S Ls a g s₀ ys σ H s → t D ys σ H → Seg (model X.prog X.w) A R (GY2 X S Ls a g) n s₀ c ((execs st X.env).wrap K J gd lv) fs s
section
variable {X : Cx} {st : Stmt} {rest : List Stmt}
theorem sp_gsp2 {S : Addr} {Ls : List Addr} {a : Addr} {g : Nat} {acc : Array Value} {c : Nat} {go : Obj} {s s₀ : Shared} {los : List (Addr × Obj)} {D : GEnds} {ys : List V} {f : Flow} (ok : GenO g go) (okL : los.map (·.1) = Ls ∧ ∀ p ∈ los, s₀.heap.get? p.1 = some p.2) (r : Vals ys acc.toList) (h : SP X ((S, L2.lstObj acc c) :: (a, go) :: los) (D.at ys) f s) : GSP2 X S Ls a g s₀ D ys f s := by
  cases f with
  | next => obtain ⟨σ, H, I, q⟩ := h; exact ⟨σ, H, ⟨go, los, ok, okL, acc, c, r, I⟩, q⟩
  | brk => obtain ⟨σ, H, I, q⟩ := h; exact ⟨σ, H, ⟨go, los, ok, okL, acc, c, r, I⟩, q⟩
  | cont => obtain ⟨σ, H, I, q⟩ := h; exact ⟨σ, H, ⟨go, los, ok, okL, acc, c, r, I⟩, q⟩
  | ret u => obtain ⟨v, σ, H, I, r1, q⟩ := h; exact ⟨v, σ, H, ⟨go, los, ok, okL, acc, c, r, I⟩, r1, q⟩
theorem gs2_ps {t : TS} (h : PS X st t) : GS2 X st (tPlain t) := by
  refine ⟨fun A S Ls a g R n ys s₀ c fs K J gd lv s σ H D hg hn k hI ht => ?_⟩
  obtain ⟨go, los, ok, okL, acc, cc, r, I⟩ := hI
  refine seg_wrap ?_
  rw [hg.over]
  exact wpAny_mono (h.run _ s σ H (D.at ys) I ht) (fun f s' hs => k n ys s₀ s' f hn (sp_gsp2 ok okL r hs)) fun x s' hx => (hg.xe x s' hx).elim
theorem gss2_nil : GSs2 X [] tG0 := ⟨fun A S Ls a g R n ys s₀ c fs K J gd lv s σ H D hg hn k hI ht => seg_execs_nil (k n ys s₀ s .next hn ⟨σ, H, hI, ht⟩)⟩
theorem gss2_cons {t u : TGn} (a : GS2 X st t) (b : GSs2 X rest u) : GSs2 X (st :: rest) (tGThen t u) := by
  refine ⟨fun A S Ls a' g R n ys s₀ c fs K J gd lv s σ H D hg hn k hI ht => ?_⟩
  refine seg_execs_cons ?_
  refine a.run A S Ls a' g R n ys s₀ c fs _ J gd lv s σ H { D with nx := fun ys' σ' H' => u D ys' σ' H' } hg hn (fun n' ys' s₀' s' f hn' hs => ?_) hI ht
  cases f with
  | next =>
    obtain ⟨σ', H', I', q⟩ := hs
    exact b.run A S Ls a' g R n' ys' s₀' c fs K J gd lv s' σ' H' D hg hn' k I' q
  | brk => exact k n' ys' s₀' s' .brk hn' hs
  | cont => exact k n' ys' s₀' s' .cont hn' hs
  | ret u => exact k n' ys' s₀' s' (.ret u) hn' hs
def tGIf (c : TT) (t u : TGn) : TGn := fun D ys σ H => c σ H fun b H1 => if b = true then t D ys σ H1 else u D ys σ H1
theorem gs2_if {test : Expr} {p q : List Stmt} {pos : Pos} {tc : TT} {t u : TGn} (hc : PT X test tc) (ha : GSs2 X p t) (hb : GSs2 X q u) : GS2 X (.If test p q pos) (tGIf tc t u) := by
  refine ⟨fun A S Ls a g R n ys s₀ c fs K J gd lv s σ H D hg hn k hI ht => ?_⟩
  rw [exec_If]
  show Seg _ A R _ n s₀ c (.at pos fun _ => ((isTrue test X.env (eval test X.env) >>= fun b => if b = true then execs p X.env else execs q X.env)).wrap K J gd lv) fs s
  refine seg_at ?_
  obtain ⟨go, los, ok, okL, acc, cc, r, I⟩ := hI
  rw [Sem.bind_eq_wrap', Sem.wrap_wrap]
  refine seg_wrap ?_
  rw [hg.over]
  refine wpAny_mono (hc.run _ s σ H _ I ht) (fun b s' ⟨H1, I1, q1⟩ => ?_) fun x s' hx => (hg.xe x s' hx).elim
  cases b with
  | true => exact ha.run A S Ls a g R n ys s₀ c fs K J gd lv s' σ H1 D hg hn k ⟨go, los, ok, okL, acc, cc, r, I1⟩ q1
  | false => exact hb.run A S Ls a g R n ys s₀ c fs K J gd lv s' σ H1 D hg hn k ⟨go, los, ok, okL, acc, cc, r, I1⟩ q1
theorem gc2_loop {S : Addr} {Ls : List Addr} {a : Addr} {A : Around} {c c' : Code} {fs : List Frame} {gd : Bool → Bool} {k : Result → Sem PySem.Fin} {l kp : List Value} {p : Pos} (g : GC2 X S Ls a A c fs gd) (hw : c'.weight = 0) (hu : c'.cUnits = 0) : GC2 X S Ls a A c' (.ret k none (gd false) l c p kp :: fs) id where
  apart := g.apart
  over := (over_loop hw hu).trans g.over
  split := by
    show (splitAtGen fs).map _ = none
    rw [g.split]; rfl
  guard := by
    show (gd false || fs.any Frame.guarded) = false
    rw [g.gd, g.guard]; rfl
  gd := rfl
  xe := g.xe
theorem gs2_while {test : Expr} {body : List Stmt} {pos : Pos} {tc : TT} {tb : TGn} (hc : PT X test tc) (hb : GSs2 X body tb) : GS2 X (.While test body [] pos) (tGWhile tc tb) := by
  refine ⟨fun A S Ls a g R n ys s₀ c fs K J gd lv s σ H D hg hn k hI ht => ?_⟩
  obtain ⟨W, ⟨m0, w0⟩, turn⟩ := ht
  refine seg_While fun p => ?_
  have gl := fun (kk : Result → Sem PySem.Fin) => gc2_loop (k := kk) (c' := .whileLoop test body [] X.env) (l := lv []) (kp := []) (p := p) hg rfl rfl
  have loop : ∀ (m n : Nat) (ys : List V) (s₀ s : Shared) (σ : L2.St) (H : Hp), n + ys.length = sizeLine → W m ys σ H → GI2 X S Ls a g s₀ ys σ H s →
      Seg (model X.prog X.w) A R (GY2 X S Ls a g) n s₀ (.whileLoop test body [] X.env) ((model X.prog X.w).den (.whileLoop test body [] X.env))
        (.ret (fun r => ((match r with | .ok f => (.pure f : Sem Flow) | .error e => .raise e).onRaise (cameBack X.env)).wrap K J gd lv) none (gd false) (lv []) c p [] :: fs) s := by
    intro m
    induction m using Nat.strongRecOn with
    | ind m ih =>
      intro n ys s₀ s σ H hn w hI
      refine seg_whileLoop ?_
      rw [(gl _).over]
      obtain ⟨go, los, ok, okL, acc, cc, r, I⟩ := hI
      refine wpAny_mono (hc.run _ s σ H _ I (turn m ys σ H w)) (fun b s' hb' => ?_) fun x s' hx => (hg.xe x s' hx).elim
      obtain ⟨H2, I2, q2⟩ := hb'
      cases b with
      | true =>
        obtain ⟨N, hN, q2⟩ := q2
        rw [if_pos rfl]
        refine hb.run A S Ls a g R n ys s₀ _ _ _ _ id id s' σ H2 { D with nx := N, ct := N, bk := D.nx } (gl _) hn (fun n' ys' s₀' s3 f hn' hs => ?_) ⟨go, los, ok, okL, acc, cc, r, I2⟩ q2
        cases f with
        | next =>
          obtain ⟨σ3, H3, I3, n3⟩ := hs
          obtain ⟨m', hm, w3⟩ := hN ys' σ3 H3 n3
          exact seg_again rfl (ih m' hm n' ys' s₀' s3 σ3 H3 hn' w3 I3)
        | cont =>
          obtain ⟨σ3, H3, I3, n3⟩ := hs
          obtain ⟨m', hm, w3⟩ := hN ys' σ3 H3 n3
          exact seg_again rfl (ih m' hm n' ys' s₀' s3 σ3 H3 hn' w3 I3)
        | brk => exact seg_leaf (.ok .next) (k n' ys' s₀' s3 .next hn' hs)
        | ret v => exact seg_leaf (.ok (.ret v)) (k n' ys' s₀' s3 (.ret v) hn' hs)
      | false =>
        rw [if_neg Bool.false_ne_true]
        refine seg_execs_nil ?_
        exact seg_leaf (.ok .next) (k n ys s₀ s' .next hn ⟨σ, H2, ⟨go, los, ok, okL, acc, cc, r, I2⟩, q2⟩)
  exact loop m0 n ys s₀ s σ H hn w0 hI
theorem gs2_yield {e : Expr} {yp pos : Pos} {te : TE} (he : PE X e te) (hco : X.env.scope.isCoroutine = false := by rfl) (hi : interactive X.env = false := by rfl) : GS2 X (.Expr (.Yield (some e) yp) pos) (tGYield te) := by
  refine ⟨fun A S Ls a g R n ys s₀ c fs K J gd lv s σ H D hg hn k hI ht => ?_⟩
  obtain ⟨hlt, ht⟩ := ht
  obtain ⟨n, rfl⟩ : ∃ m, n = m + 1 := ⟨n - 1, by omega⟩
  obtain ⟨go, los, ok, okL, acc, cc, r, I⟩ := hI
  refine seg_Expr_Yield hg.split hg.gd hg.guard ?_ hco hi
  rw [hg.over]
  refine wpAny_mono (he.run _ s σ H _ I ht) (fun v s' hv => ?_) fun x s' hx => (hg.xe x s' hx).elim
  obtain ⟨x, H1, I1, rv, q⟩ := hv
  have G1 : GI2 X S Ls a g s₀ ys σ H1 s' := ⟨go, los, ok, okL, acc, cc, r, I1⟩
  intro kap hk
  refine ⟨ys, x, σ, H1, hn, rv, G1, fun s'' z => hk .none s'' ?_⟩
  refine k n (ys ++ [x]) s'' s'' .next ?_ ⟨σ, H1, G1.woken hg.apart rv z, q⟩
  rw [List.length_append, List.length_singleton]; omega
end
end QL

/-! GRh: the stretches of a generator that delegates to another: yield from. -/
namespace GR
open PySem
open Sem (wp)
def YfOk (s' : Shared) (g : Bool) (c : Code) (fs : List Frame) : Prop := g = true ∧ fs.any Frame.guarded = false ∧ ∃ d rest kw o m, c = .builtin "proto.yield_from" ⟨.ref d :: rest, kw⟩ ∧ s'.heap.get? d = some o ∧ o.genNumber? = some m
def Sg1End (R : GenEnd) (Y : Protocol) (n : Nat) (go : Code → Sem PySem.Fin → List Frame → Shared → Prop) (s₀ : Shared) (e : End) (s' : Shared) : Prop :=
  match e with
  | .ret r => R n s₀ r s'
  | .susp v g l k c p fs => YfOk s' g c fs ∧ Y (n - 1) s₀ v s' fun r s'' => go c (k r) fs s''
def Sg1 (M : Model) (A : Around) (R : GenEnd) (Y : Protocol) : Nat → Shared → Code → Sem PySem.Fin → List Frame → Shared → Prop
  | 0 => fun s₀ c t fs s => ∀ Γ p, Γ.code = c → Γ.Woken A → ∃ e s', Runs M Γ p t fs s e s' ∧ Sg1End R Y 0 (fun _ _ _ _ => False) s₀ e s'
  | n + 1 => fun s₀ c t fs s => ∀ Γ p, Γ.code = c → Γ.Woken A → ∃ e s', Runs M Γ p t fs s e s' ∧ Sg1End R Y (n + 1) (fun c' t' fs' s'' => Sg1 M A R Y n s'' c' t' fs' s'') s₀ e s'
def Sg1.next (M : Model) (A : Around) (R : GenEnd) (Y : Protocol) : Nat → Code → Sem PySem.Fin → List Frame → Shared → Prop
  | 0 => fun _ _ _ _ => False
  | n + 1 => fun c t fs s'' => Sg1 M A R Y n s'' c t fs s''
section
variable {M : Model} {A : Around} {R : GenEnd} {Y : Protocol} {n : Nat} {s₀ : Shared} {c : Code} {fs : List Frame} {s : Shared}
theorem sg1_iff {t : Sem PySem.Fin} : Sg1 M A R Y n s₀ c t fs s ↔ ∀ Γ p, Γ.code = c → Γ.Woken A → ∃ e s', Runs M Γ p t fs s e s' ∧ Sg1End R Y n (Sg1.next M A R Y n) s₀ e s' := by
  cases n <;> rfl
theorem sg1_wrap {α : Type} {m : Sem α} {K : α → Sem PySem.Fin} {H : Value → Sem PySem.Fin} {gd : Bool → Bool} {lv : List Value → List Value}
    (h : wpAny M (A.over c fs) m (fun a s' => Sg1 M A R Y n s₀ c (K a) fs s') (fun x s' => Sg1 M A R Y n s₀ c (H x) fs s') s) : Sg1 M A R Y n s₀ c (m.wrap K H gd lv) fs s := by
  rw [sg1_iff]
  rintro Γ p rfl hΓ
  exact runs_wrap_of_wp K H gd lv m (h (Γ.over fs) p (hΓ.over fs)) (fun a p' s' h' => sg1_iff.mp h' Γ p' rfl hΓ) fun a p' s' h' => sg1_iff.mp h' Γ p' rfl hΓ
theorem sg1_bind {α : Type} {m : Sem α} {K : α → Sem PySem.Fin} (h : wpAny M (A.over c fs) m (fun a s' => Sg1 M A R Y n s₀ c (K a) fs s') (fun x s' => Sg1 M A R Y n s₀ c (.raise x) fs s') s) : Sg1 M A R Y n s₀ c (m >>= K) fs s := by
  rw [Sem.bind_eq_wrap']
  exact sg1_wrap h
theorem sg1_at {p' : Pos} {k : Unit → Sem PySem.Fin} (h : Sg1 M A R Y n s₀ c (k ()) fs s) : Sg1 M A R Y n s₀ c (.at p' k) fs s :=
  sg1_wrap (m := standAt p') (K := k) (H := .raise) (gd := id) (lv := id) (wpAny_standAt h)
theorem sg1_point {l : List Value} {k : Unit → Sem PySem.Fin} (h : Sg1 M A R Y n s₀ c (k ()) fs s) : Sg1 M A R Y n s₀ c (.point l k) fs s :=
  sg1_wrap (m := point) (K := k) (H := .raise) (gd := id) (lv := fun _ => l) (wpAny_point h)
theorem sg1_call {c' : Code} {h : Option Value} {g : Bool} {l : List Value} {k : Result → Sem PySem.Fin} (hc : ∀ p, Sg1 M A R Y n s₀ c' (M.den c') (.ret k h g l c p [] :: fs) s) : Sg1 M A R Y n s₀ c (.call c' h g l k) fs s := by
  rw [sg1_iff]
  rintro Γ p rfl hΓ
  obtain ⟨e, s', hr, he⟩ := sg1_iff.mp (hc p) (Γ.goto c') p rfl (hΓ.goto c')
  exact ⟨e, s', runs_call_seg hr, he⟩
theorem sg1_leaf {k h g l c₁ p₁ kp} (r : Result) (hk : Sg1 M A R Y n s₀ c₁ (k r) fs s) : Sg1 M A R Y n s₀ c (leafOf r) (.ret k h g l c₁ p₁ kp :: fs) s := by
  rw [sg1_iff]
  rintro Γ p rfl hΓ
  obtain ⟨e, s', hr, he⟩ := sg1_iff.mp hk (Γ.goto c₁) p₁ rfl (hΓ.goto c₁)
  exact ⟨e, s', Runs.pop r hr, he⟩
theorem sg1_again {c' : Code} (hq : c'.quiet = true) (hc : Sg1 M A R Y n s₀ c' (M.den c') fs s) : Sg1 M A R Y n s₀ c (.pure (.again c')) fs s := by
  rw [sg1_iff]
  rintro Γ p rfl hΓ
  obtain ⟨e, s', hr, he⟩ := sg1_iff.mp hc (Γ.goto c') p rfl (hΓ.goto c')
  exact ⟨e, s', Runs.head (c₁ := c') (fun _ _ x => .again hq x) hr, he⟩
theorem sg1_end (r : Result) (h : R n s₀ r s) : Sg1 M A R Y n s₀ c (leafOf r) [] s := by
  rw [sg1_iff]
  rintro Γ p rfl _
  exact ⟨.ret r, s, Runs.leaf r, h⟩
theorem sg1_yield {v : Value} {l : List Value} {k : Resume → Sem PySem.Fin} (hfs : splitAtGen fs = none) (ok : YfOk s true c fs) (h : Y n s₀ v s fun r s'' => Sg1 M A R Y n s'' c (k r) fs s'') : Sg1 M A R Y (n + 1) s₀ c (.yield v true l k) fs s := by
  rintro Γ p rfl _
  exact ⟨_, s, Runs.yield' fs hfs, And.intro ok h⟩
end
/-- it may be woken -/
def Goes1 (M : Model) (A : Around) (R : GenEnd) (Y : Protocol) (n : Nat) (gs : GenState) (r : Resume) (s : Shared) : Prop :=
  match gs with
  | .fresh c => r = .send .none ∧ Sg1 M A R Y n s c (M.den c) [] s
  | .suspended k _ c _ fs _ => Sg1 M A R Y n s c (k r) fs s
  | _ => False
theorem exit1 {M : Model} {R : GenEnd} {Y : Protocol} {n : Nat} {s₀ s₁ : Shared} {go : Code → Sem PySem.Fin → List Frame → Shared → Prop} {e₁ : End} {t' c' p' pre'} (g k l c p) (st : List Frame) (hx : Exits e₁ t' c' p' pre') (he : Sg1End R Y n go s₀ e₁ s₁) :
    Ss M s₁ ⟨t', c', p', pre' ++ .gen g k l c p :: st⟩ (s₁.setGen g e₁.genState) ⟨k e₁.result, c, p, st⟩ := by
  cases e₁ with
  | ret r => exact .one (step_exit_gen s₁ g k l c p st hx rfl)
  | susp v g₀ l₀ k₀ c₀ p₀ fs =>
    obtain ⟨rfl, rfl, rfl, rfl, hfs⟩ := hx
    obtain ⟨⟨rfl, hg, d, rest, kw, o, m, rfl, ho, hm⟩, _⟩ := he
    have sp : splitAtGen (pre' ++ .gen g k l c p :: st) = some (pre', (g, k, c, p), st) := by
      rw [splitAtGen_append_none _ hfs, splitAtGen_gen]; simp
    refine .cons (.yield ⟨v, l₀, k₀, d, o, m, rest, kw, pre', (g, k, c, p), st, rfl, rfl, ho, hm, sp, hg⟩ ?_) .refl
    simp only [PySem.stepK, PySem.step, sp]
    rfl
theorem resume1 {M : Model} {A : Around} {R : GenEnd} {Y : Protocol} {n : Nat} {E : Value → Shared → Prop} {s : Shared} {g : Nat} {gs : GenState} {r : Resume} {l : List Value} {α : Type} {k : GenResult → Sem α} {Q : α → Shared → Prop} (hg : s.gens[g]? = some gs)
    (hgo : Goes1 M A R Y n gs r (s.setGen g .running))
    (hR : ∀ x s₁, R n (s.setGen g .running) x s₁ → wpAny2 M A (k (End.ret x).result) Q E (s₁.setGen g .finished))
    (hY : ∀ v s₁ gs', s.gens.size ≤ s₁.gens.size → Y (n - 1) (s.setGen g .running) v s₁ (fun r' s'' => match n with | 0 => False | m + 1 => Goes1 M A R Y m gs' r' s'') → wpAny2 M A (k (.yielded v)) Q E (s₁.setGen g gs')) :
    wpAny2 M A (.resume g r l k) Q E s := by
  intro Γ p hΓ
  have hB : ∀ c, (Γ.wake c p).Woken A := fun c => hΓ.wake c p
  have fin : ∀ e₁ s₁, s.gens.size ≤ s₁.gens.size → Sg1End R Y n (Sg1.next M A R Y n) (s.setGen g .running) e₁ s₁ → wp2 M Γ (k e₁.result) (fun a _ s' => Q a s') (fun e _ s' => E e s') p (s₁.setGen g e₁.genState) := by
    intro e₁ s₁ hsz he
    cases e₁ with
    | ret x => exact hR x s₁ he Γ p hΓ
    | susp v g₀ l₀ k₀ c₀ p₀ fs₀ =>
      refine hY v s₁ _ hsz ?_ Γ p hΓ
      cases n with
      | zero => exact he.2
      | succ m => exact he.2
  show ∃ res s', Wak2 M Γ p g r s res s' ∧ wp2 M Γ (k res) _ _ p s'
  cases gs with
  | fresh c =>
    obtain ⟨rfl, hs⟩ := hgo
    obtain ⟨e₁, s₁, hr, he⟩ := sg1_iff.mp hs (Γ.wake c p) p rfl (hB c)
    refine ⟨_, _, fun base l k hf => ?_, fin e₁ s₁ (by have := GenW.runs_gsz hr; rwa [GenW.setGen_size] at this) he⟩
    obtain ⟨t', c', p', pre', hx, hs⟩ := reach_ss (runs_reach hr _ (hf.wake c g k l p))
    exact .go (step_resume_fresh M s Γ.code p base l k hg) (hs.trans (exit1 g k l Γ.code p base hx he))
  | suspended k₀ l₀ c₀ p₀ fs₀ cl =>
    obtain ⟨e₁, s₁, hr, he⟩ := sg1_iff.mp hgo (Γ.wake c₀ p) p₀ rfl (hB c₀)
    refine ⟨_, _, fun base l k hf => ?_, fin e₁ s₁ (by have := GenW.runs_gsz hr; rwa [GenW.setGen_size] at this) he⟩
    obtain ⟨t', c', p', pre', hx, hs⟩ := reach_ss (runs_reach hr _ (hf.wake c₀ g k l p))
    exact .go (step_resume_suspended M s Γ.code p base r l k hg) (hs.trans (exit1 g k l Γ.code p base hx he))
  | running => exact hgo.elim
  | finished => exact hgo.elim
end GR
namespace QL
open PySem PySem.Spec PyProof.Rows L2 GenW GR
section
variable {P : Program} {w : World} {A : Around} {E : Value → Shared → Prop} {s : Shared}
theorem gen_type {a : Addr} {g : Nat} {o : Obj} (ho : s.heap.get? a = some o) (ok : GenO g o) : s.TypeIs (.ref a) "generator" := ⟨o, ho, ok.1⟩
theorem gen_number {a : Addr} {g : Nat} {o : Obj} {M : Model} {Q : Nat → Shared → Prop} (ho : s.heap.get? a = some o) (ok : GenO g o) (h : Q g s) : wpAny M A (Builtin.Generator.genNumber (.ref a)) Q E s := by
  obtain ⟨_, ⟨nm, qn, hd⟩, hsl⟩ := ok
  unfold Builtin.Generator.genNumber
  refine wpAny_bind (wpAny_load ho ?_)
  rw [hd]
  rcases hsl with hsl | hsl
  · rw [hsl]
    show wpAny M A (pure ((g : Int).toNat)) Q E s
    rw [Int.toNat_natCast]
    exact wpAny_pure h
  · rw [hsl]
    show wpAny M A (pure ((g : Int).toNat)) Q E s
    rw [Int.toNat_natCast]
    exact wpAny_pure h
/-- next of a generator, its own object read -/
theorem special_gen {a : Addr} {g n : Nat} {gs : GenState} {o : Obj} {R : GenEnd} {Y : Protocol} {Q : Option Value → Shared → Prop} (hh : A.handled = none) (hl : s.heap.NoLimit) (hroom : A.depth < recursionLimit) (ho : s.heap.get? a = some o) (ok : GenO g o) (hgs : s.gens[g]? = some gs)
    (hgo : gs.Goes (model P w) A.in1 R Y n (.send .none) (s.setGen g .running))
    (hY : ∀ v s₁ gs', gs'.bare = true → Y (n - 1) (s.setGen g .running) v s₁ (fun r' s'' => match n with | 0 => False | m + 1 => gs'.Goes (model P w) A.in1 R Y m r' s'') → Q (some v) (s₁.setGen g gs'))
    (hP : ∀ x s₁, R n (s.setGen g .running) x s₁ → x = .ok (.ret .none) ∧ ∀ e h', StopX e h' → (∀ b o, s₁.heap.get? b = some o → h'.get? b = some o) → E e { s₁.setGen g .finished with heap := h' }) :
    wpAny (model P w) A (callSpecial? (.ref a) "__next__") Q E s := by
  refine wpAny_callSpecial?_slot (name := Str.ofString "__next__") (gen_type ho ok) slot_gen_next (wpAny_call_entry slot_gen_next (gen_type ho ok) entry_gen_next ?_ (args_gen_next _))
  show wpAny _ A.in1 (Builtin.Generator.genWake (.ref a) (.send .none)) _ _ s
  unfold Builtin.Generator.genWake
  refine wpAny_bind (wpAny_holding (gen_number ho ok (wpAny_bind (wpAny_genState hgs ?_))))
  cases gs with
  | running => exact hgo.elim
  | finished => exact hgo.elim
  | _ =>
    refine wpAny_bind (wpAny_roomToWake hl hroom ?_)
    show wpAny _ A.in1 (.resume g (.send .none) [] _) _ _ s
    refine wpAny_resumeQ hgs hgo (fun x s₁ hx => ?_) (fun v s₁ gs' hb hv => ?_)
    · obtain ⟨rfl, hE⟩ := hP x s₁ hx
      show wpAny _ A.in1 (newExc (.type "StopIteration") [] >>= _) _ _ _
      refine wpAny_bind ?_
      simp only [newExc, newTuple]
      refine wpAny_bind (wpAny_newObj_type ?_ (by size_fits))
      refine wpAny_bind (m := firstArgMember _ _) (wpAny_of_eq (a := Value.none) (by first | rfl | (simp only [firstArgMember]; rfl)) ?_)
      refine wpAny_newObj_type ?_ (by size_fits)
      simp only [raiseNew]
      refine wpAny_bind (wpAny_bind (wpAny_handled ?_))
      first | rw [show A.in1.handled = none from hh] | rw [hh]
      refine wpAny_throw ?_
      refine hE _ _ ⟨_, _, _, rfl, Heap.get?_push_size _ rfl, rfl, rfl, ?_⟩ fun b o hb => Heap.get?_push_of_some _ (Heap.get?_push_of_some _ hb)
      first
        | rfl
        | (rw [Array.getElem?_append_left (by decide)]; rfl)
        | kernel_rfl
    · exact wpAny_pure ⟨v, rfl, hY v s₁ gs' hb hv⟩
theorem slept_on {a : Addr} {g : Nat} {o : Obj} {M : Model} {Q : Unit → Shared → Prop} (ho : s.heap.get? a = some o) (ok : GenO g o)
    (h : ∀ h', h'.get? a = some { o with slots := #[some (rawInt 1)] } → (∀ b ob, b ≠ a → s.heap.get? b = some ob → h'.get? b = some ob) → Q () { s with heap := h' }) : wpAny M A (Builtin.Generator.sleptOver (.ref a) true) Q E s := by
  obtain ⟨hc, ⟨nm, qn, hd⟩, hsl⟩ := ok
  unfold Builtin.Generator.sleptOver
  refine wpAny_bind (wpAny_load ho ?_)
  rw [hc, if_neg (by decide)]
  have nf : ∀ f : Obj → Obj, (∀ x, (f x).data = x.data) → True := fun _ _ => trivial
  unfold setSlotAt
  rw [if_neg (by decide)]
  rcases hsl with hsl | hsl
  · refine wpAny_updatePart ho (h _ ?_ fun b ob hb e => (Heap.get?_update_other _ _ (Ne.symm hb)).trans e)
    rw [Heap.get?_update_self _ ho (by obtain ⟨c, d, dt, sl⟩ := o; simp only at hd; subst hd; rfl)]
    simp only [hsl]
    rfl
  · refine wpAny_updatePart ho (h _ ?_ fun b ob hb e => (Heap.get?_update_other _ _ (Ne.symm hb)).trans e)
    rw [Heap.get?_update_self _ ho (by obtain ⟨c, d, dt, sl⟩ := o; simp only at hd; subst hd; rfl)]
    simp only [hsl]
    rfl
theorem slept_off {a : Addr} {o : Obj} {M : Model} {Q : Unit → Shared → Prop} (ho : s.heap.get? a = some o) (hc : o.cls = .type "generator") {g : Nat} {nm qn : Value} (hd : o.data = .fields #[.int g 0, nm, qn]) (hsl : o.slots = #[some (rawInt 1)])
    (h : ∀ h', h'.get? a = some { o with slots := #[some (rawInt 0)] } → (∀ b ob, b ≠ a → s.heap.get? b = some ob → h'.get? b = some ob) → Q () { s with heap := h' }) : wpAny M A (Builtin.Generator.sleptOver (.ref a) false) Q E s := by
  unfold Builtin.Generator.sleptOver
  refine wpAny_bind (wpAny_load ho ?_)
  rw [hc, if_neg (by decide)]
  unfold setSlotAt
  rw [if_neg (by decide)]
  refine wpAny_updatePart ho (h _ ?_ fun b ob hb e => (Heap.get?_update_other _ _ (Ne.symm hb)).trans e)
  rw [Heap.get?_update_self _ ho (by obtain ⟨c, d, dt, sl⟩ := o; simp only at hd; subst hd; rfl)]
  simp only [hsl]
  rfl
end
end QL

/-! GRi: yield from over a generator, turn by turn. -/
namespace QL
open PySem PySem.Spec PyProof.Rows L2 GenW GR
theorem close_gen : typeLookup (.type "generator") "close" = pure (some (.builtin "generator.close")) := by rw [typeLookup_type, builtinLookup_eq_fast]; kernel_rfl
/-- while the delegating generator sleeps -/
structure Slept1 (S : Addr) (Ls : List Addr) (g1 : Nat) (v : Value) (s s' : Shared) : Prop where
  os : s'.os = s.os
  bare : AllBare s'.gens
  keep : ∀ b o, b ≠ S → b ∉ Ls → s.heap.get? b = some o → s'.heap.get? b = some o
  own : ∀ acc c, s.heap.get? S = some (L2.lstObj acc c) → ∃ c', s'.heap.get? S = some (L2.lstObj (acc.push v) c')
  oth : ∀ L ∈ Ls, ∃ o, s'.heap.get? L = some o ∧ ∀ v, o.data ≠ .cell v
  lim : s'.heap.NoLimit
  gens : ∀ j, j ≠ g1 → s'.gens[j]? = s.gens[j]?
theorem Slept1.of {S : Addr} {g1 : Nat} {v : Value} {s s' : Shared} (h : Slept S v s s') (l : s'.heap.NoLimit) (g : ∀ j, j ≠ g1 → s'.gens[j]? = s.gens[j]?) : Slept1 S [] g1 v s s' := ⟨h.os, h.bare, fun b o hb _ => h.keep b o hb, h.own, (fun _ z => nomatch z), l, g⟩
def YItem1 (sc : Shared) (S : Addr) (Ls : List Addr) (a : Addr) (g : Nat) : Protocol := fun n s₀ v s1 kap =>
  s1.os = sc.os ∧ AllBare s1.gens ∧ s1.heap.NoLimit ∧ s1.heap.IsGen a g ∧ (∃ (acc : Array Value) (c : Nat), s1.heap.get? S = some (L2.lstObj acc c) ∧ n + 1 + acc.size = sizeLine) ∧ (∀ L ∈ Ls, ∀ o, s₀.heap.get? L = some o → s1.heap.get? L = some o) ∧ ∀ s', Slept1 S Ls g v s1 s' → kap (.send .none) s'
theorem Slp.push {S a : Addr} {Ls : List Addr} {g : Nat} {v : Value} {s : Shared} {acc : Array Value} {c : Nat} {G : Array GenState} {go : Obj} (hS : s.heap.get? S = some (L2.lstObj acc c)) (hG : AllBare G) (ha : s.heap.get? a = some go) (ok : GenO g go) (hne : a ≠ S) (hL : ∀ L ∈ Ls, L ≠ S ∧ ∃ o, s.heap.get? L = some o ∧ ∀ v, o.data ≠ .cell v) :
    Slp S Ls a g v s { s with gens := G, heap := s.heap.update S (Obj.mapSeq (·.push v)) } where
  os := rfl
  bare := hG
  keep := fun b o hb _ _ e => (Heap.get?_update_other _ _ (Ne.symm hb)).trans e
  gen := ⟨go, (Heap.get?_update_other _ _ (Ne.symm hne)).trans ha, ok⟩
  own := fun acc' c' e => by
    rw [hS] at e
    cases e
    exact ⟨_, Heap.get?_update_self _ hS rfl⟩
  oth := fun L h => by
    obtain ⟨h1, o, h2, h3⟩ := hL L h
    exact ⟨o, (Heap.get?_update_other _ _ (Ne.symm h1)).trans h2, h3⟩
theorem nolimit_but {h h' : Heap} {a : Addr} {o : Obj} (hl : h.NoLimit) (ho : h.get? a = some o) (hd : ∀ es n, o.data ≠ .dict es n) (k : ∀ b ob, b ≠ a → h.get? b = some ob → h'.get? b = some ob) : h'.NoLimit := by
  obtain ⟨mc, hns, hnn⟩ := hl
  refine ⟨mc, hns.at' fun ob e => k _ ob (fun z => ?_) e, hnn⟩
  obtain ⟨o2, es, ep, e2, d2, _⟩ := hns
  rw [z, ho] at e2
  cases e2
  exact hd _ _ d2
theorem GenO.nodict {g : Nat} {o : Obj} (h : GenO g o) : ∀ es n, o.data ≠ .dict es n := fun es n q => by
  obtain ⟨_, ⟨_, _, e⟩, _⟩ := h
  rw [e] at q; cases q
theorem isGen_but {h h' : Heap} {a b : Addr} {g : Nat} (hg : h.IsGen a g) (hne : a ≠ b) (k : ∀ c ob, c ≠ b → h.get? c = some ob → h'.get? c = some ob) : h'.IsGen a g := by
  obtain ⟨o, nm, qn, ho, r⟩ := hg
  exact ⟨o, nm, qn, k a o hne ho, r⟩
abbrev yfC (a : Addr) : Code := .builtin "proto.yield_from" ⟨[.ref a, .bool false, .none], []⟩
theorem sg1_yf {X : Cx} {S : Addr} {Ls : List Addr} {a a1 : Addr} {g g1 : Nat} {A : Around} {R1 : GenEnd} {fs : List Frame} {sc : Shared} {Q : List V → Hp → Prop} (hA : Apart2 X S Ls a) (hne : a1 ≠ a) (hg1 : g ≠ g1) (hh : (A.over (yfC a) fs).handled = none) (hsp : splitAtGen fs = none) (hgd : fs.any Frame.guarded = false) (hroom : (A.over (yfC a) fs).depth < recursionLimit)
    (keepA : ∀ ys σ H s₀ s, GI2 X S Ls a g s₀ ys σ H s → s.os = sc.os ∧ s.heap.IsGen a1 g1)
    (hend : ∀ (n : Nat) (s₀ sw : Shared) (ys : List V) (σ : L2.St) (H : Hp) (s1 s3 : Shared), n + ys.length = sizeLine → GI2 X S Ls a g sw ys σ H s1 → (∀ L ∈ Ls, ∀ o, s₀.heap.get? L = some o → s1.heap.get? L = some o) → s3.os = s1.os → AllBare s3.gens → (∀ b o, s1.heap.get? b = some o → s3.heap.get? b = some o) → Q ys H →
      Sg1 (model X.prog X.w) A R1 (YItem1 sc S Ls a1 g1) n s₀ (yfC a) (.pure (.done (.ret .none))) fs s3) :
    ∀ (n : Nat) (s₀ s : Shared) (gs : GenState) (o : Obj), s.gens[g]? = some gs → s.heap.get? a = some o → GenO g o → s.heap.NoLimit → (∀ L ∈ Ls, ∀ o, s₀.heap.get? L = some o → s.heap.get? L = some o) →
      gs.Goes (model X.prog X.w) (A.over (yfC a) fs).in1 (GR2 X S Ls a g fun ys v H => v = .non ∧ Q ys H) (GY2 X S Ls a g) n (.send .none) (s.setGen g .running) →
      Sg1 (model X.prog X.w) A R1 (YItem1 sc S Ls a1 g1) n s₀ (yfC a) ((model X.prog X.w).den (yfC a)) fs s := by
  have hSa : a ≠ S := hA.2.1
  intro n
  induction n with
  | zero =>
    intro s₀ s gs o hgs hoa ok hl hLk hgo
    rw [den_yf]
    unfold Builtin.«proto.yield_from»
    try dsimp only
    refine sg1_bind (wpAny_pure ?_)
    try dsimp only
    refine sg1_bind (wpAny_attempt (wpAny_holding ?_))
    rw [if_neg Bool.false_ne_true, if_pos (show (Value.none == Value.none) = true from rfl)]
    refine wpAny_bind (wpAny_rule (wpAny_bind ?_))
    refine special_gen hh hl hroom hoa ok hgs hgo (fun v s₁ gs' hb hv => ?_) (fun x s₁ hx => ?_)
    · obtain ⟨ys, x, σ, H, hn, rv, hG, hk⟩ := hv
      obtain ⟨_, _, ⟨acc, c, ra, eS⟩, go, ea, ok2⟩ := hG.at
      have hoth := hG.oth
      obtain ⟨_, _, _, _, _, _, _, I⟩ := hG
      exact (hk _ (Slp.push eS I.bare ea ok2 hSa fun L hL => by obtain ⟨o, _, h2, h3, _⟩ := hoth L hL; exact ⟨(hA.2.2.2.2 L hL).1, o, h2, h3⟩)).elim
    · cases x with
      | error e => exact hx.elim
      | ok fl =>
        cases fl with
        | next => exact hx.elim
        | brk => exact hx.elim
        | cont => exact hx.elim
        | ret u =>
          obtain ⟨ys, v, σ, H, hn, hG, rv, rfl, hQ⟩ := hx
          obtain rfl : u = Value.none := rv
          refine ⟨rfl, fun e h' hS hk => ?_⟩
          obtain ⟨a', o', vs, rfl, hoa', hcls, hdat, h5⟩ := hS
          try dsimp only
          refine sg1_bind (wpAny_endsTurn hoa' hcls ?_)
          try dsimp only
          rw [if_pos rfl]
          first
            | refine sg1_bind (wpAny_rule ?_)
            | (rw [if_neg Bool.false_ne_true]; refine sg1_bind (wpAny_rule ?_))
            | (rw [if_neg Bool.false_ne_true]; refine sg1_bind (wpAny_pure ?_); refine sg1_bind (wpAny_rule ?_))
          refine sg1_bind (wpAny_field hoa' hdat h5 ?_)
          have I2 := hG
          obtain ⟨_, _, _, _, _, _, _, I⟩ := I2
          exact hend 0 s₀ _ ys σ H s₁ _ hn hG (fun L hL o e => by obtain ⟨o2, g1, g2, _⟩ := hG.oth L hL; have := (hLk L hL o e).symm.trans g1; rw [this]; exact g2) rfl (allBare_setGen I.bare rfl) hk hQ
  | succ m ih =>
    intro s₀ s gs o hgs hoa ok hl hLk hgo
    have hgl : g < s.gens.size := (Array.getElem?_eq_some_iff.mp hgs).1
    rw [den_yf]
    unfold Builtin.«proto.yield_from»
    try dsimp only
    refine sg1_bind (wpAny_pure ?_)
    try dsimp only
    refine sg1_bind (wpAny_attempt (wpAny_holding ?_))
    rw [if_neg Bool.false_ne_true, if_pos (show (Value.none == Value.none) = true from rfl)]
    refine wpAny_bind (wpAny_rule (wpAny_bind ?_))
    refine wpAny_gsz (n := g + 1) hgl (special_gen hh hl hroom hoa ok hgs hgo (fun v s₁ gs' hb hv => ?_) (fun x s₁ hx => ?_))
    · intro hsz
      obtain ⟨ys, x, σ, H, hn, rv, hG, hk⟩ := hv
      have hG' := hG
      obtain ⟨os1, hI1⟩ := keepA ys σ H _ s₁ hG
      have hoth := hG.oth
      obtain ⟨_, _, ⟨acc, c, ra, eS⟩, go, ea, ok2⟩ := hG.at
      obtain ⟨_, _, _, _, _, _, _, I⟩ := hG'
      refine wpAny_pure ?_
      try dsimp only
      refine sg1_bind (wpAny_typeOf (T := "generator") (gen_type (s := s₁.setGen g gs') ea ok2) ?_)
      try dsimp only
      first
        | (refine sg1_bind (wpAny_of_eq close_gen ?_); refine sg1_bind (wpAny_pure ?_))
        | refine sg1_bind (wpAny_bind (wpAny_of_eq close_gen (wpAny_pure ?_)))
        | refine sg1_bind (wpAny_of_eq close_gen ?_)
      try dsimp only
      refine sg1_bind (slept_on (s := s₁.setGen g gs') ea ok2 fun h1 e1 k1 => ?_)
      refine sg1_yield hsp ⟨rfl, hgd, a, _, _, _, g, rfl, e1, ?_⟩ ?_
      · obtain ⟨hc, ⟨nm, qn, hd⟩, _⟩ := ok2
        simp [Obj.genNumber?, hc, hd]
      have k1 : ∀ b ob, b ≠ a → s₁.heap.get? b = some ob → h1.get? b = some ob := k1
      have hsz1 : g < s₁.gens.size := by
        have q : (s₁.setGen g gs').gens.size = s₁.gens.size := setGen_size _ _ _
        have hsz' : g + 1 ≤ (s₁.setGen g gs').gens.size := hsz
        omega
      have hacc : acc.size = ys.length := by
        have e1 := ra.length
        have e2 : acc.toList.length = acc.size := by simp
        omega
      refine ⟨os1, allBare_setGen I.bare hb, nolimit_but I.nolimit ea ok2.nodict k1, isGen_but hI1 hne k1, ⟨acc, c, k1 S _ (Ne.symm hSa) eS, by rw [hacc]; exact hn⟩, fun L hL o e => ?_, fun s'' z => ?_⟩
      · obtain ⟨o2, g1, g2, _⟩ := hoth L hL
        have e2 := (hLk L hL o e).symm.trans g1
        rw [e2]
        exact k1 L o2 (hA.2.2.2.2 L hL).2.1 g2
      obtain ⟨z1, z2, z3, z4, z5, zl, zg⟩ := z
      have haL : a ∉ Ls := fun q => (hA.2.2.2.2 a q).2.1 rfl
      have ea2 := z3 a _ hSa haL e1
      obtain ⟨hc, ⟨nm, qn, hd⟩, hsl⟩ := ok2
      show Sg1 _ _ _ _ m s'' _ (Builtin.Generator.sleptOver (.ref a) false >>= fun _ => _) fs s''
      refine sg1_bind (slept_off (s := s'') ea2 hc hd rfl fun h3 e3 k3 => ?_)
      try dsimp only
      refine sg1_bind (wpAny_pure ?_)
      have ok3 : GenO g { ({ go with slots := #[some (rawInt 1)] } : Obj) with slots := #[some (rawInt 0)] } := ⟨hc, ⟨nm, qn, hd⟩, .inr rfl⟩
      have hl3 : h3.NoLimit := nolimit_but zl ea2 (fun es n q => by rw [show ({ go with slots := #[some (rawInt 1)] } : Obj).data = go.data from rfl, hd] at q; cases q) k3
      refine sg1_again (plainId_quiet plain_yf _) (ih s'' _ gs' _ ?_ e3 ok3 hl3 (fun L hL o e => k3 L o (hA.2.2.2.2 L hL).2.1 e) ?_)
      · show s''.gens[g]? = some gs'
        rw [zg g hg1]
        exact setGen_at hsz1
      · refine hk _ ⟨?_, ?_, fun b ob h1' h2' h3' e => ?_, ⟨_, e3, ok3⟩, fun acc' c' e => ?_, fun L hL => ?_⟩
        · show s''.os = s₁.os
          exact z1
        · exact allBare_setGen z2 rfl
        · exact k3 b ob h2' (z3 b ob h1' h3' (k1 b ob h2' e))
        · obtain ⟨c3, e4⟩ := z4 acc' c' (k1 S _ (Ne.symm hSa) e)
          exact ⟨c3, k3 S _ (Ne.symm hSa) e4⟩
        · obtain ⟨o, g1, g2⟩ := z5 L hL
          exact ⟨o, k3 L o (hA.2.2.2.2 L hL).2.1 g1, g2⟩
    · cases x with
      | error e => exact hx.elim
      | ok fl =>
        cases fl with
        | next => exact hx.elim
        | brk => exact hx.elim
        | cont => exact hx.elim
        | ret u =>
          obtain ⟨ys, v, σ, H, hn, hG, rv, rfl, hQ⟩ := hx
          obtain rfl : u = Value.none := rv
          refine ⟨rfl, fun e h' hS hk hsz => ?_⟩
          obtain ⟨a', o', vs, rfl, hoa', hcls, hdat, h5⟩ := hS
          try dsimp only
          refine sg1_bind (wpAny_endsTurn hoa' hcls ?_)
          try dsimp only
          rw [if_pos rfl]
          first
            | refine sg1_bind (wpAny_rule ?_)
            | (rw [if_neg Bool.false_ne_true]; refine sg1_bind (wpAny_rule ?_))
            | (rw [if_neg Bool.false_ne_true]; refine sg1_bind (wpAny_pure ?_); refine sg1_bind (wpAny_rule ?_))
          refine sg1_bind (wpAny_field hoa' hdat h5 ?_)
          have I2 := hG
          obtain ⟨_, _, _, _, _, _, _, I⟩ := I2
          exact hend (m + 1) s₀ _ ys σ H s₁ _ hn hG (fun L hL o e => by obtain ⟨o2, g1, g2, _⟩ := hG.oth L hL; have := (hLk L hL o e).symm.trans g1; rw [this]; exact g2) rfl (allBare_setGen I.bare rfl) hk hQ
end QL

/-! GRj: next of a delegating generator; a list filled from it. -/
namespace QL
open PySem PySem.Spec PyProof.Rows L2 GenW GR
section
variable {P : Program} {w : World} {A : Around} {E : Value → Shared → Prop} {s : Shared}
theorem any_callSpecial {self : Value} {T : String} {name : Str} {id : String} {Q : Option Value → Shared → Prop} (hT : s.TypeIs self T) (h : Slot T name id) (hc : wpAny2 (model P w) A (call (.builtin id) [self]) (fun v => Q (some v)) E s) : wpAny2 (model P w) A (callSpecial? self name) Q E s := by
  simp only [callSpecial?]
  refine any_bindL (wpAny_specialOf hT h.lookup ?_)
  simp only [h.bind]
  exact any_holding (any_bindL (wpAny_pure (any_bind (any_mono hc (fun v s' h' => any_pure h') fun _ _ h' => h'))))
theorem cod_builtin {R : Result → Shared → Prop} {id : String} {args : Args} {b : Builtin} (hb : entryFor table id = some b)
    (h : wpAny2 (model P w) (A.under (.builtin id args)) (b args) (fun fin s' => match fin with | .done f => R (.ok f) s' | .again c' => c'.quiet = true ∧ codeAny2 (model P w) A c' R s') (fun e s' => R (.error e) s') s) : codeAny2 (model P w) A (.builtin id args) R s := by
  refine cod_tree ?_
  show wpAny2 _ _ (match entryFor table id with | some b => b args | none => unsupported ((withoutEnding? id "#data").getD id)) _ _ s
  rw [hb]
  exact h
theorem cod_callB {R : Result → Shared → Prop} {id : String} {args : Args} {b : Builtin} (hp : plainId id = true) (hb : entryFor table id = some b)
    (h : wpAny (model P w) A.in1 (checkBuiltinCall id args) (fun _ s₁ => wpAny2 (model P w) A.in1 (b args) (fun fin s' => match fin with | .done f => R (.ok f) s' | .again c' => c'.quiet = true ∧ codeAny2 (model P w) A c' R s') (fun e s' => R (.error e) s') s₁) (fun e s' => R (.error e) s') s) : codeAny2 (model P w) A (.call (.builtin id) args) R s := by
  refine cod_tree ?_
  show wpAny2 _ A.in1 (do checkBuiltinCall id args; again (.builtin id args)) _ _ s
  refine any_bindL (wpAny_mono h (fun _ s₁ h₁ => any_pure (And.intro (plainId_quiet hp _) (cod_builtin hb ?_))) fun _ _ h' => h')
  rw [Around.under_plainId hp _]
  exact h₁
theorem any_entry {T : String} {name : Str} {id : String} {b : Builtin} {self : Value} {rest : List Value} {Q : Value → Shared → Prop} (h : Slot T name id) (hT : s.TypeIs self T) (hb : entryFor table id = some b)
    (hc : wpAny2 (model P w) A.in1 (b ⟨self :: rest, []⟩) (fun fin s' => ∃ v, fin = .done (.ret v) ∧ Q v s') E s) (ha : argsOk id ⟨self :: rest, []⟩) : wpAny2 (model P w) A (call (.builtin id) (self :: rest)) Q E s := by
  refine any_call (cod_callB h.plain hb (h.check _ _ _ _ _ _ _ _ hT ha (any_mono hc (fun fin s' h' => ?_) fun _ _ h' => h')))
  obtain ⟨v, rfl, hv⟩ := h'
  exact hv
theorem next_gen1 {a : Addr} {g n : Nat} {gs : GenState} {R : GenEnd} {Y : Protocol} {Q : Option Value → Shared → Prop} (hh : A.handled = none) (hl : s.heap.NoLimit) (hroom : A.depth < recursionLimit) (hg : s.heap.IsGen a g) (hgs : s.gens[g]? = some gs)
    (hgo : Goes1 (model P w) A.in1 R Y n gs (.send .none) (s.setGen g .running))
    (hY : ∀ v s₁ gs', s.gens.size ≤ s₁.gens.size → Y (n - 1) (s.setGen g .running) v s₁ (fun r' s'' => match n with | 0 => False | m + 1 => Goes1 (model P w) A.in1 R Y m gs' r' s'') → Q (some v) (s₁.setGen g gs'))
    (hP : ∀ x s₁, R n (s.setGen g .running) x s₁ → x = .ok (.ret .none) ∧ ∀ h', (∀ b o, s₁.heap.get? b = some o → h'.get? b = some o) → Q none { s₁.setGen g .finished with heap := h' }) :
    wpAny2 (model P w) A (pyNext (.ref a)) Q E s := by
  unfold pyNext
  refine any_bind (any_attempt (any_callSpecial (name := Str.ofString "__next__") hg.typeIs slot_gen_next (any_entry slot_gen_next hg.typeIs entry_gen_next ?_ (args_gen_next _))))
  show wpAny2 _ A.in1 (Builtin.Generator.genWake (.ref a) (.send .none)) _ _ s
  unfold Builtin.Generator.genWake
  refine any_bindL (wpAny_holding (wpAny_genNumber hg (any_bindL (wpAny_genState hgs ?_))))
  cases gs with
  | running => exact hgo.elim
  | finished => exact hgo.elim
  | _ =>
    refine any_bindL (wpAny_roomToWake hl hroom ?_)
    show wpAny2 _ A.in1 (.resume g (.send .none) [] _) _ _ s
    refine resume1 hgs hgo (fun x s₁ hx => ?_) (fun v s₁ gs' hsz hv => ?_)
    · obtain ⟨rfl, hE⟩ := hP x s₁ hx
      show wpAny2 _ A.in1 (newExc (.type "StopIteration") [] >>= _) _ _ _
      refine any_bindL ?_
      simp only [newExc, newTuple]
      refine wpAny_bind (wpAny_newObj_type ?_ (by size_fits))
      refine wpAny_bind (m := firstArgMember _ _) (wpAny_of_eq (a := Value.none) (by first | rfl | (simp only [firstArgMember]; rfl)) ?_)
      refine wpAny_newObj_type ?_ (by size_fits)
      simp only [raiseNew]
      refine any_bindL (wpAny_bind (wpAny_handled ?_))
      first | rw [show A.in1.handled = none from hh] | rw [hh]
      refine wpAny_throw ?_
      refine any_bindL (wpAny_isInstance (T := "StopIteration") (b := true) ⟨_, Heap.get?_push_size _ rfl, rfl⟩ isSubtype_stop ?_)
      exact any_pure (hE _ fun b o hb => Heap.get?_push_of_some _ (Heap.get?_push_of_some _ hb))
    · exact any_pure ⟨v, rfl, any_pure (hY v s₁ gs' hsz hv)⟩
end
/-- the end of a delegating generator's run -/
def REnd1 (P : Program) (w : World) (outer : List PySem.Env) (H : Hp) (sc : Shared) (S : Addr) (Ls : List Addr) (Q : List V → Hp → Prop) : GenEnd := fun n s₀ r s1 =>
  r = .ok (.ret .none) ∧ (∀ L ∈ Ls, ∀ o, s₀.heap.get? L = some o → s1.heap.get? L = some o) ∧ ∃ H' ys acc c, s1.os = sc.os ∧ AllBare s1.gens ∧ Un (frs outer) [] H H' sc.heap s1.heap ∧ HOk P w H' s1.heap ∧ (H' S = none ∧ ∀ L ∈ Ls, H' L = none) ∧ s1.heap.get? S = some (L2.lstObj acc c) ∧ Vals ys acc.toList ∧ ys.length ≤ sizeLine ∧ Q ys H'
theorem drain1 {P : Program} {w : World} {outer : List PySem.Env} {H : Hp} {sc : Shared} {Q : List V → Hp → Prop} {A : Around} {R : Result → Shared → Prop} {S a : Addr} {g : Nat} {res : Value} (hh : A.handled = none) (hd : A.depth < recursionLimit) (hSa : S ≠ a) (hSc : S ≠ cStatics)
    (hend : ∀ s' acc c H' ys, s'.heap.get? S = some (L2.lstObj acc c) → Vals ys acc.toList → ys.length ≤ sizeLine → s'.os = sc.os → AllBare s'.gens → Un (frs outer) [] H H' sc.heap s'.heap → HOk P w H' s'.heap → H' S = none → Q ys H' → R (.ok (.ret res)) s') :
    ∀ (m : Nat) (s : Shared), s.heap.IsGen a g → s.heap.NoLimit → AllBare (s.setGen g .running).gens → (∃ gs, s.gens[g]? = some gs ∧ Goes1 (model P w) A.in1.in1 (REnd1 P w outer H sc S [] Q) (YItem1 sc S [] a g) m gs (.send .none) (s.setGen g .running)) →
      codeAny2 (model P w) A (.builtin "list.extend.loop" ⟨[.ref S, .ref a, res], []⟩) R s := by
  have fin : ∀ {m : Nat} {s₀ s₁ : Shared} {x : Result}, REnd1 P w outer H sc S [] Q m s₀ x s₁ → x = .ok (.ret .none) ∧ ∀ h', (∀ b o, s₁.heap.get? b = some o → h'.get? b = some o) → R (.ok (.ret res)) { s₁.setGen g .finished with heap := h' } := fun {m s₀ s₁ x} hx => by
    obtain ⟨rfl, _, H', ys, acc, c, os1, hb1, un, hok, ⟨hSn, _⟩, hS1, hv, hle, hQ⟩ := hx
    exact ⟨rfl, fun h' hk => hend _ acc c H' ys (hk _ _ hS1) hv hle os1 (allBare_setGen hb1 rfl) (un.trans (Un.kept hk)) (hok.kept hk) hSn hQ⟩
  intro m
  induction m with
  | zero =>
    intro s hg hl hbr ⟨gs, hgs, hgo⟩
    refine cod_builtin F.entry_extend_loop ?_
    rw [Around.under_plainId F.plain_extend_loop _]
    show wpAny2 _ A.in1 (pyNext (.ref a) >>= _) _ _ s
    refine any_bind (next_gen1 (A := A.in1) hh hl hd hg hgs hgo (fun v s₁ gs' hsz hv => ?_) (fun x s₁ hx => ?_))
    · obtain ⟨_, hb1, hl1, _, ⟨acc, c, hS1, _⟩, _, hk⟩ := hv
      have lim2 : (s₁.heap.update S (Obj.mapSeq (·.push v))).NoLimit := by
        obtain ⟨mc, hns, hnn⟩ := hl1
        exact ⟨mc, hns.at' fun o e => (Heap.get?_update_other _ _ hSc).trans e, hnn⟩
      exact (hk _ (Slept1.of (Slept.push hS1 hb1) lim2 fun _ _ => rfl)).elim
    · obtain ⟨e, q⟩ := fin hx
      exact ⟨e, fun h' hk => any_pure (q h' hk)⟩
  | succ m ih =>
    intro s hg hl hbr ⟨gs, hgs, hgo⟩
    refine cod_builtin F.entry_extend_loop ?_
    rw [Around.under_plainId F.plain_extend_loop _]
    show wpAny2 _ A.in1 (pyNext (.ref a) >>= _) _ _ s
    refine any_bind (next_gen1 (A := A.in1) hh hl hd hg hgs hgo (fun v s₁ gs' hsz hv => ?_) (fun x s₁ hx => ?_))
    · obtain ⟨os1, hb1, hl1, hg1, ⟨acc, c, hS1, hasz⟩, _, hk⟩ := hv
      have hasz' : acc.size < sizeLine := by omega
      show wpAny2 _ A.in1 (updateSeq S (·.push v) >>= _) _ _ _
      refine any_bindL ?_
      refine wpAny_updateSeq (s := s₁.setGen g gs') hS1 rfl (any_pure ⟨plainId_quiet F.plain_extend_loop _, ?_⟩) (Nat.le_of_lt hasz') (by show (acc.push v).size ≤ sizeLine + 1; rw [Array.size_push]; omega)
      have keep3 : ∀ b o, b ≠ S → s₁.heap.get? b = some o → (s₁.heap.update S (Obj.mapSeq (·.push v))).get? b = some o := fun b o hbS e => (Heap.get?_update_other _ _ (Ne.symm hbS)).trans e
      have sz : g < s₁.gens.size := Nat.lt_of_lt_of_le (Array.getElem?_eq_some_iff.mp hgs).1 hsz
      have bb : AllBare ((({ s₁.setGen g gs' with heap := s₁.heap.update S (Obj.mapSeq (·.push v)) } : Shared)).setGen g .running).gens := by
        have e : ((({ s₁.setGen g gs' with heap := s₁.heap.update S (Obj.mapSeq (·.push v)) } : Shared)).setGen g .running).gens = (s₁.setGen g .running).gens := by
          show ((s₁.gens.setIfInBounds g gs').setIfInBounds g .running) = s₁.gens.setIfInBounds g .running
          simp
        rw [e]
        exact allBare_setGen hb1 rfl
      refine ih { s₁.setGen g gs' with heap := s₁.heap.update S (Obj.mapSeq (·.push v)) } ?_ ?_ bb ⟨gs', setGen_at sz, ?_⟩
      · obtain ⟨o, nm, qn, ho, r⟩ := hg1
        exact ⟨o, nm, qn, keep3 a o (Ne.symm hSa) ho, r⟩
      · obtain ⟨mc, hns, hnn⟩ := hl1
        exact ⟨mc, hns.at' fun o e => keep3 _ o (Ne.symm hSc) e, hnn⟩
      · refine hk _ (Slept1.of (Slept.push hS1 bb) ?_ fun j hj => ?_)
        · obtain ⟨mc, hns, hnn⟩ := hl1
          exact ⟨mc, hns.at' fun o e => keep3 _ o (Ne.symm hSc) e, hnn⟩
        show ((s₁.gens.setIfInBounds g gs').setIfInBounds g .running)[j]? = s₁.gens[j]?
        rw [Array.getElem?_setIfInBounds_ne (Ne.symm hj), Array.getElem?_setIfInBounds_ne (Ne.symm hj)]
    · obtain ⟨e, q⟩ := fin hx
      exact ⟨e, fun h' hk => any_pure (q h' hk)⟩
end QL

/-! GRk: statements of a generator def, told as data. -/
namespace QL
open PySem PySem.Spec PyProof.Rows L2 GenW GR
section
variable {Tq : List (Addr × Str)} {Z : Zb Tq} {X : Cx} {e c : Expr} {env : Env} {st : Stmt} {rest body els : List Stmt} {pos yp : Pos} {ds : List D} {P : List D → Out → Prop}
/-- what is wanted behind a statement of a generator: what is out so far, the names -/
def gEnds (Z : Zb Tq) (H0 F0 : Hp) (O0 : List Addr) (P : List D → Out → Prop) : GEnds where
  nx := fun ys σ H => ∃ F O env ds, Bas Z F H O ∧ OwE F H O σ env ∧ Frm Tq H0 F0 O0 H F O ∧ RpA F ys ds ∧ P ds (.nx env)
  rt := fun ys v H => ∃ F O1 O2 σ t env ds, Bas Z F H (O1 ++ O2) ∧ OwE F H O1 σ env ∧ Ow F H O2 v t ∧ Frm Tq H0 F0 O0 H F (O1 ++ O2) ∧ RpA F ys ds ∧ P ds (.ret t env)
  bk := fun ys σ H => ∃ F O env ds, Bas Z F H O ∧ OwE F H O σ env ∧ Frm Tq H0 F0 O0 H F O ∧ RpA F ys ds ∧ P ds (.bk env)
  ct := fun ys σ H => ∃ F O env ds, Bas Z F H O ∧ OwE F H O σ env ∧ Frm Tq H0 F0 O0 H F O ∧ RpA F ys ds ∧ P ds (.ct env)
structure GLe (D D' : GEnds) : Prop where
  nx : ∀ ys σ H, D.nx ys σ H → D'.nx ys σ H
  rt : ∀ ys v H, D.rt ys v H → D'.rt ys v H
  bk : ∀ ys σ H, D.bk ys σ H → D'.bk ys σ H
  ct : ∀ ys σ H, D.ct ys σ H → D'.ct ys σ H
theorem GSP2.le {X : Cx} {S : Addr} {Ls : List Addr} {a : Addr} {g : Nat} {D D' : GEnds} (l : GLe D D') {ys : List V} : ∀ f s', GSP2 X S Ls a g s₀ D ys f s' → GSP2 X S Ls a g s₀ D' ys f s'
  | .next, _, ⟨σ, H, I, q⟩ => ⟨σ, H, I, l.nx _ _ _ q⟩
  | .brk, _, ⟨σ, H, I, q⟩ => ⟨σ, H, I, l.bk _ _ _ q⟩
  | .cont, _, ⟨σ, H, I, q⟩ => ⟨σ, H, I, l.ct _ _ _ q⟩
  | .ret _, _, ⟨v, σ, H, I, r, q⟩ => ⟨v, σ, H, I, r, l.rt _ _ _ q⟩
theorem GK2.le {S : Addr} {Ls : List Addr} {a : Addr} {g : Nat} {A : Around} {R : GenEnd} {c : Code} {fs : List Frame} {K : Flow → Sem PySem.Fin} {D D' : GEnds} (l : GLe D D') (k : GK2 X S Ls a g A R c fs K D') : GK2 X S Ls a g A R c fs K D := fun n ys s₀ s f hn h => k n ys s₀ s f hn (GSP2.le l f s h)
theorem gEnds.from {H0 F0 H1 F1 : Hp} {O0 O1 : List Addr} {P P' : List D → Out → Prop} (fr : Frm Tq H0 F0 O0 H1 F1 O1) (hp : ∀ ds o, P ds o → P' ds o) : GLe (gEnds Z H1 F1 O1 P) (gEnds Z H0 F0 O0 P') :=
  ⟨fun _ _ _ ⟨F, O, env, ds, b, o, f, r, p⟩ => ⟨F, O, env, ds, b, o, fr.trans f, r, hp _ _ p⟩, fun _ _ _ ⟨F, O, O2, σ, t, env, ds, b, o, w, f, r, p⟩ => ⟨F, O, O2, σ, t, env, ds, b, o, w, fr.trans f, r, hp _ _ p⟩,
    fun _ _ _ ⟨F, O, env, ds, b, o, f, r, p⟩ => ⟨F, O, env, ds, b, o, fr.trans f, r, hp _ _ p⟩, fun _ _ _ ⟨F, O, env, ds, b, o, f, r, p⟩ => ⟨F, O, env, ds, b, o, fr.trans f, r, hp _ _ p⟩⟩
def WG (Z : Zb Tq) (X : Cx) (st : Stmt) (env : Env) (ds : List D) (P : List D → Out → Prop) : Prop :=
  ∀ (A : Around) (S : Addr) (Ls : List Addr) (a : Addr) (g : Nat) (R : GenEnd) (n : Nat) (ys : List V) (s₀ : Shared) (c : Code) (fs : List Frame) (K : Flow → Sem PySem.Fin) (J : Value → Sem PySem.Fin) (gd : Bool → Bool) (lv : List Value → List Value) (s : Shared) (σ : L2.St) (H F : Hp) (O : List Addr),
    GC2 X S Ls a A c fs gd → n + ys.length = sizeLine → GK2 X S Ls a g A R c fs K (gEnds Z H F O P) → GI2 X S Ls a g s₀ ys σ H s → Bas Z F H O → OwE F H O σ env → RpA F ys ds → Seg (model X.prog X.w) A R (GY2 X S Ls a g) n s₀ c ((exec st X.env).wrap K J gd lv) fs s
def WGs (Z : Zb Tq) (X : Cx) (st : List Stmt) (env : Env) (ds : List D) (P : List D → Out → Prop) : Prop :=
  ∀ (A : Around) (S : Addr) (Ls : List Addr) (a : Addr) (g : Nat) (R : GenEnd) (n : Nat) (ys : List V) (s₀ : Shared) (c : Code) (fs : List Frame) (K : Flow → Sem PySem.Fin) (J : Value → Sem PySem.Fin) (gd : Bool → Bool) (lv : List Value → List Value) (s : Shared) (σ : L2.St) (H F : Hp) (O : List Addr),
    GC2 X S Ls a A c fs gd → n + ys.length = sizeLine → GK2 X S Ls a g A R c fs K (gEnds Z H F O P) → GI2 X S Ls a g s₀ ys σ H s → Bas Z F H O → OwE F H O σ env → RpA F ys ds → Seg (model X.prog X.w) A R (GY2 X S Ls a g) n s₀ c ((execs st X.env).wrap K J gd lv) fs s
theorem wg_of {t : TGn} (h : GS2 X st t) (w : ∀ σ H F O ys, Bas Z F H O → OwE F H O σ env → RpA F ys ds → t (gEnds Z H F O P) ys σ H) : WG Z X st env ds P := fun A S Ls a g R n ys s₀ c fs K J gd lv s σ H F O hg hn k hI b o r => h.run A S Ls a g R n ys s₀ c fs K J gd lv s σ H _ hg hn k hI (w σ H F O ys b o r)
def tGs (Z : Zb Tq) (X : Cx) (st : List Stmt) : TGn := fun D ys σ H => ∃ env F O ds P, Bas Z F H O ∧ OwE F H O σ env ∧ RpA F ys ds ∧ WGs Z X st env ds P ∧ GLe (gEnds Z H F O P) D
theorem gss_G : GSs2 X rest (tGs Z X rest) := ⟨fun A S Ls a g R n ys s₀ c fs K J gd lv s σ H D hg hn k hI ⟨env, F, O, ds, P, b, o, r, w, l⟩ => w A S Ls a g R n ys s₀ c fs K J gd lv s σ H F O hg hn (GK2.le l k) hI b o r⟩
def tG (Z : Zb Tq) (X : Cx) (st : Stmt) : TGn := fun D ys σ H => ∃ env F O ds P, Bas Z F H O ∧ OwE F H O σ env ∧ RpA F ys ds ∧ WG Z X st env ds P ∧ GLe (gEnds Z H F O P) D
theorem gs_G : GS2 X st (tG Z X st) := ⟨fun A S Ls a g R n ys s₀ c fs K J gd lv s σ H D hg hn k hI ⟨env, F, O, ds, P, b, o, r, w, l⟩ => w A S Ls a g R n ys s₀ c fs K J gd lv s σ H F O hg hn (GK2.le l k) hI b o r⟩
theorem wgs_nil (h : P ds (.nx env)) : WGs Z X [] env ds P := fun A S Ls a g R n ys s₀ c fs K J gd lv s σ H F O hg hn k hI b o r =>
  gss2_nil.run A S Ls a g R n ys s₀ c fs K J gd lv s σ H _ hg hn k hI ⟨F, O, env, ds, b, o, Frm.refl _ _ _, r, h⟩
def seqG (Z : Zb Tq) (X : Cx) (rest : List Stmt) (P : List D → Out → Prop) : List D → Out → Prop
  | ds, .nx e => WGs Z X rest e ds P
  | ds, .ret t e => P ds (.ret t e)
  | ds, .bk e => P ds (.bk e)
  | ds, .ct e => P ds (.ct e)
theorem wgs_cons (h : WG Z X st env ds (seqG Z X rest P)) : WGs Z X (st :: rest) env ds P := fun A S Ls a g R n ys s₀ c fs K J gd lv s σ H F O hg hn k hI b o r =>
  (gss2_cons (gs_G (Z := Z)) (gss_G (Z := Z))).run A S Ls a g R n ys s₀ c fs K J gd lv s σ H _ hg hn k hI ⟨env, F, O, ds, _, b, o, r, h,
    ⟨fun ys' σ' H' ⟨F', O', e', ds', b', o', f', r', p⟩ => ⟨e', F', O', ds', P, b', o', r', p, gEnds.from f' fun _ _ q => q⟩, fun _ _ _ q => q, fun _ _ _ q => q, fun _ _ _ q => q⟩⟩
/-- a statement that hands out nothing -/
theorem wg_plain (h : WS Z X st env fun o => P ds o) : WG Z X st env ds P := wg_of (gs2_ps (ps_S (Z := Z))) fun σ H F O ys b o r =>
  ⟨env, F, O, _, b, o, h, ⟨fun _ _ ⟨F1, O1, e1, b1, o1, fr, p⟩ => ⟨F1, O1, e1, ds, b1, o1, fr, r.mono fr.fz, p⟩, fun _ _ ⟨F1, O1, O2, σ1, t, e1, b1, o1, w, fr, p⟩ => ⟨F1, O1, O2, σ1, t, e1, ds, b1, o1, w, fr, r.mono fr.fz, p⟩,
    fun _ _ ⟨F1, O1, e1, b1, o1, fr, p⟩ => ⟨F1, O1, e1, ds, b1, o1, fr, r.mono fr.fz, p⟩, fun _ _ ⟨F1, O1, e1, b1, o1, fr, p⟩ => ⟨F1, O1, e1, ds, b1, o1, fr, r.mono fr.fz, p⟩⟩⟩
theorem wg_if (h : WT Z X c env fun k e1 => (k = true → WGs Z X body e1 ds P) ∧ (k = false → WGs Z X els e1 ds P)) : WG Z X (.If c body els pos) env ds P :=
  wg_of (gs2_if (pt_T (Z := Z)) (gss_G (Z := Z)) (gss_G (Z := Z))) fun σ H F O ys b o r => ⟨env, F, O, _, b, o, h, fun k H1 ⟨F1, O1, e1, b1, o1, fr, p⟩ => by
    cases k with
    | true => exact iteT ⟨e1, F1, O1, ds, P, b1, o1, r.mono fr.fz, p.1 rfl, gEnds.from fr fun _ _ q => q⟩
    | false => exact iteF ⟨e1, F1, O1, ds, P, b1, o1, r.mono fr.fz, p.2 rfl, gEnds.from fr fun _ _ q => q⟩⟩
def loopG (P : List D → Out → Prop) (N : List D → Env → Prop) : List D → Out → Prop
  | ds, .nx e => N ds e
  | ds, .ct e => N ds e
  | ds, .bk e => P ds (.nx e)
  | ds, .ret t e => P ds (.ret t e)
theorem wg_while (I : Nat → List D → Env → Prop) (m : Nat) (h0 : I m ds env) (hs : ∀ m ds env, I m ds env → WT Z X c env fun k e1 => (k = true → WGs Z X body e1 ds (loopG P fun ds' e => ∃ m', m' < m ∧ I m' ds' e)) ∧ (k = false → P ds (.nx e1))) : WG Z X (.While c body [] pos) env ds P :=
  wg_of (gs2_while (pt_T (Z := Z)) (gss_G (Z := Z))) fun σ0 H0 F0 O0 ys b0 o0 r0 => by
    refine ⟨fun m ys σ H => ∃ F O env ds, Bas Z F H O ∧ OwE F H O σ env ∧ Frm Tq H0 F0 O0 H F O ∧ RpA F ys ds ∧ I m ds env, ⟨m, F0, O0, env, ds, b0, o0, Frm.refl _ _ _, r0, h0⟩, ?_⟩
    rintro m ys σ H ⟨F, O, env, ds, b, o, fr, r, hI⟩
    refine ⟨env, F, O, _, b, o, hs m ds env hI, fun k H1 ⟨F1, O1, e1, b1, o1, fr1, p⟩ => ?_⟩
    have fr2 := fr.trans fr1
    cases k with
    | false => exact iteF ⟨F1, O1, e1, ds, b1, o1, fr2, r.mono fr1.fz, p.2 rfl⟩
    | true =>
      refine iteT ⟨fun ys' σ' H' => ∃ F O env ds, Bas Z F H' O ∧ OwE F H' O σ' env ∧ Frm Tq H0 F0 O0 H' F O ∧ RpA F ys' ds ∧ ∃ m', m' < m ∧ I m' ds env, fun ys' σ' H' ⟨F, O, env, ds, b, o, f, r, m', hm, q⟩ => ⟨m', hm, F, O, env, ds, b, o, f, r, q⟩, ?_⟩
      exact ⟨e1, F1, O1, ds, _, b1, o1, r.mono fr1.fz, p.1 rfl, ⟨fun _ _ _ ⟨F, O, env, ds, b, o, f, r, q⟩ => ⟨F, O, env, ds, b, o, fr2.trans f, r, q⟩, fun _ _ _ ⟨F, O, O2, σ, t, env, ds, b, o, w, f, r, q⟩ => ⟨F, O, O2, σ, t, env, ds, b, o, w, fr2.trans f, r, q⟩,
        fun _ _ _ ⟨F, O, env, ds, b, o, f, r, q⟩ => ⟨F, O, env, ds, b, o, fr2.trans f, r, q⟩, fun _ _ _ ⟨F, O, env, ds, b, o, f, r, q⟩ => ⟨F, O, env, ds, b, o, fr2.trans f, r, q⟩⟩⟩
/-- yield e, e frozen data -/
theorem wg_yield (hl : ds.length < sizeLine) (h : WA Z X e env fun a e1 => ∃ d, a = .va d ∧ P (ds ++ [d]) (.nx e1)) (hco : X.env.scope.isCoroutine = false := by rfl) (hi : interactive X.env = false := by rfl) : WG Z X (.Expr (.Yield (some e) yp) pos) env ds P :=
  wg_of (gs2_yield (pe_A (Z := Z)) hco hi) fun σ H F O ys b o r => ⟨by rw [r.len]; exact hl, env, F, O, _, b, o, h, fun v H1 ⟨F1, O1, a, e1, b1, o1, st, fr, d, ea, p⟩ => by
    subst ea
    have rv : Rp F1 v d := st
    exact ⟨F1, O1, e1, _, b1, o1, fr, (r.mono fr.fz).app (.cons rv .nil), p⟩⟩
end
end QL

/-! GRl: the delegate's context; a generator that has not begun. -/
namespace QL
open PySem PySem.Spec PyProof.Rows L2 GenW GR
/-- the state, of its heap only what is older than S -/
def truncS (s : Shared) (S : Nat) : Shared := { s with heap := { s.heap with objs := s.heap.objs.extract 0 S } }
theorem trunc_lt {s : Shared} {S b : Nat} (h : b < S) : (truncS s S).heap.get? b = s.heap.get? b := by
  have e : (s.heap.objs.extract 0 S)[b]? = s.heap.objs[b]? := by
    rw [Array.getElem?_extract]
    by_cases hb : b < s.heap.objs.size
    · rw [if_pos (by omega)]
      simp
    · rw [if_neg (by omega), Array.getElem?_eq_none (by omega)]
  unfold Heap.get? truncS
  simp only [e]
theorem trunc_some {s : Shared} {S b : Nat} {o : Obj} (h : (truncS s S).heap.get? b = some o) : b < S ∧ s.heap.get? b = some o := by
  have hb : b < S := by
    have := Heap.lt_size h
    have e : (truncS s S).heap.objs.size = min S s.heap.objs.size - 0 := by
      unfold truncS
      exact Array.size_extract
    exact Nat.lt_of_lt_of_le (Nat.lt_of_lt_of_eq this e) (Nat.le_trans (Nat.sub_le _ _) (Nat.min_le_left _ _))
  rw [trunc_lt hb] at h
  exact ⟨hb, h⟩
theorem trunc_size {s : Shared} {S : Nat} (h : S ≤ s.heap.objs.size) : (truncS s S).heap.objs.size = S := by
  simp [truncS]
  omega
theorem funFrames_to {h h' base : Heap} : ∀ {l : List PySem.Env}, h.FunFrames base l → (∀ b ∈ frs l, ∀ o, h.get? b = some o → h'.get? b = some o) → h'.FunFrames base l
  | [], _, _ => trivial
  | env :: l, ⟨hk, ⟨L, o, hf, hb, ho, hd⟩, hr⟩, k => by
    refine ⟨hk, ⟨L, o, hf, hb, k L ?_ o ho, hd⟩, funFrames_to hr fun b hb o e => k b ?_ o e⟩
    · unfold frs
      rw [List.filterMap_cons, hf]
      exact List.mem_cons_self
    · unfold frs
      rw [List.filterMap_cons, hf]
      exact List.mem_cons_of_mem _ hb
/-- the delegate's context: what is younger than the consumer's list may change -/
def X2of (P : Program) (w : World) (K : PySem.W.Frag) (mg : Str → Option Value) (base : Heap) (N : List Str) (qual : Str) (scope : Scope) (f : Addr) (cd : Value) (A : Around) (outer : List PySem.Env) (s : Shared) (H : Hp) (t : Shared) : Cx :=
  { gcxOf P w K mg base N qual scope f cd A outer s H (fun _ _ _ => False) [] with s_0 := t, xe := fun _ _ => False }
section
variable {P : Program} {w : World} {K : PySem.W.Frag} {mg : Str → Option Value} {base : Heap} {N ps : List Str} {qual : Str} {scope : Scope} {f : Addr} {cd : Value} {A : Around} {outer : List PySem.Env} {s s1 : Shared} {H : Hp} {σ : L2.St}
theorem inv_X2 {S : Nat} (I : Inv (gcxOf P w K mg base N qual scope f cd A outer s H (fun _ _ _ => False) []) [] σ H s1) (hS : S ≤ s.heap.objs.size) (hb : base.objs.size ≤ S) (hf : ∀ b ∈ frs outer, b < S) (hk : ∀ b o, s.heap.get? b = some o → s1.heap.get? b = some o) (hos : s1.os = s.os) :
    Inv (X2of P w K mg base N qual scope f cd A outer s H (truncS s S)) [] σ H s1 := by
  have ok := I.ok
  have sz := trunc_size hS
  refine ⟨⟨ok.mod, ok.kind, ok.glob, ok.blt, ?_, ok.inj, ok.has, fun x c h1 h2 => ?_, ok.hd, ok.frames, ok.stk, ok.exf, fun b o e => ?_, ?_, ok.noex, ok.exfs, ?_, ok.frf⟩, hos, I.bare, ?_, I.loc, I.cell, I.free, I.freeC, fun p hp => ?_, I.hok, I.len⟩
  · show (truncS s S).heap.objs.size ≤ _
    rw [sz]
    exact Nat.le_trans hS ok.above
  · show (truncS s S).heap.objs.size ≤ c
    rw [sz]
    exact Nat.le_trans hS (ok.cab x c h1 h2)
  · obtain ⟨h1, h2⟩ := ok.bs b o e
    refine ⟨?_, h2⟩
    show (truncS s S).heap.get? b = some o
    rw [trunc_lt (Nat.lt_of_lt_of_le (Heap.lt_size e) hb)]
    exact h1
  · show base.objs.size ≤ (truncS s S).heap.objs.size
    rw [sz]
    exact hb
  · exact funFrames_to ok.funs fun b hb o e => by
      show (truncS s S).heap.get? b = some o
      rw [trunc_lt (hf b hb)]
      exact e
  · exact Un.kept fun b o e => hk b o (trunc_some e).2
  · exact I.pin p hp
/-- what the delegate's end tells its delegator's caller -/
theorem un_glue {fs0 : List Addr} {L S : Nat} {Hc H2 H' : Hp} {sc s s1 : Shared} {envs : List PySem.Env} (u1 : Un fs0 [] Hc H2 sc.heap s.heap) (u2 : Un (L :: fs0) [] H2 H' (truncS s S).heap s1.heap) (hS : sc.heap.objs.size ≤ S) (hL : sc.heap.objs.size ≤ L) : Un fs0 [] Hc H' sc.heap s1.heap where
  keep := fun b o e n hb hx => by
    have lt := Heap.lt_size e
    have e1 := u1.keep b o e n hb hx
    refine u2.keep b o (by rw [trunc_lt (Nat.lt_of_lt_of_le lt hS)]; exact e1) (u1.free b o e n hx) (fun z => ?_) hx
    rcases List.mem_cons.mp z with z | z
    · exact absurd (z ▸ lt) (Nat.not_lt.mpr hL)
    · exact hb z
  slot := fun b o e n hb hx => by
    have lt := Heap.lt_size e
    obtain ⟨sl, e1⟩ := u1.slot b o e n hb hx
    obtain ⟨sl2, e2⟩ := u2.slot b _ (by rw [trunc_lt (Nat.lt_of_lt_of_le lt hS)]; exact e1) (u1.free b o e n hx) (List.mem_cons_of_mem _ hb) hx
    exact ⟨sl2, e2⟩
  free := fun b o e n hx => by
    have lt := Heap.lt_size e
    obtain ⟨o', e1⟩ := u1.there b o e hx
    exact u2.free b o' (by rw [trunc_lt (Nat.lt_of_lt_of_le lt hS)]; exact e1) (u1.free b o e n hx) hx
  there := fun b o e hx => by
    have lt := Heap.lt_size e
    obtain ⟨o', e1⟩ := u1.there b o e hx
    exact u2.there b o' (by rw [trunc_lt (Nat.lt_of_lt_of_le lt hS)]; exact e1) hx
  tups := fun b xs e => u2.tups b xs (u1.tups b xs e)
  frzs := fun b o u e => u2.frzs b o u (u1.frzs b o u e)
  tbls := fun b qs e => by
    obtain ⟨m1, e1⟩ := u1.tbls b qs e
    obtain ⟨m2, e2⟩ := u2.tbls b _ e1
    exact ⟨m1 ++ m2, by rw [e2, Array.append_assoc]⟩
end
end QL

/-! GRm: a generator that is delegated to, by its body. -/
namespace QL
open PySem PySem.Spec PyProof.Rows L2 GenW GR
/-- the context of its body -/
abbrev BX2 (P : Program) (w : World) (K : PySem.W.Frag) (mg : Str → Option Value) (base : Heap) (N : List Str) (qual : Str) (st : Stmt) (f : Addr) (cdv : Value) (A : Around) (outer : List PySem.Env) (s : Shared) (H : Hp) (S : Addr) : Cx :=
  X2of P w K mg base N qual (defScope st) f cdv A outer s H (truncS s S)
/-- the list that it is to fill, made before it -/
structure FillL (base : Heap) (outer : List PySem.Env) (H : Hp) (s : Shared) (S : Addr) (Ls : List Addr) : Prop where
  at' : ∃ c, s.heap.get? S = some (L2.lstObj #[] c)
  no : H S = none
  nf : S ∉ frs outer
  old : ∀ b ∈ frs outer, b < S
  bs : base.objs.size ≤ S
  oth : ∀ L ∈ Ls, S < L ∧ H L = none ∧ L ∉ frs outer ∧ ∃ o, s.heap.get? L = some o ∧ ∀ v, o.data ≠ .cell v
/-- what a call of it gives: a generator that has not begun -/
def GMade2 (P : Program) (w : World) (k : Nat) (outer : List PySem.Env) (H : Hp) (s : Shared) (S : Addr) (Ls : List Addr) (Q : List V → Hp → Prop) (u : Value) (s' : Shared) : Prop :=
  ∃ (a g : Nat) (c : Code), u = .ref a ∧ s.heap.objs.size ≤ a ∧ a < s'.heap.objs.size ∧ s'.heap.IsGen a g ∧ g = s.gens.size ∧ s'.gens = s.gens.push (.fresh c) ∧ s'.os = s.os ∧ AllBare s'.gens ∧ s'.heap.NoLimit ∧ (∀ b o, s.heap.get? b = some o → s'.heap.get? b = some o) ∧
    ∀ (A : Around) (s2 : Shared), Room k A → A.frames = some outer → A.guards = some [] → (∀ b o, s'.heap.get? b = some o → s2.heap.get? b = some o) → s2.os = s.os → AllBare s2.gens →
      ∃ X : Cx, X.prog = P ∧ X.w = w ∧ Apart2 X S Ls a ∧ (∀ ys σ H' s₀ s3, GI2 X S Ls a g s₀ ys σ H' s3 → s3.os = s.os ∧ AllBare s3.gens ∧ Un (frs outer) [] H H' (truncS s S).heap s3.heap ∧ HOk P w H' s3.heap) ∧
        Seg (model P w) A (GR2 X S Ls a g fun ys v H' => v = .non ∧ Q ys H') (GY2 X S Ls a g) sizeLine s2 c ((model P w).den c) [] s2
structure Gn2 (P : Program) (w : World) (K : PySem.W.Frag) (mg : Str → Option Value) (base : Heap) (Tq : List (Addr × Str)) (k : Nat) (f : Addr) (fd : FuncData) (ps : List Str) (sp : List T → (List D → Prop) → Prop) : Prop where
  len : ∀ ts Q, sp ts Q → ts.length = ps.length
  run : ∀ (A : Around) (outer : List PySem.Env) (s : Shared) (H : Hp) (args : Args) (us : List Value) (vs : List V) (F : Hp) (O : List Addr) (ts : List T) (Q : List D → Prop) (tbs : TabZ Tq H F O) (S : Addr) (Ls : List Addr),
    Room k A → Env0 P w K mg base A outer s H → BindsTo s fd args (ps.zip us) → Vals vs us → Bas ⟨H, F, O, tbs⟩ F H O → StV F H O vs ts → sp ts Q → FillL base outer H s S Ls →
    codeAny (model P w) A (.call (.ref f) args) (fun r s' => match r with | .ok (.ret u) => GMade2 P w k outer H s S Ls (fun ys H' => ∃ F' O' ds, Bas ⟨H, F, O, tbs⟩ F' H' O' ∧ RpA F' ys ds ∧ Q ds) u s' | _ => False) s
theorem gn2_of {P : Program} {w : World} {K : PySem.W.Frag} {mg : Str → Option Value} {base : Heap} {Tq : List (Addr × Str)} {x qual : Str} {st : Stmt} {f : Addr} {fd : FuncData} {N ps : List Str} {k : Nat} {sp : List T → (List D → Prop) → Prop} (Fn : Fun K x qual st f fd) (S : GScope N ps (defScope st)) (len : ∀ ts Q, sp ts Q → ts.length = ps.length)
    (hbody : ∀ (cdv : Value) (A : Around) (outer : List PySem.Env) (s : Shared) (H : Hp) (L : Addr) (Z : Zb Tq) (ts : List T) (Q : List D → Prop), Room k (BX2 P w K mg base N qual st f cdv A outer s H L).A → (BX2 P w K mg base N qual st f cdv A outer s H L).A.guards = some [] →
      sp ts Q → WGs Z (BX2 P w K mg base N qual st f cdv A outer s H L) (defBody st) (startE N ts) [] fun ds o => ∃ e, o = .nx e ∧ Q ds) : Gn2 P w K mg base Tq (k + 1) f fd ps sp := by
  obtain ⟨oc, od, kV, doc, pm, an, cdv, ct, osl, rfl, lk, hcd⟩ := Fn.ex
  refine ⟨len, fun A outer s H args us vs F O ts Q tbs L Ks hr e0 hb r b sv hsp fl => ?_⟩
  have hl : vs.length = ps.length := sv.len.trans (len _ _ hsp)
  have KX : K.In s.heap := e0.mod.kin.keeps fun b o e => (e0.bs b o e).1
  have lim : s.heap.NoLimit := e0.mod.nolimit.keeps fun b o e => (e0.bs b o e).1
  have hkind : ∀ y ∈ ps.zip us, (defScope st).names.lookup y.1 = some .local ∨ ((defScope st).names.lookup y.1 = some .cell ∧ ((cellsFrom (s.heap.objs.size + 1) (defScope st).names []).lookup y.1).isSome = true) := fun ⟨n, v⟩ hy => by
    rcases S.par n (List.of_mem_zip hy).1 with q | q
    · exact .inl q
    · exact .inr ⟨q, PySem.W.cellsFrom_some _ _ _ (.inl q)⟩
  refine codeAny_call_generator hr.depth (KX _ _ lk) rfl S.co S.gen rfl (PySem.W.codeRec_of KX hcd) (hb _ _ _ _ ?_)
  refine wpAny_newFunctionEnv_cells S.kind hkind fun env he s1 ic => ?_
  subst he
  have lim1 : s1.heap.NoLimit := lim.keeps ic.toInCall.keep
  refine ⟨lim1, ?_⟩
  obtain ⟨h1, tk, es1, hk1⟩ := ic.done
  have os1 : s1.os = s.os := by rw [es1]
  have gen1 : s1.gens = s.gens := by rw [es1]
  have lt1 : s.heap.objs.size < s1.heap.objs.size := ic.toInCall.ns.lt
  have sz1 : s.heap.objs.size ≤ s1.heap.objs.size := Nat.le_of_lt lt1
  have kp1 : ∀ b o, s.heap.get? b = some o → s1.heap.get? b = some o := ic.toInCall.keep
  obtain ⟨cS, heS0⟩ := fl.at'
  have hLs : L < s.heap.objs.size := Heap.lt_size heS0
  have main : ∀ (go : Obj) (nm qn : Value) (tk2 : Nat), go.cls = .type "generator" → go.data = .fields #[.int s1.gens.size 0, nm, qn] → go.slots = #[] → (∀ h : Heap, (h.push go).get? h.objs.size = some go) →
      GMade2 P w (k + 1) outer H s L Ks (fun ys H' => ∃ F' O' ds, Bas ⟨H, F, O, tbs⟩ F' H' O' ∧ RpA F' ys ds ∧ Q ds) (.ref s1.heap.objs.size) { s1 with gens := s1.gens.push (.fresh (.func (defBody st) (envOfC qual (defScope st) s.heap.objs.size f cdv))), toks := tk2, heap := s1.heap.push go } := by
    intro go nm qn tk2 hgc hgd0 hgs hgp
    have hpushed : (s1.heap.push go).get? s1.heap.objs.size = some go := hgp _
    have okG : GenO s1.gens.size go := ⟨hgc, ⟨nm, qn, hgd0⟩, .inl hgs⟩
    refine ⟨s1.heap.objs.size, s1.gens.size, _, rfl, sz1, ?_, ⟨go, nm, qn, hpushed, hgc, hgd0, hgs⟩, by rw [gen1], by rw [gen1], os1, ?_, lim1.keeps fun b o e => Heap.get?_push_of_some _ e, fun b o e => Heap.get?_push_of_some _ (kp1 b o e), ?_⟩
    · show _ < (s1.heap.push _).objs.size
      rw [Heap.size_push]; exact Nat.lt_succ_self _
    · exact AllBare.push (by rw [gen1]; exact e0.bare) rfl
    intro Aw s2 hrw hfr hgw hk2 hos hba
    have e0w : Env0 P w K mg base Aw outer s H := ⟨hfr, e0.mod, e0.bs, e0.bsz, e0.funs, e0.frf, e0.hok, e0.bare⟩
    have I1 : Inv (gcxOf P w K mg base N qual (defScope st) f cdv Aw outer s H (fun _ _ _ => False) []) [] (L2.start N vs) H s1 := inv_startG S hrw.hd e0w hl r ic
    have kp2 : ∀ b o, s1.heap.get? b = some o → s2.heap.get? b = some o := fun b o e => hk2 b o (Heap.get?_push_of_some _ e)
    have I2 : Inv (gcxOf P w K mg base N qual (defScope st) f cdv Aw outer s H (fun _ _ _ => False) []) [] (L2.start N vs) H s2 :=
      I1.call' (ch := []) (hos.trans os1.symm) (Un.kept kp2) (I1.hok.kept kp2) hba fun b z => by simp at z
    have I3 : Inv (BX2 P w K mg base N qual st f cdv Aw outer s H L) [] (L2.start N vs) H s2 := inv_X2 I2 (Nat.le_of_lt hLs) fl.bs fl.old (fun b o e => kp2 b o (kp1 b o e)) hos
    have szT : (truncS s L).heap.objs.size = L := trunc_size (Nat.le_of_lt hLs)
    have hea : s2.heap.get? s1.heap.objs.size = some go := hk2 s1.heap.objs.size go hpushed
    have heS : s2.heap.get? L = some (L2.lstObj #[] cS) := kp2 _ _ (kp1 _ _ heS0)
    have young : ∀ b, s1.heap.objs.size ≤ b → H b = none ∧ b ≠ s.heap.objs.size ∧ b ∉ frs outer ∧ s.heap.objs.size ≤ b ∧ ∀ y c, (cellsFrom (s.heap.objs.size + 1) (defScope st).names []).lookup y = some c → c ≠ b := fun b hb => by
      refine ⟨I1.hok.fresh hb, Nat.ne_of_gt (Nat.lt_of_lt_of_le lt1 hb), I1.nofs hb, Nat.le_trans sz1 hb, fun y c e z => ?_⟩
      obtain ⟨v, ob, ho, _⟩ := I1.cell y c e
      have := Heap.lt_size ho
      rw [z] at this
      exact absurd (Nat.lt_of_lt_of_le this hb) (Nat.lt_irrefl _)
    obtain ⟨y1, y2, y3, y4, y5⟩ := young s1.heap.objs.size (Nat.le_refl _)
    have hne : s1.heap.objs.size ≠ L := Nat.ne_of_gt (Nat.lt_trans hLs lt1)
    obtain ⟨los, elos, hlos⟩ := los_of (P := fun b o => s2.heap.get? b = some o ∧ H b = none ∧ b ≠ s.heap.objs.size ∧ b ∉ frs outer ∧ ∀ v, o.data ≠ .cell v) (Ls := Ks) fun b hb => by
      obtain ⟨_, g2, g3, o, g4, g5⟩ := fl.oth b hb
      exact ⟨o, kp2 _ _ (kp1 _ _ g4), g2, Nat.ne_of_lt (Heap.lt_size g4), g3, g5⟩
    have hG : GI2 (BX2 P w K mg base N qual st f cdv Aw outer s H L) L Ks s1.heap.objs.size s1.gens.size s2 [] (L2.start N vs) H s2 := by
      refine ⟨go, los, okG, ⟨elos, fun p hp => (hlos p hp).1⟩, #[], cS, .nil, I3.pins_of fun p hp => ?_⟩
      rcases List.mem_cons.mp hp with z | z
      · rw [z]
        exact ⟨heS, fl.no, Nat.ne_of_lt hLs, fl.nf, fun v q => by cases q⟩
      rcases List.mem_cons.mp z with z | z
      · rw [z]
        exact ⟨hea, y1, y2, y3, okG.nocell⟩
      · exact hlos p z
    have hAp : Apart2 (BX2 P w K mg base N qual st f cdv Aw outer s H L) L Ks s1.heap.objs.size := by
      refine ⟨rfl, hne, ⟨?_, Nat.ne_of_lt hLs, fun y c e z => ?_⟩, ⟨?_, y2, y5⟩, fun b hb => ?_⟩
      · show (truncS s L).heap.objs.size ≤ L
        rw [szT]
        exact Nat.le_refl _
      · have q : s.heap.objs.size < c := ic.above y c (PySem.mem_of_lookup e)
        rw [z] at q
        exact absurd (Nat.lt_trans hLs q) (Nat.lt_irrefl _)
      · show (truncS s L).heap.objs.size ≤ _
        rw [szT]
        exact Nat.le_of_lt (Nat.lt_trans hLs lt1)
      · obtain ⟨g1, g2, g3, o, g4, g5⟩ := fl.oth b hb
        have hbl : b < s.heap.objs.size := Heap.lt_size g4
        refine ⟨Nat.ne_of_gt g1, Nat.ne_of_lt (Nat.lt_trans hbl lt1), ?_, Nat.ne_of_lt hbl, fun y c e z => ?_⟩
        · show (truncS s L).heap.objs.size ≤ b
          rw [szT]
          exact Nat.le_of_lt g1
        · have q : s.heap.objs.size < c := ic.above y c (PySem.mem_of_lookup e)
          rw [z] at q
          exact absurd (Nat.lt_trans hbl q) (Nat.lt_irrefl _)
    refine ⟨BX2 P w K mg base N qual st f cdv Aw outer s H L, rfl, rfl, hAp, fun ys σ H' s₀ s3 hI => ?_, ?_⟩
    · obtain ⟨_, _, _, _, _, _, _, J⟩ := hI
      exact ⟨J.os, J.bare, J.base, J.hok⟩
    refine seg_func ?_
    have hgd : (BX2 P w K mg base N qual st f cdv Aw outer s H L).A.guards = some [] := hgw
    have body := hbody cdv Aw outer s H L ⟨H, F, O, tbs⟩ ts Q (hrw.deeper _) hgd hsp
    have o0 : OwE F H O (L2.start N vs) (startE N ts) := by
      unfold L2.start startE
      rw [sv.len]
      exact sv.start (N := N) _
    refine body Aw L Ks s1.heap.objs.size s1.gens.size _ sizeLine [] s2 _ [] _ _ id id s2 (L2.start N vs) H F O ⟨hAp, over_func, rfl, rfl, rfl, fun _ _ h => h⟩ (Nat.add_zero _) (fun n ys s₀ s' fl hn hs => ?_) hG b o0 .nil
    cases fl with
    | next =>
      obtain ⟨σ', H', hI, F', O', env, ds, b', o', fr, rr, e, _, hQ⟩ := hs
      exact seg_end (.ok (.ret .none)) ⟨ys, .non, σ', H', hn, hI, rfl, rfl, F', O', ds, b', rr, hQ⟩
    | brk => obtain ⟨_, _, _, _, _, _, _, _, _, _, _, _, q, _⟩ := hs; cases q
    | cont => obtain ⟨_, _, _, _, _, _, _, _, _, _, _, _, q, _⟩ := hs; cases q
    | ret u => obtain ⟨_, _, _, _, _, _, _, _, _, _, _, _, _, _, _, _, _, _, q, _⟩ := hs; cases q
  exact main _ _ _ _ rfl rfl rfl fun h => Heap.get?_push_size _ rfl
end QL

/-! GRn: a method that gives a generator, called at a temporary. -/
namespace QL
open PySem PySem.Spec PyProof.Rows L2 GenW GR
structure Mf2 (P : Program) (w : World) (K : PySem.W.Frag) (mg : Str → Option Value) (base : Heap) (Tq : List (Addr × Str)) (k : Nat) (C : Addr) (m : Str) (ps : List Str) (sp : List T → (List D → Prop) → Prop) : Prop where
  ex : ∃ f fd, Gn2 P w K mg base Tq k f fd ps sp ∧ Cls K C ∧ Meth K C m f ∧ Binds K fd ps []
section
variable {Tq : List (Addr × Str)} {Z : Zb Tq} {X : Cx} {env : Env}
/-- an expression whose value is a generator that has not begun; all that it hands out -/
def GenE (Z : Zb Tq) (X : Cx) (k : Nat) (e : Expr) (env : Env) (P : List D → Env → Prop) : Prop :=
  ∀ (pins : List (Addr × Obj)) (s : Shared) (σ : L2.St) (H F : Hp) (O : List Addr) (S : Addr) (Ls : List Addr) (c : Nat), Inv X pins σ H s → Bas Z F H O → OwE F H O σ env → (S, L2.lstObj #[] c) ∈ X.pn ++ pins → (∀ L ∈ Ls, S < L ∧ ∃ o, (L, o) ∈ X.pn ++ pins) → (∀ b ∈ frs X.stack, b < S) → X.base.objs.size ≤ S →
    wpAny (model X.prog X.w) X.A (eval e X.env) (fun u s' => ∃ s2 H2 Q2, s.gens.size ≤ s2.gens.size ∧ Inv X pins σ H2 s2 ∧ GMade2 X.prog X.w k X.stack H2 s2 S Ls Q2 u s' ∧ ∀ ys H', Q2 ys H' → ∃ F' O' ds env', Bas Z F' H' O' ∧ OwE F' H' O' σ env' ∧ RpA F' ys ds ∧ P ds env') X.xe s
theorem gen_meth0 {k : Nat} {C : Addr} {m : Str} {ps : List Str} {sp : List T → (List D → Prop) → Prop} {o : Expr} {apos pos : Pos} {P : List D → Env → Prop} {pl : Sem Bool} (G : Mf2 X.prog X.w X.K X.mg X.base Tq k C m ps sp) (hr : Room k X.A)
    (h : WE Z X o env fun r e1 => methTR [] Z X C m r e1 fun tx as e2 => sp [tx] fun ds => P ds e2)
    (ht : eval (.Call (.Attribute o m apos) [] [] pos) X.env = (do
      let ov ← eval o X.env
      standAt apos.atName
      let (f, first) ← holding [ov] (getMethod ov m pl)
      callWith pos f first (backTo pos (starEach [] X.env)) (backToKw pos (keywordEach [] X.env))) := by rfl) :
    GenE Z X k (.Call (.Attribute o m apos) [] [] pos) env P := fun pins s σ H F O S Ls cS I b o0 hS hLs hold hbs => by
  obtain ⟨f, fd, g, c, hm, hb⟩ := G.ex
  refine PySem.W.methodCall_KW (pl := pl) (wpAny_gsz (n := s.gens.size) (Nat.le_refl _) (wpAny_mono (h pins s σ H F O I b o0) (fun u s1 ⟨v, H1, I1, rx, F1, O1, r, e1, b1, st, fr, q⟩ hsz => ?_) fun _ _ x _ => x)) ht
  obtain ⟨a, fs, dx, vs, Oa, Ob, rfl, ha, hl, rfl, o1, wx, q⟩ := methTR_ok st q
  obtain rfl : u = Value.ref a := rx
  refine getmeth_ok I1 ha c hm hl ?_
  replace q : sp [.ins a C fs] fun ds => P ds e1 := q
  have hl2 : ([Value.ref a] ++ []).length = ps.length := by
    rw [← g.len _ _ q]
    rfl
  have hb2 := hb s1 [Value.ref a] I1.kIn hl2
  rw [List.append_nil] at hb2
  obtain ⟨p1, p2, p3, p4, p5⟩ := I1.pin (S, L2.lstObj #[] cS) hS
  have fl : FillL X.base X.stack H1 s1 S Ls := ⟨⟨cS, p1⟩, p2, fun hm => by
    rcases List.mem_cons.mp (I1.stkSub S hm) with z | z
    · exact p3 z
    · exact p4 z, hold, hbs, fun L hL => by
      obtain ⟨g1, o, g2⟩ := hLs L hL
      obtain ⟨r1, r2, r3, r4, r5⟩ := I1.pin (L, o) g2
      exact ⟨g1, r2, fun hm => by
        rcases List.mem_cons.mp (I1.stkSub L hm) with z | z
        · exact r3 z
        · exact r4 z, o, r1, r5⟩⟩
  have pm : (Oa ++ Ob).Perm (Ob ++ Oa) := List.perm_append_comm
  have bc := (b1.perm pm).left.entry
  have ex : ∀ c ∈ Oa, Held H1 c := o1.held
  have sv : StV F1 H1 (Ob ++ []) [.ref a] [.ins a C fs] := .cons wx .nil
  rw [List.append_nil] at sv
  refine PySem.W.callWith_K0 (first := [.ref a]) I1.kIn hm.kp ?_
  refine wpAny_call (codeAny_mono (g.run X.A X.stack s1 H1 ⟨[.ref a], []⟩ [.ref a] [.ref a] F1 Ob [.ins a C fs] _ (b1.perm pm).left.tabs S Ls hr I1.env0 hb2 (.cons rfl .nil) bc sv q fl) fun rs s' hq => ?_)
  cases rs with
  | error e => exact hq.elim
  | ok f =>
    cases f with
    | next => exact hq.elim
    | brk => exact hq.elim
    | cont => exact hq.elim
    | ret u =>
      refine ⟨s1, H1, _, hsz, I1, hq, fun ys H' ⟨F', O', ds, b', rr, hp⟩ => ?_⟩
      have fr := b'.abs
      have b3 := Bas.frame fr (b1.perm pm) b' ex
      have keep := fr.rest (R := Oa) (pm.nodup b1.nd) ex
      exact ⟨F', Oa, ds, e1, (b3.perm List.perm_append_comm).left, o1.stay fr.fz keep, rr, hp⟩
end
end QL

/-! GRo: a generator def that delegates to another. -/
namespace GR
open PySem
open Sem (wp)
section
variable {M : Model} {A : Around} {R : GenEnd} {Y : Protocol} {n : Nat} {s₀ : Shared} {c : Code} {fs : List Frame} {s : Shared}
theorem sg1_bind_wrap {α β : Type} {m : Sem α} {K : α → Sem β} {K' : β → Sem PySem.Fin} {H' : Value → Sem PySem.Fin} {gd : Bool → Bool} {lv : List Value → List Value}
    (h : wpAny M (A.over c fs) m (fun a s' => Sg1 M A R Y n s₀ c ((K a).wrap K' H' gd lv) fs s') (fun x s' => Sg1 M A R Y n s₀ c (H' x) fs s') s) : Sg1 M A R Y n s₀ c ((m >>= K).wrap K' H' gd lv) fs s := by
  rw [Sem.bind_eq_wrap', Sem.wrap_wrap]; exact sg1_wrap h
theorem sg1w_bind2 {α β γ : Type} {m : Sem α} {f : α → Sem β} {f2 : β → Sem γ} {K : γ → Sem PySem.Fin} {J : Value → Sem PySem.Fin} {gd : Bool → Bool} {lv : List Value → List Value}
    (h : wpAny M (A.over c fs) m (fun a s' => Sg1 M A R Y n s₀ c ((f a).wrap (fun b => (f2 b).wrap K J gd lv) J gd lv) fs s') (fun x s' => Sg1 M A R Y n s₀ c (J x) fs s') s) :
    Sg1 M A R Y n s₀ c (((m >>= f) >>= f2).wrap K J gd lv) fs s := by
  rw [Sem.bind_eq_wrap' (m >>= f) f2, Sem.wrap_wrap]
  exact sg1_bind_wrap h
theorem sg1_func {prog : Program} {w : World} {env : PySem.Env} {body : List Stmt}
    (h : Sg1 (model prog w) A R Y n s₀ (.func body env) ((execs body env).wrap (fun f => .pure (.done (.ret (match f with | .ret v => v | _ => .none))))
      (fun e => (leaving env e).wrap (fun _ => .raise e) .raise id id) id id) fs s) :
    Sg1 (model prog w) A R Y n s₀ (.func body env) ((model prog w).den (.func body env)) fs s := by
  show Sg1 _ A R Y n s₀ _ (.point [] fun _ => ((execs body env).onRaise (leaving env)) >>= _) fs s
  refine sg1_point ?_
  rw [Sem.onRaise_eq_wrap, Sem.bind_eq_wrap', Sem.wrap_wrap]
  rw [Sem.wrap_congr (execs body env) _ _ (K' := fun f => .pure (.done (.ret (match f with | .ret v => v | _ => .none))))
    (H' := fun e => (leaving env e).wrap (fun _ => .raise e) .raise id id) (fun f => by cases f <;> rfl)
    (fun e => by rw [Sem.bind_eq_wrap, Sem.wrap_wrap]; rfl)]
  exact h
theorem over_yf {c' : Code} {k : Result → Sem PySem.Fin} {g : Bool} {l kp : List Value} {p : Pos} (hw : c'.weight = 0) (hu : c'.cUnits = 1) :
    A.over c' (.ret k none g l c p kp :: fs) = (A.over c fs).in1 := by
  have e2 : A.depth + frameCount ((Frame.ret k none g l c p kp :: fs).map Frame.where_) + c'.weight = A.depth + frameCount (fs.map Frame.where_) + c.weight := by
    show A.depth + frameCount ((c, p) :: fs.map Frame.where_) + c'.weight = _
    rw [frameCount_cons, hw]; omega
  have e3 : pushEnvs c'.envs (pushEnvs (envsOf ((Frame.ret k none g l c p kp :: fs).map Frame.where_)) A.frames) = pushEnvs c.envs (pushEnvs (envsOf (fs.map Frame.where_)) A.frames) := by
    show pushEnvs c'.envs (pushEnvs (envsOf ((c, p) :: fs.map Frame.where_)) A.frames) = _
    rw [Code.envs_of_weight hw, envsOf_cons]
    simp only [pushEnvs_eq]
    cases A.frames <;> simp [List.append_assoc]
  have e4 : pushGuards c'.guards (pushGuards (guardsOf ((Frame.ret k none g l c p kp :: fs).map Frame.where_)) A.guards) = pushGuards c.guards (pushGuards (guardsOf (fs.map Frame.where_)) A.guards) := by
    show pushGuards c'.guards (pushGuards (guardsOf ((c, p) :: fs.map Frame.where_)) A.guards) = _
    rw [Code.guards_of_weight hw, guardsOf_cons]
    simp only [pushGuards_eq]
    cases A.guards <;> simp [List.append_assoc]
  have e5 : A.units + unitsOf ((Frame.ret k none g l c p kp :: fs).map Frame.where_) + c'.cUnits = A.units + unitsOf (fs.map Frame.where_) + c.cUnits + 1 := by
    show A.units + unitsOf ((c, p) :: fs.map Frame.where_) + c'.cUnits = _
    rw [unitsOf_cons, hu]; omega
  have e1 : (marksOver (Frame.ret k none g l c p kp :: fs) (A.handled, A.handled)).1 = (marksOver fs (A.handled, A.handled)).1 := rfl
  show (⟨(marksOver (Frame.ret k none g l c p kp :: fs) (A.handled, A.handled)).1, A.depth + frameCount ((Frame.ret k none g l c p kp :: fs).map Frame.where_) + c'.weight,
    pushEnvs c'.envs (pushEnvs (envsOf ((Frame.ret k none g l c p kp :: fs).map Frame.where_)) A.frames), pushGuards c'.guards (pushGuards (guardsOf ((Frame.ret k none g l c p kp :: fs).map Frame.where_)) A.guards),
    A.units + unitsOf ((Frame.ret k none g l c p kp :: fs).map Frame.where_) + c'.cUnits⟩ : Around) = _
  rw [e1, e2, e3, e4, e5]
  rfl
end
end GR
namespace QL
open PySem PySem.Spec PyProof.Rows L2 GenW GR
/-- the context of its body -/
abbrev BX1 (P : Program) (w : World) (K : PySem.W.Frag) (mg : Str → Option Value) (base : Heap) (N : List Str) (qual : Str) (st : Stmt) (f : Addr) (cdv : Value) (A : Around) (outer : List PySem.Env) (s : Shared) (H : Hp) (pn : List (Addr × Obj)) : Cx :=
  { gcxOf P w K mg base N qual (defScope st) f cdv A outer s H (fun _ _ _ => False) pn with xe := fun _ _ => False }
theorem sg1_yfP {P : Program} {w : World} {X : Cx} {S : Addr} {Ls : List Addr} {a a1 : Addr} {g g1 : Nat} {A : Around} {R1 : GenEnd} {fs : List Frame} {sc : Shared} {Q : List V → Hp → Prop} (hP : X.prog = P) (hw : X.w = w) (hA : Apart2 X S Ls a) (hne : a1 ≠ a) (hg1 : g ≠ g1) (hh : (A.over (yfC a) fs).handled = none) (hsp : splitAtGen fs = none) (hgd : fs.any Frame.guarded = false) (hroom : (A.over (yfC a) fs).depth < recursionLimit)
    (keepA : ∀ ys σ H s₀ s, GI2 X S Ls a g s₀ ys σ H s → s.os = sc.os ∧ s.heap.IsGen a1 g1)
    (hend : ∀ (n : Nat) (s₀ sw : Shared) (ys : List V) (σ : L2.St) (H : Hp) (s1 s3 : Shared), n + ys.length = sizeLine → GI2 X S Ls a g sw ys σ H s1 → (∀ L ∈ Ls, ∀ o, s₀.heap.get? L = some o → s1.heap.get? L = some o) → s3.os = s1.os → AllBare s3.gens → (∀ b o, s1.heap.get? b = some o → s3.heap.get? b = some o) → Q ys H →
      Sg1 (model P w) A R1 (YItem1 sc S Ls a1 g1) n s₀ (yfC a) (.pure (.done (.ret .none))) fs s3)
    (n : Nat) (s₀ s : Shared) (gs : GenState) (o : Obj) (hgs : s.gens[g]? = some gs) (ho : s.heap.get? a = some o) (ok : GenO g o) (hl : s.heap.NoLimit) (hLk : ∀ L ∈ Ls, ∀ o, s₀.heap.get? L = some o → s.heap.get? L = some o)
    (hgo : gs.Goes (model P w) (A.over (yfC a) fs).in1 (GR2 X S Ls a g fun ys v H => v = .non ∧ Q ys H) (GY2 X S Ls a g) n (.send .none) (s.setGen g .running)) :
    Sg1 (model P w) A R1 (YItem1 sc S Ls a1 g1) n s₀ (yfC a) ((model P w).den (yfC a)) fs s := by
  subst hP hw
  exact sg1_yf hA hne hg1 hh hsp hgd hroom keepA hend n s₀ s gs o hgs ho ok hl hLk hgo
/-- what a call gives: a generator that has not begun -/
def GMade1 (P : Program) (w : World) (k : Nat) (outer : List PySem.Env) (H : Hp) (s : Shared) (Q : List V → Hp → Prop) (u : Value) (s' : Shared) : Prop :=
  ∃ (a g : Nat) (c : Code), u = .ref a ∧ s.heap.objs.size ≤ a ∧ a < s'.heap.objs.size ∧ s'.heap.IsGen a g ∧ s'.gens[g]? = some (.fresh c) ∧ s'.os = s.os ∧ AllBare s'.gens ∧ s'.heap.NoLimit ∧ (∀ b o, s.heap.get? b = some o → s'.heap.get? b = some o) ∧
    ∀ (A : Around) (S : Addr) (Ls : List Addr) (s2 : Shared), Room k A → A.frames = some outer → A.guards = some [] → s'.heap.objs.size ≤ S → (∀ b o, s'.heap.get? b = some o → s2.heap.get? b = some o) → (∃ c, s2.heap.get? S = some (L2.lstObj #[] c)) → (∀ L ∈ Ls, S < L ∧ ∃ o, s2.heap.get? L = some o ∧ ∀ v, o.data ≠ .cell v) → s2.os = s.os → AllBare s2.gens → g < s2.gens.size →
      Sg1 (model P w) A (REnd1 P w outer H s S Ls Q) (YItem1 s S Ls a g) sizeLine s2 c ((model P w).den c) [] s2
structure Gn1 (P : Program) (w : World) (K : PySem.W.Frag) (mg : Str → Option Value) (base : Heap) (Tq : List (Addr × Str)) (k : Nat) (f : Addr) (fd : FuncData) (ps : List Str) (sp : List T → (List D → List (Option T) → Prop) → Prop) : Prop where
  len : ∀ ts Q, sp ts Q → ts.length = ps.length
  run : ∀ (A : Around) (outer : List PySem.Env) (s : Shared) (H : Hp) (args : Args) (us : List Value) (vs : List V) (F : Hp) (O : List Addr) (ts : List T) (Q : List D → List (Option T) → Prop) (tbs : TabZ Tq H F O),
    Room k A → Env0 P w K mg base A outer s H → BindsTo s fd args (ps.zip us) → Vals vs us → Bas ⟨H, F, O, tbs⟩ F H O → StV F H O vs ts → sp ts Q →
    codeAny (model P w) A (.call (.ref f) args) (fun r s' => match r with | .ok (.ret u) => GMade1 P w k outer H s (fun ys H' => ∃ F' O' ts' ds, Bas ⟨H, F, O, tbs⟩ F' H' O' ∧ StVO F' H' O' vs ts' ∧ RpA F' ys ds ∧ Q ds ts') u s' | _ => False) s
theorem gn1_of {P : Program} {w : World} {K : PySem.W.Frag} {mg : Str → Option Value} {base : Heap} {Tq : List (Addr × Str)} {x qual : Str} {st : Stmt} {f : Addr} {fd : FuncData} {N ps : List Str} {k : Nat} {sp : List T → (List D → List (Option T) → Prop) → Prop} {e : Expr} {yp pos : Pos} (Fn : Fun K x qual st f fd) (S : GScope N ps (defScope st)) (len : ∀ ts Q, sp ts Q → ts.length = ps.length) (hst : defBody st = [.Expr (.YieldFrom e yp) pos]) (hi : ∀ L f cd, interactive (envOfC qual (defScope st) L f cd) = false)
    (hbody : ∀ (cdv : Value) (A : Around) (outer : List PySem.Env) (s : Shared) (H : Hp) (pn : List (Addr × Obj)) (Z : Zb Tq) (ts : List T) (Q : List D → List (Option T) → Prop), Room (k + 2) (BX1 P w K mg base N qual st f cdv A outer s H pn).A → (BX1 P w K mg base N qual st f cdv A outer s H pn).A.guards = some [] →
      sp ts Q → GenE Z (BX1 P w K mg base N qual st f cdv A outer s H pn) k e (startE N ts) fun ds e' => back ts e' (Q ds)) : Gn1 P w K mg base Tq (k + 3) f fd ps sp := by
  obtain ⟨oc, od, kV, doc, pm, an, cdv, ct, osl, rfl, lk, hcd⟩ := Fn.ex
  refine ⟨len, fun A outer s H args us vs F O ts Q tbs hr e0 hb r b sv hsp => ?_⟩
  have hl : vs.length = ps.length := sv.len.trans (len _ _ hsp)
  have KX : K.In s.heap := e0.mod.kin.keeps fun b o e => (e0.bs b o e).1
  have lim : s.heap.NoLimit := e0.mod.nolimit.keeps fun b o e => (e0.bs b o e).1
  have hkind : ∀ y ∈ ps.zip us, (defScope st).names.lookup y.1 = some .local ∨ ((defScope st).names.lookup y.1 = some .cell ∧ ((cellsFrom (s.heap.objs.size + 1) (defScope st).names []).lookup y.1).isSome = true) := fun ⟨n, v⟩ hy => by
    rcases S.par n (List.of_mem_zip hy).1 with q | q
    · exact .inl q
    · exact .inr ⟨q, PySem.W.cellsFrom_some _ _ _ (.inl q)⟩
  refine codeAny_call_generator hr.depth (KX _ _ lk) rfl S.co S.gen rfl (PySem.W.codeRec_of KX hcd) (hb _ _ _ _ ?_)
  refine wpAny_newFunctionEnv_cells S.kind hkind fun env he s1 ic => ?_
  subst he
  have lim1 : s1.heap.NoLimit := lim.keeps ic.toInCall.keep
  refine ⟨lim1, ?_⟩
  obtain ⟨h1, tk, es1, hk1⟩ := ic.done
  have os1 : s1.os = s.os := by rw [es1]
  have gen1 : s1.gens = s.gens := by rw [es1]
  have lt1 : s.heap.objs.size < s1.heap.objs.size := ic.toInCall.ns.lt
  have sz1 : s.heap.objs.size ≤ s1.heap.objs.size := Nat.le_of_lt lt1
  have kp1 : ∀ b o, s.heap.get? b = some o → s1.heap.get? b = some o := ic.toInCall.keep
  have main : ∀ (go : Obj) (nm qn : Value) (tk2 : Nat), go.cls = .type "generator" → go.data = .fields #[.int s1.gens.size 0, nm, qn] → go.slots = #[] → (∀ h : Heap, (h.push go).get? h.objs.size = some go) →
      GMade1 P w (k + 3) outer H s (fun ys H' => ∃ F' O' ts' ds, Bas ⟨H, F, O, tbs⟩ F' H' O' ∧ StVO F' H' O' vs ts' ∧ RpA F' ys ds ∧ Q ds ts') (.ref s1.heap.objs.size) { s1 with gens := s1.gens.push (.fresh (.func (defBody st) (envOfC qual (defScope st) s.heap.objs.size f cdv))), toks := tk2, heap := s1.heap.push go } := by
    intro go nm qn tk2 hgc hgd0 hgs hgp
    have hpushed : (s1.heap.push go).get? s1.heap.objs.size = some go := hgp _
    refine ⟨s1.heap.objs.size, s1.gens.size, _, rfl, sz1, ?_, ⟨go, nm, qn, hpushed, hgc, hgd0, hgs⟩, Array.getElem?_push_size .., os1, ?_, lim1.keeps fun b o e => Heap.get?_push_of_some _ e, fun b o e => Heap.get?_push_of_some _ (kp1 b o e), ?_⟩
    · show _ < (s1.heap.push _).objs.size
      rw [Heap.size_push]; exact Nat.lt_succ_self _
    · exact AllBare.push (by rw [gen1]; exact e0.bare) rfl
    intro Aw Sx Ks s2 hrw hfr hgw hSx hk2 hSo hKs hos hba hgsz
    have e0w : Env0 P w K mg base Aw outer s H := ⟨hfr, e0.mod, e0.bs, e0.bsz, e0.funs, e0.frf, e0.hok, e0.bare⟩
    have I1 : Inv (gcxOf P w K mg base N qual (defScope st) f cdv Aw outer s H (fun _ _ _ => False) []) [] (L2.start N vs) H s1 := inv_startG S hrw.hd e0w hl r ic
    have kp2 : ∀ b o, s1.heap.get? b = some o → s2.heap.get? b = some o := fun b o e => hk2 b o (Heap.get?_push_of_some _ e)
    have I2 : Inv (gcxOf P w K mg base N qual (defScope st) f cdv Aw outer s H (fun _ _ _ => False) []) [] (L2.start N vs) H s2 :=
      I1.call' (ch := []) (hos.trans os1.symm) (Un.kept kp2) (I1.hok.kept kp2) hba fun b z => by simp at z
    have hSz : s1.heap.objs.size < Sx := by
      have hSx' : (s1.heap.push go).objs.size ≤ Sx := hSx
      rw [Heap.size_push] at hSx'
      exact hSx'
    obtain ⟨cS, heS⟩ := hSo
    have hea : s2.heap.get? s1.heap.objs.size = some go := hk2 s1.heap.objs.size go hpushed
    have hgd : ∀ v, go.data ≠ .cell v := fun v q => by rw [hgd0] at q; cases q
    have young : ∀ b, s1.heap.objs.size ≤ b → H b = none ∧ b ≠ s.heap.objs.size ∧ b ∉ frs outer := fun b hb =>
      ⟨I1.hok.fresh hb, Nat.ne_of_gt (Nat.lt_of_lt_of_le lt1 hb), I1.nofs hb⟩
    obtain ⟨los, elos, hlos⟩ := los_of (P := fun b o => s2.heap.get? b = some o ∧ Sx < b ∧ ∀ v, o.data ≠ .cell v) (Ls := Ks) fun b hb => by
      obtain ⟨g1, o, g2, g3⟩ := hKs b hb
      exact ⟨o, g2, g1, g3⟩
    have J0 : Inv (gcxOf P w K mg base N qual (defScope st) f cdv Aw outer s H (fun _ _ _ => False) [(s1.heap.objs.size, go)]) ((Sx, L2.lstObj #[] cS) :: los) (L2.start N vs) H s2 := Inv.pinnedG I2 fun p hp => by
      rcases List.mem_append.mp hp with z | z
      · rw [List.mem_singleton.mp z]
        obtain ⟨y1, y2, y3⟩ := young s1.heap.objs.size (Nat.le_refl _)
        exact ⟨hea, y1, y2, y3, hgd⟩
      rcases List.mem_cons.mp z with z | z
      · rw [z]
        obtain ⟨y1, y2, y3⟩ := young Sx (Nat.le_of_lt hSz)
        exact ⟨heS, y1, y2, y3, fun v q => by cases q⟩
      · obtain ⟨g1, g2, g3⟩ := hlos p z
        obtain ⟨y1, y2, y3⟩ := young p.1 (Nat.le_of_lt (Nat.lt_trans hSz g2))
        exact ⟨g1, y1, y2, y3, g3⟩
    have J : Inv (BX1 P w K mg base N qual st f cdv Aw outer s H [(s1.heap.objs.size, go)]) ((Sx, L2.lstObj #[] cS) :: los) (L2.start N vs) H s2 :=
      ⟨⟨J0.ok.mod, J0.ok.kind, J0.ok.glob, J0.ok.blt, J0.ok.above, J0.ok.inj, J0.ok.has, J0.ok.cab, J0.ok.hd, J0.ok.frames, J0.ok.stk, J0.ok.exf, J0.ok.bs, J0.ok.bsz, J0.ok.noex, J0.ok.exfs, J0.ok.funs, J0.ok.frf⟩, J0.os, J0.bare, J0.base, J0.loc, J0.cell, J0.free, J0.freeC, J0.pin, J0.hok, J0.len⟩
    have hA1 : (BX1 P w K mg base N qual st f cdv Aw outer s H [(s1.heap.objs.size, go)]).A.guards = some [] := hgw
    have o0 : OwE F H O (L2.start N vs) (startE N ts) := by
      unfold L2.start startE
      rw [sv.len]
      exact sv.start (N := N) _
    have ge := hbody cdv Aw outer s H [(s1.heap.objs.size, go)] ⟨H, F, O, tbs⟩ ts Q (hrw.deeper _) hA1 hsp
    have hold : ∀ b ∈ frs (BX1 P w K mg base N qual st f cdv Aw outer s H [(s1.heap.objs.size, go)]).stack, b < Sx := fun b hb => by
      have hb' := J.stkSub b hb
      rcases List.mem_cons.mp hb' with z | z
      · rw [z]
        exact Nat.lt_trans lt1 hSz
      · refine Nat.lt_of_not_le fun q => ?_
        exact I1.nofs (Nat.le_trans (Nat.le_of_lt hSz) q) z
    have hbs : base.objs.size ≤ Sx := Nat.le_trans e0.bsz (Nat.le_of_lt (Nat.lt_trans lt1 hSz))
    refine sg1_func ?_
    rw [hst, execs_cons_wrap, exec_Expr _ _ pos (hi _ _ _) rfl]
    refine sg1_at ?_
    refine sg1w_bind2 (m := eval e _) (f := fun v => (standAt yp >>= fun _ => yieldFrom _ v)) (f2 := fun v => dropValue (.YieldFrom e yp) pos v) ?_
    rw [over_func]
    refine wpAny_mono (ge _ s2 _ H F O Sx Ks cS J b o0 (List.mem_append_right _ List.mem_cons_self) (fun b hb => by
      rw [← elos] at hb
      obtain ⟨p, hp, rfl⟩ := List.mem_map.mp hb
      exact ⟨(hlos p hp).2.1, p.2, List.mem_append_right _ (List.mem_cons_of_mem _ hp)⟩) hold hbs) (fun u s3 hu => ?_) fun x s' hx => hx.elim
    obtain ⟨sm, H2, Q2, hgm, Jm, ⟨a, g, c2, rfl, ha1, ha2, hgen, rfl, hgens, osm, bare2, lim2, keep2, run2⟩, bk⟩ := hu
    have hT : s3.TypeIs (.ref a) "generator" := hgen.typeIs
    refine sg1_at ?_
    show Sg1 _ _ _ _ _ _ _ ((yieldFrom (envOfC qual (defScope st) s.heap.objs.size f cdv) (.ref a)).wrap _ _ _ _) _ _
    unfold yieldFrom
    refine sg1_bind_wrap (wpAny_typeOf hT ?_)
    rw [if_neg (by decide)]
    refine sg1_bind_wrap (wpAny_holding (wpAny_pyIter_gen hgen ?_))
    refine sg1_call fun p => ?_
    obtain ⟨q1, q2, q3, q4, _⟩ := Jm.pin (Sx, L2.lstObj #[] cS) (List.mem_append_right _ List.mem_cons_self)
    obtain ⟨r1, r2, r3, r4, _⟩ := Jm.pin (s1.heap.objs.size, go) (List.mem_append_left _ List.mem_cons_self)
    have hSm : Sx < sm.heap.objs.size := Heap.lt_size q1
    have hne : s1.heap.objs.size ≠ a := Nat.ne_of_lt (Nat.lt_of_lt_of_le (Nat.lt_trans hSz hSm) ha1)
    have hg1 : sm.gens.size ≠ s1.gens.size := Nat.ne_of_gt (Nat.lt_of_lt_of_le hgsz hgm)
    have hrX : Room (k + 2) (BX1 P w K mg base N qual st f cdv Aw outer s H [(s1.heap.objs.size, go)]).A := hrw.deeper _
    have hfX : (BX1 P w K mg base N qual st f cdv Aw outer s H [(s1.heap.objs.size, go)]).A.in1.in1.frames = some (BX1 P w K mg base N qual st f cdv Aw outer s H [(s1.heap.objs.size, go)]).stack := J.ok.frames
    have hgX : (BX1 P w K mg base N qual st f cdv Aw outer s H [(s1.heap.objs.size, go)]).A.in1.in1.guards = some [] := hA1
    obtain ⟨X2, hP2, hw2, hAp, facts, seg⟩ := run2 _ (s3.setGen sm.gens.size .running) hrX.in1.in1 hfX hgX (fun _ _ e => e) osm (allBare_setGen bare2 rfl)
    obtain ⟨g2, nm2, qn2, hg2o, hg2c, hg2d, hg2s⟩ := hgen
    have hgat : s3.gens[sm.gens.size]? = some (.fresh c2) := by
      rw [hgens]
      exact Array.getElem?_push_size ..
    have nst : s1.heap.objs.size ∉ frs (BX1 P w K mg base N qual st f cdv Aw outer s H [(s1.heap.objs.size, go)]).stack := fun hm => by
      rcases List.mem_cons.mp (J.stkSub _ hm) with z | z
      · exact r3 z
      · exact r4 z
    refine sg1_yfP (A := Aw) (Q := Q2) hP2 hw2 hAp hne hg1 ?_ rfl rfl ?_ (fun ys σ H' sw s4 hI => ?_) (fun n s₀ sw ys σ H' sA sB hn hI hLk hos' hb' hk' hQ => ?_) sizeLine s2 s3 (.fresh c2) g2 hgat hg2o ⟨hg2c, ⟨nm2, qn2, hg2d⟩, .inl hg2s⟩ lim2 (fun b hb o e => ?_) ?_
    · rw [over_yf (plainId_weight plain_yf _) (plainId_units plain_yf _), over_func]
      exact hrX.hd
    · rw [over_yf (plainId_weight plain_yf _) (plainId_units plain_yf _), over_func]
      exact hrX.in1.depth
    · obtain ⟨f1, f2, f3, f4⟩ := facts ys σ H' sw s4 hI
      refine ⟨f1.trans Jm.os, go, nm, qn, ?_, hgc, hgd0, hgs⟩
      exact f3.keep s1.heap.objs.size go (by rw [trunc_lt hSz]; exact r1) r2 nst (by simp)
    · obtain ⟨f1, f2, f3, f4⟩ := facts ys σ H' sw sA hI
      obtain ⟨z1, z2, ⟨acc, cc, z3, z4⟩, _⟩ := hI.at
      obtain ⟨F', O', ds, env', b', o', rr, q⟩ := bk ys H' hQ
      obtain ⟨O1, Od, ts', p1, s5, q⟩ := back_ok sv o' q
      refine sg1_leaf (.ok (.ret .none)) ?_
      show Sg1 _ _ _ _ n s₀ _ (leafOf (.ok (.ret .none))) [] sB
      refine sg1_end (.ok (.ret .none)) ⟨rfl, fun L hL o e => hk' _ _ (hLk L hL o e), H', ys, acc, cc, hos'.trans (f1.trans Jm.os), hb', ?_, f4.kept hk', ⟨z1, fun L hL => let ⟨_, _, _, _, n, _⟩ := hI.oth L hL; n⟩, hk' _ _ z4, z3, by omega, F', O1, ts', ds, (b'.perm p1).left, s5, rr, q⟩
      exact (un_glue (envs := []) (L := s.heap.objs.size) Jm.base f3 (Nat.le_of_lt (Nat.lt_of_le_of_lt sz1 hSz)) (Nat.le_refl _)).trans (Un.kept hk')
    · rw [← elos] at hb
      obtain ⟨p, hp, rfl⟩ := List.mem_map.mp hb
      have h2 := (hlos p hp).1
      rw [h2] at e
      obtain rfl := Option.some.inj e
      exact keep2 _ _ (Jm.pin p (List.mem_append_right _ (List.mem_cons_of_mem _ hp))).1
    · rw [over_yf (plainId_weight plain_yf _) (plainId_units plain_yf _), over_func]
      exact ⟨rfl, seg⟩
  exact main _ _ _ _ rfl rfl rfl fun h => Heap.get?_push_size _ rfl
end QL

/-! GRt: list(g), g a generator that delegates. -/
namespace QL
open PySem PySem.Spec PyProof.Rows L2 GenW GR
section
variable {P : Program} {w : World} {A : Around} {E : Value → Shared → Prop} {s : Shared}
theorem any_if_f {α : Type} {b : Bool} {t e : Sem α} {M : Model} {Q : α → Shared → Prop} (h : b = false) (hq : wpAny2 M A e Q E s) : wpAny2 M A (if b = true then t else e) Q E s := by
  rw [h]; exact hq
theorem any_if_t {α : Type} {b : Bool} {t e : Sem α} {M : Model} {Q : α → Shared → Prop} (h : b = true) (hq : wpAny2 M A t Q E s) : wpAny2 M A (if b = true then t else e) Q E s := by
  rw [h]; exact hq
theorem any_callSpecialA {self : Value} {rest : List Value} {T : String} {name : Str} {id : String} {Q : Option Value → Shared → Prop} (hT : s.TypeIs self T) (h : Slot T name id) (hc : wpAny2 (model P w) A (call (.builtin id) (self :: rest)) (fun v => Q (some v)) E s) : wpAny2 (model P w) A (callSpecial? self name rest []) Q E s := by
  simp only [callSpecial?]
  refine any_bindL (wpAny_specialOf hT h.lookup ?_)
  simp only [h.bind]
  exact any_holding (any_bindL (wpAny_pure (any_bind (any_mono hc (fun v s' h' => any_pure h') fun _ _ h' => h'))))
theorem callType2 {T newId initId : String} {Bi : Builtin} {u : Value} {Q : Value → Shared → Prop} {Q₁ : Value → Shared → Prop} (ft : TypeCalled T newId initId)
    (hct : checkTypeCall T ⟨[u], []⟩ = pure ()) (entryI : entryFor table initId = some Bi)
    (hnew : codeAny (model P w) A.in1 (.call (.builtin newId) ⟨.type T :: [u], []⟩) (wants Q₁ E) s)
    (hnext : ∀ obj s₁, Q₁ obj s₁ → s₁.TypeIs obj T ∧ argsOk initId ⟨obj :: [u], []⟩ ∧
      wpAny2 (model P w) A.in1.in1 (Bi ⟨obj :: [u], []⟩)
        (fun fin s' => match fin with | .done f => wants (fun r s₂ => r = .none ∧ Q obj s₂) E (.ok f) s' | .again c' => c'.quiet = true ∧ codeAny2 (model P w) A.in1 c' (wants (fun r s₂ => r = .none ∧ Q obj s₂) E) s')
        (fun e s' => wants (fun r s₂ => r = .none ∧ Q obj s₂) E (.error e) s') s₁) :
    wpAny2 (model P w) A (call (.type T) [u]) Q E s := by
  obtain ⟨c, tl, hmro⟩ := ft.mro
  have hmade := ft.made
  have hsub := ft.sub
  refine any_call (cod_tree ?_)
  show wpAny2 _ _ (callAny (.type T) _) _ _ _
  refine any_pure ⟨Code.quiet_builtin _ (by decide +kernel), cod_builtin F.entry_type_call ?_⟩
  rw [Around.under_plain (weight_type_call_type T [u] []) rfl]
  have h1 := ft.notType
  have h2 := ft.canCreate
  unfold Builtin.«type.__call__»
  repeat (any_goals (first
    | assumption
    | wp_step
    | with_reducible refine any_pure ?_
    | with_reducible refine any_bindL ?_
    | (with_reducible apply any_if_f; focus (first | rfl | (simp [*]; done)))
    | (with_reducible apply any_if_t; focus (first | rfl | (simp [*]; done)))
    | dsimp only))
  refine codeAny_mono hnew fun r s₁ hr => ?_
  cases r with
  | error e => exact hr
  | ok fl =>
    cases fl with
    | ret obj =>
      obtain ⟨hT, hok, hsi⟩ := hnext _ _ hr
      try dsimp only
      refine any_bindL (wpAny_isInstance hT hsub ?_)
      rw [if_neg (by decide)]
      refine any_bind (any_holding (any_callSpecialA hT ft.init (any_call (cod_mono (cod_callB (R := wants (fun r s₂ => r = .none ∧ Q obj s₂) E) ft.init.plain entryI (ft.init.check _ _ _ _ _ _ _ _ hT hok hsi)) fun r₂ s₂ hr₂ => ?_))))
      cases r₂ with
      | error e => exact hr₂
      | ok fl₂ =>
        cases fl₂ with
        | ret r =>
          obtain ⟨rfl, hq⟩ := hr₂
          try dsimp only
          rw [if_neg (by decide)]
          exact any_pure hq
        | _ => exact hr₂.elim
    | _ => exact hr.elim
theorem call_list_new1 {outer : List PySem.Env} {H : Hp} {sc : Shared} {Q : List V → Hp → Prop} {k : Nat} {u : Value} {Q' : Value → Shared → Prop}
    (hr : Room (k + 3) A) (hfr : A.frames = some outer) (hgA : A.guards = some []) (h : GMade1 P w k outer H sc Q u s)
    (hQ : ∀ S s' acc c H' ys, s.heap.objs.size ≤ S → s'.heap.get? S = some (L2.lstObj acc c) → Vals ys acc.toList → ys.length ≤ sizeLine → s'.os = sc.os → AllBare s'.gens → Un (frs outer) [] H H' sc.heap s'.heap → HOk P w H' s'.heap → H' S = none → Q ys H' → Q' (.ref S) s') :
    wpAny2 (model P w) A (call (.type "list") [u]) Q' E s := by
  obtain ⟨a, g, c, rfl, ha1, ha2, hg, hgs, hos, hb, hl, hkp, wake⟩ := h
  have hgl : g < s.gens.size := (Array.getElem?_eq_some_iff.mp hgs).1
  have hSa : s.heap.objs.size ≠ a := Nat.ne_of_gt ha2
  have hcl : cStatics < s.heap.objs.size := let ⟨_, hn, _⟩ := hl; hn.lt
  have hSc : s.heap.objs.size ≠ cStatics := Nat.ne_of_gt hcl
  refine callType2 (Q₁ := fun obj s₁ => obj = .ref s.heap.objs.size ∧ s₁ = { s with heap := s.heap.push { cls := .type "list", data := .seq #[] } }) F.called_list (F.typeCall_list_1 _) F.entry_list_init
    (code_list_new _ ⟨rfl, rfl⟩) fun obj s₁ h₁ => ?_
  obtain ⟨rfl, rfl⟩ := h₁
  have hS : (s.heap.push { cls := .type "list", data := .seq #[] }).get? s.heap.objs.size = some { cls := .type "list", data := .seq #[] } := Heap.get?_push_size _ rfl
  refine ⟨⟨_, hS, rfl⟩, F.args_list_init_2 _ _, ?_⟩
  show wpAny2 _ A.in1.in1 (do let old ← Builtin.List.listItems (.ref s.heap.objs.size); Builtin.List.listUpdate (.ref s.heap.objs.size) (fun _ => #[]); letGo old.toList.reverse; Builtin.List.listExtendWith (.ref s.heap.objs.size) (.ref a) .none) _ _ _
  refine any_bindL ?_
  unfold Builtin.List.listItems
  refine wpAny_bind (wpAny_seqItems hS rfl (wpAny_pure ?_))
  show wpAny2 _ A.in1.in1 (updateSeq s.heap.objs.size (fun _ => #[]) >>= fun _ => letGo (#[] : Array Value).toList.reverse >>= fun _ => Builtin.List.listExtendWith (.ref s.heap.objs.size) (.ref a) .none) _ _ _
  refine any_bindL (wpAny_updateSeq hS rfl ?_)
  have hS2 := Heap.get?_update_self (Obj.mapSeq (fun _ => (#[] : Array Value))) hS rfl
  refine any_bindL (wpAny_letGo ?_)
  unfold Builtin.List.listExtendWith
  have up : ∀ (h : Heap) (f : Obj → Obj), (∀ b o, s.heap.get? b = some o → h.get? b = some o) → ∀ b o, s.heap.get? b = some o → (h.update s.heap.objs.size f).get? b = some o := fun h f q b o e =>
    (Heap.get?_update_other _ _ (Ne.symm (Nat.ne_of_lt (Heap.lt_size e)))).trans (q b o e)
  have k1 : ∀ b o, s.heap.get? b = some o → (s.heap.push { cls := .type "list", data := .seq #[] }).get? b = some o := fun b o e => Heap.get?_push_of_some _ e
  have k2 := up _ (Obj.mapSeq (fun _ => (#[] : Array Value))) k1
  have gty : ∀ {h : Heap}, (∀ b o, s.heap.get? b = some o → h.get? b = some o) → h.IsGen a g := fun {h} q => hg.keeps q
  refine any_bindL (wpAny_typeOf (Heap.IsGen.typeIs (s := { s with heap := _ }) (gty k2)) ?_)
  have h1 : Builtin.List.listSameRef (.ref s.heap.objs.size) (.ref a) = false := by simp [Builtin.List.listSameRef, hSa]
  have h2 : (Value.type "generator" == Value.type "list") = false := by decide
  have h3 : (Value.type "generator" == Value.type "tuple") = false := by decide
  simp only [h1, h2, h3, Bool.or_false, Bool.false_eq_true, if_false]
  refine any_bindL (wpAny_pyIter_gen (s := { s with heap := _ }) (gty k2) ?_)
  refine any_bindL (wpAny_holding ?_)
  unfold Builtin.List.listLengthHint
  refine wpAny_bind (wpAny_specialOf (Heap.IsGen.typeIs (s := { s with heap := _ }) (gty k2)) F.gen_no_len ?_)
  show wpAny _ A.in1.in1 (specialOf (Value.ref a) (Str.ofString "__length_hint__") >>= _) _ _ _
  refine wpAny_bind (wpAny_specialOf (Heap.IsGen.typeIs (s := { s with heap := _ }) (gty k2)) F.gen_no_hint ?_)
  refine wpAny_pure ?_
  show wpAny2 _ A.in1.in1 (rule "list.extend.makes-room" >>= fun _ => Builtin.List.listTouch (.ref s.heap.objs.size) >>= fun _ =>
    again (.builtin "list.extend.loop" ⟨[.ref s.heap.objs.size, .ref a, .none], []⟩)) _ _ _
  refine any_bindL (wpAny_rule ?_)
  refine any_bindL ?_
  show wpAny _ A.in1.in1 (updateSeq s.heap.objs.size (·.push .none) >>= fun _ => updateSeq s.heap.objs.size (·.pop)) _ _ _
  refine wpAny_bind (wpAny_updateSeq hS2 rfl ?_)
  have hS3 := Heap.get?_update_self (Obj.mapSeq (·.push Value.none)) hS2 rfl
  refine wpAny_updateSeq (hz := by seq_fits) hS3 rfl ?_
  have hS4 := Heap.get?_update_self (Obj.mapSeq (·.pop)) hS3 rfl
  have k4 := up _ (Obj.mapSeq (·.pop)) (up _ (Obj.mapSeq (·.push Value.none)) k2)
  refine any_pure ⟨plainId_quiet F.plain_extend_loop _, ?_⟩
  refine drain1 (P := P) (w := w) (outer := outer) (H := H) (sc := sc) (Q := Q) (A := A.in1) (g := g) hr.hd (by have := hr.dp; show A.depth < _; omega) hSa hSc
    (fun s' acc c H' ys q1 q2 q3 q4 q5 q6 q7 q8 q9 => ⟨rfl, hQ _ s' acc c H' ys (Nat.le_refl _) q1 q2 q3 q4 q5 q6 q7 q8 q9⟩)
    sizeLine _ (gty k4) (hl.keeps k4) (allBare_setGen (s := { s with heap := _ }) hb rfl) ⟨_, hgs, rfl, ?_⟩
  refine wake _ _ [] _ ⟨hr.hd, ?_, ?_⟩ hfr hgA (Nat.le_refl _) k4 ⟨_, hS4⟩ (fun _ z => nomatch z) hos (allBare_setGen (s := { s with heap := _ }) hb rfl) ?_
  · have := hr.dp
    show A.depth + 3 * k + 5 < _
    omega
  · have := hr.un
    show A.units + 1 + 1 + 1 + 16 * k + 200 < _
    omega
  · rw [setGen_size]
    exact hgl
end
end QL

/-! GRu: list(f(a, ..)), f a generator def that delegates. -/
namespace QL
open PySem PySem.Spec PyProof.Rows L2 GenW GR
abbrev SpN := List T → (List D → List (Option T) → Prop) → Prop
def callG (sp : SpN) (as : List A) (env : Env) (P : List D → Env → Prop) : Prop := deref as env fun ts e2 => sp ts fun ds ts' => putb as ts' e2 fun e3 => P ds e3
structure Dg1 (P : Program) (w : World) (K : PySem.W.Frag) (mg : Str → Option Value) (base : Heap) (Tq : List (Addr × Str)) (k : Nat) (x : Str) (ps : List Str) (sp : SpN) : Prop where
  ex : ∃ (f : Addr) (fd : FuncData), Gn1 P w K mg base Tq k f fd ps sp ∧ mg x = some (.ref f) ∧ PySem.W.keepIn K (.ref f) = true ∧ Binds K fd ps []
section
variable {Tq : List (Addr × Str)} {Z : Zb Tq} {X : Cx} {env : Env} {P : List D → Env → Prop} {e : Expr} {es : List Expr} {pos pos' : Pos}
/-- an expression that gives a generator that has not begun, nobody's list made yet -/
def GenM (Z : Zb Tq) (X : Cx) (k : Nat) (e : Expr) (env : Env) (P : List D → Env → Prop) : Prop :=
  ∀ (pins : List (Addr × Obj)) (s : Shared) (σ : L2.St) (H F : Hp) (O : List Addr), Inv X pins σ H s → Bas Z F H O → OwE F H O σ env →
    wpAny (model X.prog X.w) X.A (eval e X.env) (fun u s' => ∃ sc H2 Q2, Inv X pins σ H2 sc ∧ GMade1 X.prog X.w k X.stack H2 sc Q2 u s' ∧ ∀ ys H', Q2 ys H' → ∃ F' O' ds env', Bas Z F' H' O' ∧ OwE F' H' O' σ env' ∧ Frm Tq H F O H' F' O' ∧ RpA F' ys ds ∧ P ds env') X.xe s
theorem call_gen1 {k : Nat} {f : Addr} {fd : FuncData} {ps : List Str} {sp : SpN} {as : List A} {vs : List V} {us us0 : List Value} {kw : List (Str × Value)} {pins : List (Addr × Obj)} {s : Shared} {σ : L2.St} {H F : Hp} {O : List Addr}
    (G : Gn1 X.prog X.w X.K X.mg X.base Tq k f fd ps sp) (hr : Room k X.A) (hb : BindsTo s fd ⟨us0, kw⟩ (ps.zip us)) (I : Inv X pins σ H s) (b : Bas Z F H O) (o : OwE F H O σ env)
    (st : StAs F vs as) (r : Vals vs us) (h : callG sp as env P) : wpAny (model X.prog X.w) X.A (call (.ref f) us0 kw) (fun u s' => ∃ Q2, GMade1 X.prog X.w k X.stack H s Q2 u s' ∧ ∀ ys H', Q2 ys H' → ∃ F' O' ds env', Bas Z F' H' O' ∧ OwE F' H' O' σ env' ∧ Frm Tq H F O H' F' O' ∧ RpA F' ys ds ∧ P ds env') X.xe s := by
  obtain ⟨ts, e2, Oc, Or, pm, sv, o2, h⟩ := deref_ok st o h
  have bc := (b.perm pm).left.entry
  have ex : ∀ c ∈ Or, Held H c := o2.held
  refine wpAny_call (codeAny_mono (G.run X.A X.stack s H ⟨us0, kw⟩ us vs F Oc ts _ (b.perm pm).left.tabs hr I.env0 hb r bc sv h) fun rs s' hq => ?_)
  cases rs with
  | error e => exact hq.elim
  | ok fl =>
    cases fl with
    | next => exact hq.elim
    | brk => exact hq.elim
    | cont => exact hq.elim
    | ret u =>
      refine ⟨_, hq, fun ys H' ⟨F', O', ts', ds, b', sv', rr, q⟩ => ?_⟩
      have fr := b'.abs
      have b3 := Bas.frame fr (b.perm pm) b' ex
      have keep := fr.rest (R := Or) (pm.nodup b.nd) ex
      obtain ⟨e3, O3, Od, o3, p3, q3⟩ := putb_ok st sv' (o2.stay fr.fz keep) q
      exact ⟨F', O3, ds, e3, (b3.perm p3).left, o3, (fr.frame (R := Or)).perm (fun c => pm.symm.mem_iff) (fun c hc => p3.mem_iff.mpr (List.mem_append_left _ hc)), rr, q3⟩
/-- f(a, ..) -/
theorem gen_fn {k : Nat} {x : Str} {p : Pos} {ps : List Str} {sp : SpN} (G : Dg1 X.prog X.w X.K X.mg X.base Tq k x ps sp) (hr : Room k X.A) (h : WAs Z X (e :: es) env fun as e1 => callG sp as e1 P)
    (hg : Gl X x := by rfl) (hdb : (x == ("__debug__" : Str)) = false := by decide) (he : starEach (e :: es) X.env = (false, eval e X.env) :: starEach es X.env := by rfl) (hpl : (backTo pos (starEach es X.env)).any (·.1) = false := by rfl) :
    GenM Z X k (.Call (.Name x p) (e :: es) [] pos) env P := fun pins s σ H F O I b o => by
  obtain ⟨f, fd, g, hm, hk, hb⟩ := G.ex
  refine wpAny_Call_Name_kw (ld_glob I hg hm ?_ hdb)
  refine PySem.W.callWith_K (h₀ := X.base) I.ok.mod.kin hk (thn ((pa_As (Z := Z)).run pos pins s σ H (PostAs Z σ H F O _) I ⟨env, F, O, _, b, o, h, fun _ _ q => q⟩) fun us s1 ⟨vs, H1, I1, r, F1, O1, as, e1, b1, o1, st, fr, q⟩ => ⟨I1.kIn, ?_⟩) he hpl
  have hl : us.length = ps.length := by
    obtain ⟨ts, e2, Oc, Or, pm, sv, o2, hh⟩ := deref_ok st o1 q
    rw [← r.length, sv.len, g.len _ _ hh]
  have hb2 : BindsTo s1 fd ⟨us, []⟩ (ps.zip us) := by
    have := hb s1 us I1.kIn (by rw [List.append_nil]; exact hl)
    rwa [List.append_nil] at this
  exact thn (call_gen1 (us0 := us) (kw := []) (us := us) g hr hb2 I1 b1 o1 st r q) fun u s' ⟨Q2, gm, bk⟩ => ⟨s1, H1, Q2, I1, gm, fun ys H' hq => by
    obtain ⟨F', O', ds, env', b', o', fr', rr, q'⟩ := bk ys H' hq
    exact ⟨F', O', ds, env', b', o', fr.trans fr', rr, q'⟩⟩
/-- list(..) of it -/
theorem w2_listG {k : Nat} {p : Pos} {PR : R → Env → Prop} (hr : Room (k + 3) X.A) (hgd : X.A.guards = some []) (hm : X.mg "list" = none) (h : GenM Z X k e env fun ds e1 => ∀ a, PR (.t (.lst a ds)) e1)
    (hg : Gl X "list" := by rfl) (he : starEach [e] X.env = (false, eval e X.env) :: starEach [] X.env := by rfl) (hpl : (backTo pos (starEach [] X.env)).any (·.1) = false := by rfl) :
    WE2 Z X (.Call (.Name "list" p) [e] [] pos) env PR := fun pins s σ H F O I b o => by
  rw [arm_eval_Call_Name']
  refine any_bindL (ld_blt I hg hm (u := .type "list") rfl ?_ (by decide) (by decide))
  rw [he]
  refine any_callMachine (by show (false || (backTo pos (starEach [] X.env)).any (·.1)) = false; rw [hpl]; rfl) rfl (any_evalArgs ?_)
  show wpAny2 _ _ (spliced ((false, eval e X.env) :: backTo pos (starEach [] X.env))) _ _ s
  refine any_spliced_cons (any_of (thn (h pins s σ H F O I b o) fun u s1 ⟨sc, H2, Q2, I2, gm, bk⟩ => ?_))
  refine any_pure (a := []) ?_
  have hsz : sc.heap.objs.size ≤ s1.heap.objs.size := by
    obtain ⟨a, g, c, _, h1, h2, _⟩ := gm
    exact Nat.le_of_lt (Nat.lt_of_le_of_lt h1 h2)
  refine call_list_new1 hr I2.ok.frames hgd gm fun S s' acc c H' ys q1 q2 q3 q4 q5 q6 q7 q8 q9 q10 => ?_
  obtain ⟨F', O', ds, env', b', o', fr, rr, hq⟩ := bk ys H' q10
  exact ⟨.ref S, upd H' S (.lst ys), Inv.drained I2 (Nat.le_trans hsz q1) q4 q2 q3 ExOk.nil q5 q6 q7 q8 q9, rfl, ((NewV.lst b'.sub rr q9 (k := fun t => t = .lst S ds) rfl).post b' o' (fun t e => by subst e; exact hq S)).from fr⟩
end
end QL

/-! GRv: levels of generator promises; generators called by names; more rules of the second kind. -/
namespace QL
open PySem PySem.Spec PyProof.Rows L2 GenW GR
theorem GMade1.mono {P : Program} {w : World} {j k : Nat} {outer : List PySem.Env} {H : Hp} {s : Shared} {Q : List V → Hp → Prop} {u : Value} {s' : Shared} (g : GMade1 P w j outer H s Q u s') (h : j ≤ k) : GMade1 P w k outer H s Q u s' := by
  obtain ⟨a, g0, c, e1, e2, e3, e4, e5, e6, e7, e8, e9, r⟩ := g
  exact ⟨a, g0, c, e1, e2, e3, e4, e5, e6, e7, e8, e9, fun A S Ls s2 hr => r A S Ls s2 (hr.mono h)⟩
theorem GMade2.mono {P : Program} {w : World} {j k : Nat} {outer : List PySem.Env} {H : Hp} {s : Shared} {S : Addr} {Ls : List Addr} {Q : List V → Hp → Prop} {u : Value} {s' : Shared} (g : GMade2 P w j outer H s S Ls Q u s') (h : j ≤ k) : GMade2 P w k outer H s S Ls Q u s' := by
  obtain ⟨a, g0, c, e1, e2, e3, e4, e5, e6, e7, e8, e9, e10, r⟩ := g
  exact ⟨a, g0, c, e1, e2, e3, e4, e5, e6, e7, e8, e9, e10, fun A s2 hr => r A s2 (hr.mono h)⟩
theorem Gn1.mono {P : Program} {w : World} {K : PySem.W.Frag} {mg : Str → Option Value} {base : Heap} {Tq : List (Addr × Str)} {j k : Nat} {f : Addr} {fd : FuncData} {ps : List Str} {sp : SpN} (G : Gn1 P w K mg base Tq j f fd ps sp) (h : j ≤ k) : Gn1 P w K mg base Tq k f fd ps sp where
  len := G.len
  run := fun A outer s H args us vs F O ts Q tbs hr e b v bb st sp => codeAny_mono (G.run A outer s H args us vs F O ts Q tbs (hr.mono h) e b v bb st sp) fun r s' q => by
    cases r with
    | error e => exact q
    | ok f => cases f with
      | ret u => exact GMade1.mono q h
      | _ => exact q
theorem Gn2.mono {P : Program} {w : World} {K : PySem.W.Frag} {mg : Str → Option Value} {base : Heap} {Tq : List (Addr × Str)} {j k : Nat} {f : Addr} {fd : FuncData} {ps : List Str} {sp : List T → (List D → Prop) → Prop} (G : Gn2 P w K mg base Tq j f fd ps sp) (h : j ≤ k) : Gn2 P w K mg base Tq k f fd ps sp where
  len := G.len
  run := fun A outer s H args us vs F O ts Q tbs S Ls hr e b v bb st sp fl => codeAny_mono (G.run A outer s H args us vs F O ts Q tbs S Ls (hr.mono h) e b v bb st sp fl) fun r s' q => by
    cases r with
    | error e => exact q
    | ok f => cases f with
      | ret u => exact GMade2.mono q h
      | _ => exact q
theorem Dg1.mono {P : Program} {w : World} {K : PySem.W.Frag} {mg : Str → Option Value} {base : Heap} {Tq : List (Addr × Str)} {j k : Nat} {x : Str} {ps : List Str} {sp : SpN} (G : Dg1 P w K mg base Tq j x ps sp) (h : j ≤ k) : Dg1 P w K mg base Tq k x ps sp :=
  let ⟨f, fd, g, r⟩ := G.ex; ⟨f, fd, g.mono h, r⟩
theorem Mf2.mono {P : Program} {w : World} {K : PySem.W.Frag} {mg : Str → Option Value} {base : Heap} {Tq : List (Addr × Str)} {j k : Nat} {C : Addr} {m : Str} {ps : List Str} {sp : List T → (List D → Prop) → Prop} (G : Mf2 P w K mg base Tq j C m ps sp) (h : j ≤ k) : Mf2 P w K mg base Tq k C m ps sp :=
  let ⟨f, fd, g, r⟩ := G.ex; ⟨f, fd, g.mono h, r⟩
structure Dg1K (P : Program) (w : World) (K : PySem.W.Frag) (mg : Str → Option Value) (base : Heap) (Tq : List (Addr × Str)) (k : Nat) (x : Str) (ps ks : List Str) (ns : List Nat) (sp : SpN) : Prop where
  ex : ∃ (f : Addr) (fd : FuncData), Gn1 P w K mg base Tq k f fd ps sp ∧ mg x = some (.ref f) ∧ PySem.W.keepIn K (.ref f) = true ∧ KwOk K fd ps ks ns
theorem Dg1K.mono {P : Program} {w : World} {K : PySem.W.Frag} {mg : Str → Option Value} {base : Heap} {Tq : List (Addr × Str)} {j k : Nat} {x : Str} {ps ks : List Str} {ns : List Nat} {sp : SpN} (G : Dg1K P w K mg base Tq j x ps ks ns sp) (h : j ≤ k) : Dg1K P w K mg base Tq k x ps ks ns sp :=
  let ⟨f, fd, g, r⟩ := G.ex; ⟨f, fd, g.mono h, r⟩
section
variable {Tq : List (Addr × Str)} {Z : Zb Tq} {X : Cx} {env : Env} {P : List D → Env → Prop} {e : Expr} {es : List Expr} {pos pos' : Pos} {kws : List Keyword}
/-- f(x=a, ..) -/
theorem gen_fnK {k : Nat} {x : Str} {p : Pos} {ps ks : List Str} {ns : List Nat} {sp : SpN} (G : Dg1K X.prog X.w X.K X.mg X.base Tq k x ps ks ns sp) (hr : Room k X.A) (h : WKs Z X kws env fun as e1 => as.length = ks.length ∧ callG sp (pick ns as) e1 P)
    (hks : (backToKw pos (keywordEach kws X.env)).filterMap (·.1) = ks := by rfl) (hall : (backToKw pos (keywordEach kws X.env)).all (·.1.isSome) = true := by rfl)
    (hg : Gl X x := by rfl) (hdb : (x == ("__debug__" : Str)) = false := by decide) (hpl : ((backTo pos (starEach [] X.env)).any (·.1) || (backToKw pos (keywordEach kws X.env)).any (·.1.isNone)) = false := by rfl) :
    GenM Z X k (.Call (.Name x p) [] kws pos) env P := fun pins s σ H F O I b o => by
  obtain ⟨f, fd, g, hm, hk, hb⟩ := G.ex
  refine wpAny_Call_Name_kw (ld_glob I hg hm ?_ hdb)
  refine PySem.W.callWith_KW0 (h₀ := X.base) (first := []) I.ok.mod.kin hk hall (thn ((pk_Ks (Z := Z)).run pos pins s σ H (PostAs Z σ H F O _) I ⟨env, F, O, _, b, o, h, fun _ _ q => q⟩) fun us s1 ⟨vs, H1, I1, r, F1, O1, as, e1, b1, o1, st, fr, hl, q⟩ => ⟨I1.kIn, ?_⟩) hpl
  rw [hks]
  exact thn (call_gen1 (us0 := []) (us := pick ns us) g hr (hb s1 us I1.kIn (by rw [← r.length, st.len]; exact hl)) I1 b1 o1 (st.pick ns) (vals_pick r ns) q) fun u s' ⟨Q2, gm, bk⟩ => ⟨s1, H1, Q2, I1, gm, fun ys H' hq => by
    obtain ⟨F', O', ds, env', b', o', fr', rr, q'⟩ := bk ys H' hq
    exact ⟨F', O', ds, env', b', o', fr.trans fr', rr, q'⟩⟩
end

/-! ### xs.append(e), e of the second kind -/
end QL

namespace K08
open PySem PySem.Spec PyProof.Rows L2 QL
open LM GR GenW
abbrev tD (l : List Int) : D := .tuple (iDs l)
def spLays (aC : Addr) : List T → (List D → Prop) → Prop := fun ts Q => ∃ (a : Addr) (wd : Int) (ws : List Int) (p : Addr), ts = [.ins a aC (choF wd ws ws.length p)] ∧ Wd wd ws ∧ layM wd ws ws.length ≤ 1000000 ∧ Q ((lays wd ws).map tD)
def sD (st : Stk) : List D := st.map fun x => .tuple [.int (x.1 : Int), tD x.2]
theorem sD_snoc (st : Stk) (p : Nat) (e : List Int) : sD (st ++ [(p, e)]) = sD st ++ [.tuple [.int (p : Int), tD e]] := by
  unfold sD
  rw [List.map_append]; rfl
theorem sD_kids (wd : Int) (ws : List Int) (st : Stk) (p : Nat) (e : List Int) : sD st ++ ((chB wd ws p).reverse.map fun (b : Nat) => PyData.tuple [.int (b : Int), .tuple (.int (p : Int) :: (iDs e ++ []))]) = sD (st ++ kids wd ws p e) := by
  rw [List.append_nil]
  unfold sD kids
  rw [List.map_append, List.map_map]; rfl
theorem mes_one (wd : Int) (ws : List Int) (p : Nat) (e : List Int) : mesS wd ws [(p, e)] = layM wd ws p := by
  unfold mesS
  simp
theorem out_one (wd : Int) (ws : List Int) (p : Nat) (e : List Int) : outS wd ws [(p, e)] = layA wd ws p e := by
  unfold outS
  simp
theorem lay_iDs : ∀ l : List Int, PyData.canLayAll0 (iDs l) = true
  | [] => rfl
  | x :: l => by
    simp only [iDs, List.map_cons, PyData.canLayAll0, PyData.canLay0, Bool.true_and]
    exact lay_iDs l
theorem lay_sD : ∀ st : Stk, PyData.canLayAll0 (sD st) = true
  | [] => rfl
  | x :: st => by
    have h := lay_sD st
    unfold sD at h ⊢
    simp only [List.map_cons, PyData.canLayAll0, PyData.canLay0, lay_iDs, Bool.true_and, Bool.and_true]
    exact h
theorem dep_iDs (l : List Int) : PyData.depthAll (iDs l) ≤ 0 := depthAll_map fun x _ => Nat.le_refl _
theorem sD_shaped (st : Stk) : SeqAt.shaped (.list (sD st)) = true := by
  have hl : PyData.canLay0 (.list (sD st)) = true := by simp only [PyData.canLay0]; exact lay_sD st
  have hd : PyData.depthAll (sD st) ≤ 4 := depthAll_map fun x _ => by
    have := dep_iDs x.2
    simp only [PyData.depth, PyData.depthAll]
    omega
  unfold SeqAt.shaped
  rw [hl, decide_eq_true (by simp only [PyData.depth]; omega)]
  rfl
theorem last_at (l : List D) (x : D) : (l ++ [x])[(l ++ [x]).length - 1]? = some x := by simp
theorem sD_ne {st : Stk} {p : Nat} {e : List Int} (h : (!PyData.eqv (.list (sD (st ++ [(p, e)]))) (.list [])) = false) : False := by
  obtain ⟨y, l, z⟩ : ∃ y l, sD (st ++ [(p, e)]) = y :: l := by
    rw [sD_snoc]
    cases sD st with
    | nil => exact ⟨_, _, rfl⟩
    | cons y l => exact ⟨_, _, rfl⟩
  rw [z] at h
  first
    | (simp [PyData.eqv, PyData.eqvAll] at h; done)
    | (simp [PyData.eqv] at h; done)
    | cases h
theorem stk_cases (st : Stk) : st = [] ∨ ∃ st0 p e, st = st0 ++ [(p, e)] := by
  rcases List.eq_nil_or_concat st with h | ⟨l, x, h⟩
  · exact .inl h
  · exact .inr ⟨l, x.1, x.2, by rw [h, List.concat_eq_append]⟩
section
variable {P : Program} {w : World} {K : PySem.W.Frag} {mg : Str → Option Value} {base : Heap} {Tq : List (Addr × Str)}
abbrev N_Choices_layouts : List Str := ["self", "waiting", "place", "ends", "begin"]
theorem sc_Choices_layouts : GScope N_Choices_layouts ["self"] (defScope (inClass (topS 6) 2)) := ⟨rfl, rfl, rfl, by decide +kernel, rfl, by decide +kernel, by decide +kernel⟩
theorem g_Choices_layouts {f : Addr} {fd : FuncData} {k : Nat} {aChoices : Addr} (Fn : Fun K "layouts" "Choices.layouts" (inClass (topS 6) 2) f fd) (TX : Txt_Choices K aChoices) (m_reversed : mg "reversed" = none) : Gn2 P w K mg base Tq (k + 1) f fd ["self"] (spLays aChoices) := by
  refine gn2_of Fn sc_Choices_layouts (fun ts Q h => ?_) fun cdv A outer s H L0 Z ts Q hr hgd h => ?_
  · obtain ⟨a, wd, ws, p, rfl, W, hM, q⟩ := h; rfl
  · obtain ⟨a, wd, ws, p, rfl, W, hM, q⟩ := h
    have hlen := W.len
    -- line 63
    refine wgs_cons (wg_plain (ws_set 1 (w_lst ⟨rfl, (w_tup ⟨rfl, (w_fld (w_var 0 ⟨rfl, ⟨TX.cl, TX.n_count⟩, ⟨rfl, (w_tup ⟨(by first | decide | (simp only [List.length_append, List.length_map, List.length_cons, List.length_nil, List.length_singleton, List.length_replicate, List.length_range, List.length_take, List.length_drop, List.length_dropLast, List.length_reverse, Bool.false_eq_true, eq_self, reduceIte, sizeLine_eq]; omega)), ⟨(by first | decide | (simp only [List.length_append, List.length_map, List.length_cons, List.length_nil, List.length_singleton, List.length_replicate, List.length_range, List.length_take, List.length_drop, List.length_dropLast, List.length_reverse, Bool.false_eq_true, eq_self, reduceIte, sizeLine_eq]; omega)), ⟨(by first | decide | (simp only [List.length_append, List.length_map, List.length_cons, List.length_nil, List.length_singleton, List.length_replicate, List.length_range, List.length_take, List.length_drop, List.length_dropLast, List.length_reverse, Bool.false_eq_true, eq_self, reduceIte, sizeLine_eq]; omega)), fun p1 => ⟨Nat.lt_of_sub_eq_succ rfl, ?_⟩⟩⟩⟩)⟩⟩))⟩)⟩) sc_Choices_layouts.nd))
    show WGs _ _ _ _ _ _
    refine wgs_cons (wg_while (fun m ds e => ∃ (st : Stk) (out : List (List Int)) (o2 o3 : Option T), stkOk ws st ∧ m = mesS wd ws st ∧ mesS wd ws st ≤ 1000000 ∧ ds = out.map tD ∧ out ++ outS wd ws st = lays wd ws ∧ e = [some (.ins a aChoices (choF wd ws ws.length p)), some (.lst p1 (sD st)), o2, o3, none]) (layM wd ws ws.length) ?h0 ?hs)
    case h0 => exact ⟨[(ws.length, [])], [], none, none, (fun x hx => by rw [List.mem_singleton.mp hx]; exact Nat.le_refl _), (mes_one wd ws _ _).symm, (by rw [mes_one]; exact hM), rfl, (by rw [out_one]; rfl), rfl⟩
    case hs =>
      rintro m ds e ⟨st, out, o2, o3, hok, rfl, hm, rfl, heq, rfl⟩
      refine (wt_cmp (dop_ne (room64 hr)) (w_var 1 (w_lst ⟨(by first | decide | (simp only [List.length_append, List.length_map, List.length_cons, List.length_nil, List.length_singleton, List.length_replicate, List.length_range, List.length_take, List.length_drop, List.length_dropLast, List.length_reverse, Bool.false_eq_true, eq_self, reduceIte, sizeLine_eq]; omega)), fun p2 => ⟨rfl, rfl, (sD_shaped st), (by rfl), _, rfl, ⟨fun h => ?_, fun h => ?_⟩⟩⟩)))
      · rcases stk_cases st with rfl | ⟨st0, pl, ee, rfl⟩
        · exact absurd h (by decide)
        rw [sD_snoc]
        have hpe : pl + ee.length ≤ ws.length := hok (pl, ee) (List.mem_append_right _ List.mem_cons_self)
        have hpl : pl ≤ ws.length := by omega
        have hel : (iDs ee).length = ee.length := List.length_map _
        have hsd : (sD st0).length = st0.length := List.length_map _
        have hok0 : stkOk ws st0 := fun x hx => hok x (List.mem_append_left _ hx)
        have hsl := stk_le W hok
        rw [List.length_append, List.length_singleton] at hsl
        -- line 65
        refine wgs_cons (wg_plain (ws_asg (pg_tup (by rfl) (pgs_cons (pg_name (i := 2) sc_Choices_layouts.nd rfl (by first | exact Or.inl rfl | exact Or.inr rfl)) (pgs_cons (pg_name (i := 3) sc_Choices_layouts.nd rfl (by first | exact Or.inl rfl | exact Or.inr rfl)) (pgs_nil)))) (gok_tup (gsok_cons (gok_name 2) (gsok_cons (gok_name 3) (gsok_nil)))) (w_pop (w_var 1 ⟨_, _, _, _, _, rfl, rfl, (last_at _ _), ⟨_, rfl, rfl, ⟨Nat.lt_of_sub_eq_succ rfl, ⟨Nat.lt_of_sub_eq_succ rfl, ⟨rfl, ?_⟩⟩⟩⟩⟩))))
        show WGs _ _ _ _ _ _
        rw [List.dropLast_concat]
        refine wgs_cons (wg_if (wt_cmp (dop_eq (room64 hr)) (w_var 2 (w_int ⟨rfl, rfl, _, rfl, ⟨fun h2 => ?_, fun h2 => ?_⟩⟩))))
        · skip
          have hp0 : pl = 0 := by
            have h3 : (((pl : Nat) : Int) == 0) = true := h2
            have := eq_of_beq h3
            omega
          subst hp0
          have hout : (out.map tD).length < sizeLine := by
            have h4 := congrArg List.length heq
            have h5 := lay_le W ws.length ws.length [] (Nat.le_refl _) (Nat.le_refl _)
            rw [List.length_append] at h4
            unfold lays at h4
            rw [List.length_map, sizeLine_eq]
            omega
          refine wgs_cons (wg_yield hout (w_var 3 ⟨_, rfl, ?_⟩))
          refine wgs_nil ?_
          show WGs _ _ _ _ _ _
          refine wgs_nil ?_
          rw [outS_snoc] at heq
          rw [mesS_app, mes_one, layM_zero] at hm
          refine ⟨mesS wd ws st0, by rw [mesS_app, mes_one, layM_zero]; omega, st0, out ++ [ee], _, _, hok0, rfl, by omega, by rw [List.map_append]; rfl, by rw [List.append_assoc]; exact heq, rfl⟩
        · skip
          have hp0 : 0 < pl := by
            refine Nat.pos_of_ne_zero fun z => ?_
            subst z
            exact absurd h2 (by decide)
          have hat := chK_at wd ws (m := ws.length) (e := pl) hp0 hpl
          have hcl := chB_len (wd := wd) (ws := ws) (e := pl)
          have hmk := mesS_kids W hp0 hpl ee st0
          -- line 69
          refine wgs_cons (wg_plain (ws_expr (w_extend (w_var 1 ⟨_, _, _, _, rfl, rfl, (w_lc (own := [("begin", 4)]) rfl sc_Choices_layouts.nd (blkOk_by (N := N_Choices_layouts) (sc := defScope (inClass (topS 6) 2)) (by decide +kernel)) (fun _ _ _ _ _ => pg_name (i := 4) sc_Choices_layouts.nd rfl (by first | exact Or.inl rfl | exact Or.inr rfl)) (gok_name 4) (by decide) (wi_rev m_reversed (w_dix (by first | exact lt1 (room64 hr) | (have := room64 hr; omega)) (w_fld (w_var 0 ⟨rfl, ⟨TX.cl, TX.n_begins_of⟩, (w_var 2 ⟨rfl, rfl, _, .inl _, _, rfl, rfl, hat, (lc_map fm_name (fun (b : Nat) => PyData.int (b : Int)) ((chB wd ws pl).reverse) (fun (b : Nat) => PyData.tuple [.int (b : Int), .tuple (.int (pl : Int) :: (iDs ee ++ []))]) _ rfl ((by simp [nDs])) (by rw [List.length_reverse, sizeLine_eq]; omega) (fun k2 b hx => by skip; exact ⟨Nat.lt_of_sub_eq_succ rfl, fun s2 H2 C2 cl2 fp2 => (w_tup ⟨rfl, (w_var 4 ⟨rfl, (w_tupX ⟨rfl, (w_var 2 ⟨rfl, (w_var 3 ⟨(by first | decide | (simp only [List.length_append, List.length_map, List.length_cons, List.length_nil, List.length_singleton, List.length_replicate, List.length_range, List.length_take, List.length_drop, List.length_dropLast, List.length_reverse, Bool.false_eq_true, eq_self, reduceIte, sizeLine_eq]; omega)), ⟨(by first | decide | (simp only [List.length_append, List.length_map, List.length_cons, List.length_nil, List.length_singleton, List.length_replicate, List.length_range, List.length_take, List.length_drop, List.length_dropLast, List.length_reverse, Bool.false_eq_true, eq_self, reduceIte, sizeLine_eq]; omega)), ⟨rfl, rfl⟩⟩⟩)⟩)⟩)⟩)⟩)⟩) (fun p3 => ⟨rfl, _, _, rfl, rfl, (by first | decide | (simp only [List.length_append, List.length_map, List.length_cons, List.length_nil, List.length_singleton, List.length_replicate, List.length_range, List.length_take, List.length_drop, List.length_dropLast, List.length_reverse, Bool.false_eq_true, eq_self, reduceIte, sizeLine_eq]; omega)), ?_⟩))⟩)⟩)))))⟩))))
          show WGs _ _ _ _ _ _
          refine wgs_nil ?_
          show WGs _ _ _ _ _ _
          refine wgs_nil ?_
          rw [sD_kids]
          refine ⟨mesS wd ws (st0 ++ kids wd ws pl ee), by omega, st0 ++ kids wd ws pl ee, out, _, _, kids_ok W hpe hok0, rfl, by omega, rfl, by rw [outS_kids W hp0 hpl]; exact heq, rfl⟩
      · skip
        rcases stk_cases st with rfl | ⟨st0, pl, ee, rfl⟩
        · show WGs _ _ _ _ _ _
          refine wgs_nil ?_
          have e : out = lays wd ws := by rw [← heq]; unfold outS; simp
          rw [e]
          exact ⟨_, rfl, q⟩
        · exact (sD_ne h).elim
end
def spBestL : SpN := fun ts Q => ∃ (wd : Int) (ws : List Int), ts = [.va (.int wd), .va (.tuple (iDs ws))] ∧ Wd wd ws ∧ layM wd ws ws.length ≤ 1000000 ∧ Q ((lays wd ws).map tD) [none, none]
section
variable {P : Program} {w : World} {K : PySem.W.Frag} {mg : Str → Option Value} {base : Heap} {Tq : List (Addr × Str)}
abbrev N_best_layouts : List Str := ["width", "text"]
theorem sc_best_layouts : GScope N_best_layouts ["width", "text"] (defScope (topS 8)) := ⟨rfl, rfl, rfl, by decide +kernel, rfl, by decide +kernel, by decide +kernel⟩
theorem g_best_layouts {f : Addr} {fd : FuncData} {k : Nat} {aChoices : Addr} (Fn : Fun K "best_layouts" "best_layouts" (topS 8) f fd) (C_Choices : Ck P w K mg base Tq (k + 1) "Choices" aChoices ["self", "width", "text"] (spChInit aChoices)) (M_layouts : Mf2 P w K mg base Tq k aChoices "layouts" ["self"] (spLays aChoices)) : Gn1 P w K mg base Tq (k + 3) f fd ["width", "text"] spBestL := by
  refine gn1_of Fn sc_best_layouts (fun ts Q h => ?_) rfl (fun _ _ _ => rfl) fun cdv A outer s H pn Z ts Q hr hgd h => ?_
  · obtain ⟨wd, ws, rfl, W, hM, q⟩ := h; rfl
  · obtain ⟨wd, ws, rfl, W, hM, q⟩ := h
    refine gen_meth0 M_layouts (hr.mono (by omega)) (w_make C_Choices hr hgd ⟨rfl, (w_var 0 ⟨rfl, (w_var 1 fun pN1 => ⟨_, wd, ws, rfl, W, fun p => ⟨rfl, rfl, ⟨⟨rfl, rfl⟩, ?_⟩⟩⟩)⟩)⟩)
    exact ⟨_, wd, ws, _, rfl, W, hM, q⟩
end
end K08

namespace K08
open PySem PySem.Spec PyProof.Rows L2 QL
open LM GR
theorem ints_sh70 {α : Type} (f : α → Int) (xs : List α) : SeqAt.shaped (.list (xs.map fun x => PyData.int (f x))) = true := by
  have hl : PyData.canLay0 (.list (xs.map fun x => PyData.int (f x))) = true := by
    simp only [PyData.canLay0]
    induction xs with
    | nil => rfl
    | cons x r ih => simp only [List.map_cons, PyData.canLayAll0, PyData.canLay0, Bool.true_and]; exact ih
  have hd : PyData.depthAll (xs.map fun x => PyData.int (f x)) ≤ 0 := depthAll_map fun x _ => Nat.le_refl _
  unfold SeqAt.shaped
  rw [hl, decide_eq_true (by simp only [PyData.depth]; omega)]
  rfl
theorem tiny_tN70 {wd : Int} {ws : List Int} {ns : List Nat} {e : Nat} (c : Lay wd ws ns e) (he : e ≤ 15) : Tiny 16 1 (tN ns) := by
  have h : TinyA (1 * ns.length) 0 (nDs ns) := .map fun x hx => tiny_i (by have := c.mem x hx; omega)
  have := c.len
  exact h.tup.le (by omega) (Nat.le_refl _)
theorem lays_tN70 {wd : Int} {ws : List Int} (W : Wd wd ws) : (lays wd ws).map tD = (layN wd ws).map tN := by
  rw [lays_layN W, List.map_map]
  exact List.map_congr_left fun ns _ => by show PyData.tuple (iDs (ns.map fun (n : Nat) => (n : Int))) = PyData.tuple (nDs ns); rw [← nDs_eq]
theorem tiny_lay70 {wd : Int} {ws : List Int} (W : Wd wd ws) (h : ws.length ≤ 9) : Tiny 8300 2 (.list ((layN wd ws).map tN)) := by
  have t : TinyA (16 * (layN wd ws).length) 1 ((layN wd ws).map tN) := .map fun ns hn => tiny_tN70 ((layN_mem W ns).mp hn).1 (by omega)
  have h1 := lay_le W ws.length ws.length [] (Nat.le_refl _) (Nat.le_refl _)
  have h2 := layM_pow W ws.length ws.length (Nat.le_refl _) (Nat.le_refl _)
  have h3 : 2 ^ ws.length ≤ 2 ^ 9 := Nat.pow_le_pow_right (by decide) h
  have h4 := congrArg List.length (lays_layN W)
  rw [List.length_map] at h4
  have h5 : (lays wd ws).length ≤ layM wd ws ws.length := h1
  exact t.lst.le (by omega) (Nat.le_refl _)
theorem layM_le70 {wd : Int} {ws : List Int} (W : Wd wd ws) (h : ws.length ≤ 10) : layM wd ws ws.length ≤ 1000000 := by
  have h2 := layM_pow W ws.length ws.length (Nat.le_refl _) (Nat.le_refl _)
  have h3 : 2 ^ ws.length ≤ 2 ^ 10 := Nat.pow_le_pow_right (by decide) h
  omega
def spRight : Spc := fun ts QT _ => ∃ (p : Addr) (n a b c : Int), ts = [.lst p (potD a b c)] ∧ PotOk n a b c ∧ n ≤ 800000 ∧ ∀ a' b' c', PotOk (n + 200) a' b' c' → QT (.va (.bool true)) [some (.lst p (potD a' b' c'))]
section
variable {P : Program} {w : World} {K : PySem.W.Frag} {mg : Str → Option Value} {base : Heap} {Tq : List (Addr × Str)}
abbrev N__law_right : List Str := ["_law_pot_here", "_law_wide", "_law_row_here", "_law_kept", "_law_some", "_law_ends", "_law_due"]
theorem sc__law_right : FnScope N__law_right ["_law_pot_here"] (defScope (topS 18)) := ⟨rfl, rfl, rfl, by decide +kernel, rfl, by decide +kernel, by decide +kernel⟩
theorem g__law_right {f : Addr} {fd : FuncData} {k : Nat} (Fn : Fun K "_law_right" "_law_right" (topS 18) f fd) (G__law_chosen : Df P w K mg base Tq k "_law_chosen" ["_law_some"] spChosen) (G__law_plans : Df P w K mg base Tq k "_law_plans" ["_law_wide", "_law_row_here"] spPlansN) (G__law_row : Df P w K mg base Tq k "_law_row" ["_law_pot_here", "_law_wide", "_law_most"] spRow) (G__law_squares : Df P w K mg base Tq k "_law_squares" ["_law_wide", "_law_row_here", "_law_ends"] spSq2) (G__law_take : Df P w K mg base Tq k "_law_take" ["_law_pot_here", "_law_upto"] spTake) (G_count_best : Df P w K mg base Tq k "count_best" ["width", "text"] spCount) (K_count_best : Dk P w K mg base Tq k "count_best" ["width", "text"] ["text", "width"] [1, 0] spCount) (m_len : mg "len" = none) (m_list : mg "list" = none) (m_repr : mg "repr" = none) (m_sum : mg "sum" = none) (D_best_layouts : Dg1 P w K mg base Tq k "best_layouts" ["width", "text"] spBestL) (DK_best_layouts : Dg1K P w K mg base Tq k "best_layouts" ["width", "text"] ["text", "width"] [1, 0] spBestL) : FnG2 P w K mg base Tq (k + 4) f fd ["_law_pot_here"] spRight := by
  have G__law_chosen := G__law_chosen.mono (Nat.le_add_right k 3)
  have G__law_plans := G__law_plans.mono (Nat.le_add_right k 3)
  have G__law_row := G__law_row.mono (Nat.le_add_right k 3)
  have G__law_squares := G__law_squares.mono (Nat.le_add_right k 3)
  have G__law_take := G__law_take.mono (Nat.le_add_right k 3)
  have G_count_best := G_count_best.mono (Nat.le_add_right k 3)
  have K_count_best := K_count_best.mono (Nat.le_add_right k 3)
  refine fn_g2 Fn sc__law_right (fun ts Q E h => ?_) fun cdv A outer s H E Z ts QT ET hr hgd hp tk h => ?_
  · obtain ⟨pt, n, a, b, c, rfl, hpot, hn, q⟩ := h; rfl
  · obtain ⟨pt, n, a, b, c, rfl, hpot, hn, q⟩ := h
    have hu := room110 hr
    -- line 118
    refine wss2_consL (ws_set 1 (w_bin dop_add (w_int (w_fn G__law_take hr hgd ⟨rfl, (w_var 0 ⟨rfl, (w_int ⟨rfl, ⟨_, _, _, _, _, _, rfl, (by assumption), (by omega), ⟨by omega, by omega⟩, fun a1 b1 c1 d_1 hp_1 h0_1 h1_1 => ⟨rfl, rfl, ⟨rfl, rfl, ⟨Nat.lt_of_sub_eq_succ rfl, ?_⟩⟩⟩⟩⟩)⟩)⟩))) sc__law_right.nd)
    obtain ⟨wd, hwd⟩ : ∃ wd, wd = 1 + d_1 := ⟨_, rfl⟩
    rw [← hwd]
    show WSs2 _ _ _ [_, _, _, _, _, _, _] _
    -- line 119
    refine wss2_consL (ws_set 2 (w_fn G__law_row hr hgd ⟨rfl, (w_var 0 ⟨rfl, (w_var 1 ⟨rfl, (w_int ⟨rfl, ⟨_, _, _, _, _, _, _, rfl, (by assumption), (by omega), ⟨by omega, by omega⟩, ⟨by omega, by omega⟩, fun a2 b2 c2 ws hp_2 hl_2 hr_2 => ⟨rfl, rfl, ⟨Nat.lt_of_sub_eq_succ rfl, ?_⟩⟩⟩⟩)⟩)⟩)⟩) sc__law_right.nd)
    have W : Wd wd ws := ⟨by omega, by omega, by omega, hr_2⟩
    have p9 : 2 ^ ws.length ≤ 2 ^ 9 := Nat.pow_le_pow_right (by decide) (by omega)
    show WSs2 _ _ _ [_, _, _, _, _, _, _] _
    -- line 120
    refine wss2_consL (ws_set 3 (w_callB (dc_repr0 hgd hu) m_repr rfl ⟨rfl, (w_var 2 ⟨rfl, ⟨_, rfl, (sh_row W (by omega)), ⟨Nat.lt_of_sub_eq_succ rfl, ?_⟩⟩⟩)⟩) sc__law_right.nd)
    show WSs2 _ _ _ [_, _, _, _, _, _, _] _
    -- line 121
    refine wss2_consL (ws_setLc 4 (own := [("_law_ends", 5)]) rfl sc__law_right.nd (blkOk_by (N := N__law_right) (sc := defScope (topS 18)) (by decide +kernel)) (fun _ _ _ _ _ => pg_name (i := 5) sc__law_right.nd rfl (by first | exact Or.inl rfl | exact Or.inr rfl)) (gok_name 5) (by decide) (wi_list (w_fn G__law_plans hr hgd ⟨rfl, (w_var 1 ⟨rfl, (w_var 2 ⟨wd, ws, rfl, W, (by omega), fun pv fs hfs hlen hnd => (lc_map fm_name (tN) (fs) (fun ns => enS (cost wd ws ns, ns)) _ rfl (rfl) (by rw [sizeLine_eq]; omega) (fun k2 x hx => by have hc := (hfs x).mp (List.mem_of_getElem? hx); exact ⟨Nat.lt_of_sub_eq_succ rfl, fun s2 H2 C2 cl2 fp2 => (w_tup ⟨rfl, (w_callB (dc_sumA rfl) m_sum rfl ⟨rfl, (w_sl (w_fn G__law_squares hr hgd ⟨rfl, (w_var 1 ⟨rfl, (w_var 2 ⟨rfl, (w_var 5 ⟨_, _, _, _, rfl, (by assumption), (by assumption), (by omega), fun p_4 => (w_neg (w_int ⟨rfl, ⟨_, rfl, ⟨rfl, fun p2 => ⟨rfl, ⟨_, (.inl (congrArg (fun z => [PyData.list z]) (cut_dropLast PyData.int _))), ⟨rfl, (w_var 5 ⟨(by first | decide | (simp only [List.length_append, List.length_map, List.length_cons, List.length_nil, List.length_singleton, List.length_replicate, List.length_range, List.length_take, List.length_drop, List.length_dropLast, List.length_reverse, Bool.false_eq_true, eq_self, reduceIte, sizeLine_eq]; omega)), ⟨rfl, rfl⟩⟩)⟩⟩⟩⟩⟩⟩))⟩)⟩)⟩)⟩))⟩)⟩)⟩) (fun p1 => ⟨Nat.lt_of_sub_eq_succ rfl, ?_⟩))⟩)⟩)⟩)))
    have eS : fs.map (fun ns => enS (cost wd ws ns, ns)) = (fs.map fun ns => (cost wd ws ns, ns)).map enS := by rw [List.map_map]; rfl
    rw [eS]
    show WSs2 _ _ _ [_, _, _, _, _, _, _] _
    obtain ⟨hS0, hS1, hS2⟩ := priced_side W (cost wd ws) hfs hlen (by omega)
    -- line 122
    refine wss2_consL (ws_set 6 (w_fn G__law_chosen hr hgd ⟨rfl, (w_varF 4 ⟨_, rfl, hS0, hS1, hS2, fun m1 pd hm1 hm2 => ⟨Nat.lt_of_sub_eq_succ rfl, ?_⟩⟩)⟩) sc__law_right.nd)
    have eD := lays_desc W hnd hfs (chosen_best W hfs hm1 hm2).1
    rw [eD]
    have eL := lays_tN70 W
    have hM := layM_le70 W (by omega)
    have hT := tiny_lay70 W (by omega)
    have hcn : (((layN wd ws).map tN).length : Int) = cntB wd ws := by rw [List.length_map]; exact layN_cnt W
    have hcb : 0 ≤ cntB wd ws ∧ cntB wd ws ≤ 100000 := by
      have h1 := lay_le W ws.length ws.length [] (Nat.le_refl _) (Nat.le_refl _)
      have h2 := layM_pow W ws.length ws.length (Nat.le_refl _) (Nat.le_refl _)
      have h4 := congrArg List.length (lays_layN W)
      rw [List.length_map] at h4
      have h5 : (lays wd ws).length ≤ layM wd ws ws.length := h1
      have h6 := layN_cnt W
      omega
    have T2 : Tiny 10 3 (.list [.int (cntB wd ws), .int (cntB wd ws)]) := by
      have z : TinyA 0 2 [] := ⟨rfl, Nat.le_refl _, Nat.zero_le _⟩
      exact (((tiny_i (i := cntB wd ws) (by omega)).le (Nat.le_refl _) (by decide)).cons (((tiny_i (i := cntB wd ws) (by omega)).le (Nat.le_refl _) (by decide)).cons z)).lst.le (by decide) (by decide)
    have T4 : Tiny 20000 3 (.list [.list ((layN wd ws).map tN), .list ((layN wd ws).map tN)]) := by
      have z : TinyA 0 2 [] := ⟨rfl, Nat.le_refl _, Nat.zero_le _⟩
      exact (hT.cons (hT.cons z)).lst.le (by decide) (by decide)
    show WSs2 _ _ _ [_, _, _, _, _, _, _] _
    -- line 123
    refine wss2_consL (ws_if (wt_cmp (dop_ne (room64 hr)) (w_callB (dc_repr0 hgd hu) m_repr rfl ⟨rfl, (w_lst ⟨rfl, (w_fn G_count_best hr hgd ⟨rfl, (w_var 1 ⟨rfl, (w_var 2 ⟨wd, ws, rfl, W, ⟨rfl, (w_fnK K_count_best hr hgd (w_var 2 (w_var 1 ⟨rfl, ⟨wd, ws, rfl, W, ⟨(Nat.le_of_lt (small2000 (n := 2) (by decide))), fun p3 => ⟨rfl, ⟨_, rfl, (T2.show (by decide) (by decide)), (w_callB (dc_repr0 hgd hu) m_repr rfl ⟨rfl, (w_bin dop_mul (w_lst ⟨rfl, (w_callB dc_len m_len rfl ⟨rfl, (w_varF 6 ⟨rfl, ⟨(Nat.le_of_lt (small2000 (n := 1) (by decide))), fun p4 => (w_int ⟨rfl, rfl, ⟨by decide, by decide, by rw [sizeLine_eq]; show 1 * 2 ≤ _; decide⟩, fun p5 => ⟨rfl, ⟨_, rfl, (by rw [hcn]; exact T2.show (by decide) (by decide)), ⟨rfl, rfl, _, rfl, ⟨fun h => ?_, fun h => ?_⟩⟩⟩⟩⟩)⟩⟩)⟩)⟩))⟩)⟩⟩⟩⟩⟩)))⟩⟩)⟩)⟩)⟩)⟩)))
    · rw [hcn] at h; exact ne_self h
    refine wss2_nil ?_
    show WSs2 _ _ _ [_, _, _, _, _, _, _] _
    -- line 125
    refine wss2_cons (ws2_if (wt2_cmp (dop_ne (room64 hr)) (w2_callB (dc_repr0 hgd hu) m_repr rfl ⟨rfl, (w2_lst ⟨rfl, (w2_listG (k := k) hr hgd m_list (gen_fn D_best_layouts (hr.mono (by omega)) ⟨rfl, (w_var 1 ⟨rfl, (w_var 2 ⟨wd, ws, rfl, W, hM, fun p6 => ⟨rfl, (w2_listG (k := k) hr hgd m_list (gen_fnK DK_best_layouts (hr.mono (by omega)) (w_var 2 (w_var 1 ⟨rfl, ⟨wd, ws, rfl, W, hM, fun p7 => ⟨(by first | decide | (simp only [List.length_append, List.length_map, List.length_cons, List.length_nil, List.length_singleton, List.length_replicate, List.length_range, List.length_take, List.length_drop, List.length_dropLast, List.length_reverse, Bool.false_eq_true, eq_self, reduceIte, sizeLine_eq]; omega)), fun p8 => ⟨rfl, ⟨_, rfl, (by rw [eL]; exact T4.show (by decide) (by decide)), (WE.two (w_callB (dc_repr0 hgd hu) m_repr rfl ⟨rfl, (w_lst ⟨rfl, (w_var 6 ⟨rfl, (w_var 6 ⟨(by first | decide | (simp only [List.length_append, List.length_map, List.length_cons, List.length_nil, List.length_singleton, List.length_replicate, List.length_range, List.length_take, List.length_drop, List.length_dropLast, List.length_reverse, Bool.false_eq_true, eq_self, reduceIte, sizeLine_eq]; omega)), fun p9 => ⟨rfl, ⟨_, rfl, (T4.show (by decide) (by decide)), ⟨rfl, rfl, _, rfl, ⟨fun h => ?_, fun h => ?_⟩⟩⟩⟩⟩)⟩)⟩)⟩))⟩⟩⟩⟩⟩))))⟩⟩)⟩)⟩))⟩)⟩)))
    · rw [eL] at h; exact ne_self h
    refine wss2_nil ?_
    show WSs2 _ _ _ [_, _, _, _, _, _, _] _
    -- line 127
    refine wss2_one (WS.two (ws_ret (w_cmp (dop_eq (room64 hr)) (w_callB (dc_repr0 hgd hu) m_repr rfl ⟨rfl, (w_var 2 ⟨rfl, ⟨_, rfl, (sh_row W (by omega)), (w_var 3 ⟨rfl, rfl, ?_⟩)⟩⟩)⟩))))
    show back _ _ (QT (.va (.bool (decide (_ = _)))))
    rw [decide_eq_true rfl]
    exact ⟨rfl, q _ _ _ (hp_2.le (by omega))⟩
end
end K08

/-! GRw: [x for x in g], g a generator that delegates. -/
namespace QL
open PySem PySem.Spec PyProof.Rows L2 GenW GR
section
variable {prog : Program} {w : World} {A : Around} {R : Result → Shared → Prop} {s : Shared}
/-- as cod_compLoop, the iterator's step of the second kind -/
theorem cod_compLoopG {elt target iter : Expr} {scope : Scope} {pos : Pos} {it acc : Value} {env : PySem.Env} (I : Nat → Shared → Prop)
    (turn : ∀ n s, I n s → wpAny2 (model prog w) A (pyNext it) (fun r s₁ => match r with
      | none => R (.ok .next) s₁
      | some v => wpAny (model prog w) A (letOwnedTupleGo target it v) (fun _ s₁' => wpAny (model prog w) A (assign target env v) (fun _ s₂ => wpAny2 (model prog w) A (eval elt env) (fun x s₄ =>
              wpAny (model prog w) A (call (.builtin "list.append") [acc, x]) (fun _ s₅ => ∃ m, m < n ∧ I m s₅) (notedBy (model prog w) A env fun e s' => R (.error e) s') s₄) (notedBy (model prog w) A env fun e s' => R (.error e) s') s₂) (notedBy (model prog w) A env fun e s' => R (.error e) s') s₁') (notedBy (model prog w) A env fun e s' => R (.error e) s') s₁) (notedBy (model prog w) A env fun e s' => R (.error e) s') s)
    (n : Nat) (h : I n s) : codeAny2 (model prog w) A (.compLoop (.ListComp elt [⟨target, iter, [], 0⟩] scope pos) 0 it acc env) R s := by
  refine cod_loop rfl I (fun n s hI => ?_) n h
  show wpAny2 _ A ((compTurn (.ListComp elt [⟨target, iter, [], 0⟩] scope pos) 0 it acc env).onRaise (fun x => do noteFrame x env; theTreesLotGoes x)) _ _ s
  refine any_noted ?_
  rw [compTurn_list1]
  refine any_bind (any_standAt (any_bind (any_mono (turn n s hI) (fun r s₁ h₁ => ?_) fun _ _ h' => h')))
  cases r with
  | none => exact any_pure h₁
  | some v =>
    refine any_bindL (wpAny_mono h₁ (fun _ s₁' h₁' => ?_) fun _ _ h' => h')
    refine any_bindL (wpAny_mono h₁' (fun _ s₂ h₂ => ?_) fun _ _ h' => h')
    exact any_bind (any_bind (any_mono h₂ (fun x s₄ h₄ => any_bindL (wpAny_mono h₄ (fun _ s₅ h₅ => any_pure (any_pure ⟨rfl, h₅⟩)) fun _ _ h' => h')) fun _ _ h' => h'))
end
section
variable {M : Model} {A : Around} {E : Value → Shared → Prop} {s : Shared} {env : PySem.Env}
/-- as any_comp, the value used in place -/
theorem any_compS {e : Expr} {scope : Scope} {pos : Pos} {newAcc first : Sem Value} {g : Comprehension} {gs : List Comprehension} {cl : List (Str × Addr)} {u : Value → Sem Unit} {Q : Value → Shared → Prop}
    (hcl : clausesOf e = g :: gs) (hs : ∀ x, foldedSetIterable g.iter env x = pure x) (hclos : closureFor scope env = pure cl) (hkind : scope.kind = .function) (hnames : ∀ x ∈ scope.names, x.2 = .local → scope.names.lookup x.1 = some .local)
    (h : wpAny M A first (fun x s₁ => wpAny M A (pyIter x) (fun it s₂ => wpAny M A newAcc (fun acc s₃ => wpAny M A (newFunctionEnv scope env.globals cl [] env.qual none .none (some env)) (fun cenv s₄ =>
        codeAny2 M A (.compStart e 0 it acc { cenv with scope := relabel scope env }) (compPost M A E (some u) Q acc cenv.locals) s₄) E s₃) E s₂) E s₁) E s) :
    wpAny2 M A (comprehension e scope env pos newAcc false first (some u)) Q E s := by
  unfold comprehension
  rw [hclos, hcl]
  refine any_bindL (wpAny_mono h (fun x s₁ h₁ => any_bind (any_standAt (any_bindL (wpAny_of_eq (hs x) (any_bindL (wpAny_holding (wpAny_mono h₁ (fun it s₂ h₂ =>
    any_standIf (any_bindL (wpAny_mono h₂ (fun acc s₃ h₃ => any_bindL (wpAny_pure (any_bindL (wpAny_mono h₃ (fun cenv s₄ h₄ => ?_) fun _ _ h' => h')))) fun _ _ h' => h')))
      fun _ _ h' => h'))))))) fun _ _ h' => h')
  dsimp only
  have hv : ∀ x ∈ (scope.names.filter fun x => (x.2 == .local || x.2 == .cell) && x.1 != (".0" : Str)).reverse, x.2 = .local →
      Env.kindOf { cenv with scope := relabel scope env } x.1 = some .local := fun x hx hl => lookup_relabel_local (hnames x (List.mem_filter.mp (List.mem_reverse.mp hx)).1 hl)
  have hv' : ∀ x ∈ (scope.names.filter fun x => (x.2 == .local || x.2 == .cell) && x.1 != (".0" : Str)).reverse.drop 1 ++ (scope.names.filter fun x => (x.2 == .local || x.2 == .cell) && x.1 != (".0" : Str)).reverse.take 1,
      x.2 = .local → Env.kindOf { cenv with scope := relabel scope env } x.1 = some .local := fun x hx hl => by
    rcases List.mem_append.mp hx with h1 | h1
    · exact hv x (List.mem_of_mem_drop h1) hl
    · exact hv x (List.mem_of_mem_take h1) hl
  refine any_holding (any_bind (any_attempt (any_holding (any_run (cod_mono h₄ fun r s' hr => ?_)))))
  cases r with
  | ok f =>
    refine any_bindL (wpAny_rule (any_bindL (wpAny_holding (wpAny_mono hr (fun _ s'' hr' => ?_) fun _ _ h' => h'))))
    obtain ⟨m, hn, hr'⟩ := hr'
    exact any_bindL (wpAny_comp_letGo (cenv := { cenv with scope := relabel scope env }) hkind _ s'' m hv' hn fun h' m' _ hs' => any_pure (hr' h' hs'))
  | error x =>
    obtain ⟨m, hn, hr⟩ := hr
    exact any_bindL (wpAny_holding (wpAny_comp_letGo (cenv := { cenv with scope := relabel scope env }) hkind _ s' m hv hn fun h' m' _ hs' => any_of (wpAny_mono (hr h' hs' _ rfl) (fun _ _ f => f.elim) fun _ _ y => y)))
end
theorem pushCells_none : ∀ (names : List (Str × NameKind)) (h : Heap), (∀ y ∈ names, y.2 = .local) → pushCells h names = h
  | [], _, _ => rfl
  | (n, k) :: r, h, hn => by
    obtain rfl : k = .local := hn (n, k) List.mem_cons_self
    unfold pushCells
    rw [if_neg (by decide)]
    exact pushCells_none r h fun y hy => hn y (List.mem_cons_of_mem _ hy)
section
variable {Tq : List (Addr × Str)} {Z : Zb Tq} {X : Cx} {env : Env} {iter : Expr}
theorem lcG_core {k : Nat} {x : Str} {p1 p2 pos pos' : Pos} {scope : Scope} {PR : R → Env → Prop} {use : Option (Value → Sem Unit)} {Qf : Value → Shared → Prop} (hr : Room (k + 3) X.A) (hgd : X.A.guards = some []) (hk : scope.kind = .function) (hnm : ∀ y ∈ scope.names, y.2 = .local) (uniq : ∀ y ∈ scope.names, scope.names.lookup y.1 = some y.2) (hx : scope.names.lookup x = some .local)
    (h : GenM Z X k iter env fun ds e1 => ∀ a, PR (.t (.lst a ds)) e1) (hdb : (x == ("__debug__" : Str)) = false) (hs : ∀ x, foldedSetIterable iter X.env x = pure x)
    {pins : List (Addr × Obj)} {s : Shared} {σ : L2.St} {H F : Hp} {O : List Addr} (I : Inv X pins σ H s) (b : Bas Z F H O) (o : OwE F H O σ env)
    (hRR : ∀ D C s' m H', Inv X pins σ H' s' → Post Z σ H F O PR (V.ref D) H' → s'.heap.Ns C m → FpOk X pins H' C → compPost (model X.prog X.w) X.A X.xe use Qf (.ref D) C (.ok .next) s') :
    wpAny2 (model X.prog X.w) X.A (comprehension (.ListComp (.Name x p1) [⟨.Name x p2, iter, [], 0⟩] scope pos) scope X.env pos' (newList []) false (eval iter X.env) use) Qf X.xe s := by
  have hfree : ∀ y ∈ scope.names, y.2 = .free → ∃ c, X.env.cells.lookup y.1 = some c := fun y hy e => by rw [hnm y hy] at e; cases e
  have main : wpAny (model X.prog X.w) X.A (eval iter X.env) (fun u1 s₁ => wpAny (model X.prog X.w) X.A (pyIter u1) (fun it s₂ => wpAny (model X.prog X.w) X.A (newList []) (fun acc s₃ => wpAny (model X.prog X.w) X.A (newFunctionEnv scope X.env.globals (cloFrom X.env.cells scope.names []) [] X.env.qual none .none (some X.env)) (fun cenv s₄ =>
        codeAny2 (model X.prog X.w) X.A (.compStart (.ListComp (.Name x p1) [⟨.Name x p2, iter, [], 0⟩] scope pos) 0 it acc { cenv with scope := relabel scope X.env }) (compPost (model X.prog X.w) X.A X.xe use Qf acc cenv.locals) s₄) X.xe s₃) X.xe s₂) X.xe s₁) X.xe s := ?_
  · cases use with
    | none => exact any_comp rfl hs (closure_ok hfree) hk (fun y hy e => by rw [uniq y hy, e]) main
    | some u => exact any_compS rfl hs (closure_ok hfree) hk (fun y hy e => by rw [uniq y hy, e]) main
  refine thn (h pins s σ H F O I b o) fun u s1 ⟨sc, H2, Q2, I2, gm, bk⟩ => ?_
  obtain ⟨a, g, c, rfl, ha1, ha2, hgen, hgs, hos, hb, hl, hkp, wake⟩ := gm
  refine wpAny_pyIter_gen hgen ?_
  refine wpAny_newObj_type (newEnv_comp ?_) (by show 0 ≤ sizeLine; decide)
  have hsz : sc.heap.objs.size ≤ s1.heap.objs.size := Nat.le_of_lt (Nat.lt_of_le_of_lt ha1 ha2)
  generalize hS : s1.heap.objs.size = S at *
  generalize hh3 : s1.heap.push { cls := .type "list", data := .seq ([] : List Value).toArray } = h3
  have z3 : h3.objs.size = S + 1 := by rw [← hh3, Heap.size_push, hS]
  have eS3 : h3.get? S = some (L2.lstObj #[] 0) := by rw [← hh3, ← hS]; exact Heap.get?_push_size _ rfl
  have k3 : ∀ b o, s1.heap.get? b = some o → h3.get? b = some o := fun b o e => by rw [← hh3]; exact Heap.get?_push_of_some _ e
  show codeAny2 _ _ (.compStart _ 0 (.ref a) (.ref S) (compEnvC scope (cellsFrom (h3.objs.size + 1) scope.names (cloFrom X.env.cells scope.names [])) h3.objs.size X.env)) (compPost (model X.prog X.w) X.A X.xe use Qf (.ref S) h3.objs.size) { s1 with heap := pushCells (h3.push { cls := .type "dict", data := .dict #[] }) scope.names }
  rw [pushCells_none _ _ hnm, z3]
  generalize hC : S + 1 = C at *
  generalize hce : compEnvC scope (cellsFrom (C + 1) scope.names (cloFrom X.env.cells scope.names [])) C X.env = ce
  have cL : ce.locals = C := by subst hce; rfl
  have cK : ce.kindOf x = some .local := by subst hce; exact lookup_relabel_local hx
  have cF : ce.scope.kind = .function := by subst hce; exact hk
  generalize hh4 : h3.push { cls := .type "dict", data := .dict #[] } = h4
  have k4 : ∀ b o, s1.heap.get? b = some o → h4.get? b = some o := fun b o e => by rw [← hh4]; exact Heap.get?_push_of_some _ (k3 b o e)
  have eS4 : h4.get? S = some (L2.lstObj #[] 0) := by rw [← hh4]; exact Heap.get?_push_of_some _ eS3
  have ns4 : h4.Ns C fun _ => none := by rw [← hh4, ← z3]; exact Heap.Ns.new h3 _
  have hSC : S ≠ C := by omega
  have hgl : g < s1.gens.size := (Array.getElem?_eq_some_iff.mp hgs).1
  have haS : a < S := ha2
  have hcl : cStatics < S := by
    obtain ⟨_, hn, _⟩ := hl
    have := hn.lt
    rw [hS] at this
    exact this
  have nsData : ∀ {h : Heap} {mA}, h.Ns C mA → ∃ o, h.get? C = some o ∧ ∀ v, o.data ≠ .cell v := fun {h mA} hn => by
    obtain ⟨o, es, ep, e, d, _⟩ := hn
    exact ⟨o, e, fun v q => by rw [d] at q; cases q⟩
  have loop : codeAny2 (model X.prog X.w) X.A (.compLoop (.ListComp (.Name x p1) [⟨.Name x p2, iter, [], 0⟩] scope pos) 0 (.ref a) (.ref S) ce) (compPost (model X.prog X.w) X.A X.xe use Qf (.ref S) C) { s1 with heap := h4 } := by
    refine cod_compLoopG (fun m s' => s'.heap.IsGen a g ∧ s'.heap.NoLimit ∧ AllBare (s'.setGen g .running).gens ∧ (∃ mA, s'.heap.Ns C mA) ∧ ∃ gs, s'.gens[g]? = some gs ∧ Goes1 (model X.prog X.w) X.A.in1 (REnd1 X.prog X.w X.stack H2 sc S [C] Q2) (YItem1 sc S [C] a g) m gs (.send .none) (s'.setGen g .running)) ?_ sizeLine
      ⟨hgen.keeps k4, hl.keeps k4, allBare_setGen (s := { s1 with heap := h4 }) hb rfl, ⟨_, ns4⟩, _, hgs, rfl, wake _ S [C] _ ⟨hr.hd, by have := hr.dp; show X.A.depth + 3 * k + 5 < _; omega, by have := hr.un; show X.A.units + 1 + 16 * k + 200 < _; omega⟩ I2.ok.frames hgd (by first | exact Nat.le_refl _ | (rw [hS]; exact Nat.le_refl _)) k4 ⟨_, eS4⟩ (fun L hL => by
        rw [List.mem_singleton.mp hL]
        exact ⟨Nat.lt_of_lt_of_eq (Nat.lt_succ_self S) hC, nsData ns4⟩) hos (allBare_setGen (s := { s1 with heap := h4 }) hb rfl) (by rw [setGen_size]; exact hgl)⟩
    rintro n s5 ⟨g5, l5, b5, ⟨mA, n5⟩, gs, hgs5, hgo⟩
    refine next_gen1 hr.hd l5 hr.depth g5 hgs5 hgo (fun v s₁ gs' hsz hv => ?_) (fun r s₁ hx => ?_)
    · obtain ⟨os1, hb1, hl1, hg1, ⟨acc, c1, hS1, hasz⟩, hLk, hk⟩ := hv
      have n1 : s₁.heap.Ns C mA := n5.at' fun o e => hLk C (List.mem_singleton.mpr rfl) o e
      cases n with
      | zero =>
        have lim2 : (s₁.heap.update S (Obj.mapSeq (·.push v))).NoLimit := hl1.sameBut (Heap.SameBut.update _ S _) (Nat.ne_of_lt hcl)
        have z := Slept.push (v := v) hS1 hb1
        exact (hk _ ⟨z.os, z.bare, fun b o h1 _ e => z.keep b o h1 e, z.own, fun L hL => by
          rw [List.mem_singleton.mp hL]
          obtain ⟨o, e, q⟩ := nsData n1
          exact ⟨o, z.keep C o (Ne.symm hSC) e, q⟩, lim2, fun _ _ => rfl⟩).elim
      | succ m =>
        have hasz' : acc.size ≤ sizeLine := by omega
        refine wpAny_pure ?_
        refine wpAny_assign_Name (wpAny_storeName_local (m := mA) cK (by rw [cL]; exact n1) (fun h6 n6 sb6 => ?_) (by rw [cF]; rfl))
        rw [cL] at n6 sb6
        rw [eval_Name ce x p1 hdb]
        refine any_bind (any_standAt (any_of (wpAny_loadName_local cF cK (by rw [cL]; exact n6) (if_pos rfl) ?_)))
        have eS6 : h6.get? S = some (L2.lstObj acc c1) := (sb6.2 S hSC).trans hS1
        refine append_at (hsz := hasz') eS6 fun h7 sb7 e7 => ⟨m, Nat.lt_succ_self m, ?_⟩
        have n7 := n6.at' fun o e => (sb7.2 C (Ne.symm hSC)).trans e
        have k7 : ∀ b o, b ≠ S → b ≠ C → s₁.heap.get? b = some o → h7.get? b = some o := fun b o h1 h2 e => (sb7.2 b h1).trans ((sb6.2 b h2).trans e)
        have l7 : h7.NoLimit := (hl1.sameBut sb6 (Nat.ne_of_lt (Nat.lt_trans hcl (Nat.lt_of_lt_of_eq (Nat.lt_succ_self S) hC)))).sameBut sb7 (Nat.ne_of_lt hcl)
        have sz : g < s₁.gens.size := Nat.lt_of_lt_of_le (Array.getElem?_eq_some_iff.mp hgs5).1 hsz
        have eg : (s₁.gens.setIfInBounds g gs').setIfInBounds g .running = s₁.gens.setIfInBounds g .running := by simp
        have bb : AllBare ((s₁.gens.setIfInBounds g gs').setIfInBounds g .running) := by rw [eg]; exact allBare_setGen hb1 rfl
        refine ⟨?_, l7, bb, ⟨_, n7⟩, gs', setGen_at sz, hk _ ⟨rfl, bb, fun b o h1 h2 e => k7 b o h1 (fun z => h2 (List.mem_singleton.mpr z)) e, fun acc' c' e => ?_, fun L hL => ?_, l7, fun j hj => ?_⟩⟩
        · obtain ⟨go, nm, qn, ho, r⟩ := hg1
          exact ⟨go, nm, qn, k7 a go (by omega) (by omega) ho, r⟩
        · have e1 := Option.some.inj (hS1.symm.trans e)
          injection e1 with _ _ e2
          injection e2 with e3 e4
          subst e3
          exact ⟨c1 + 1, e7⟩
        · rw [List.mem_singleton.mp hL]
          exact nsData n7
        · show ((s₁.gens.setIfInBounds g gs').setIfInBounds g .running)[j]? = s₁.gens[j]?
          rw [eg, Array.getElem?_setIfInBounds_ne (Ne.symm hj)]
    · obtain ⟨rfl, hLk, H', ys, acc, c2, os1, hb1, un, hok, ⟨hSn, hCn⟩, hS1, hv, hle, hQ⟩ := hx
      have n1 : s₁.heap.Ns C mA := n5.at' fun o e => hLk C (List.mem_singleton.mpr rfl) o e
      refine ⟨rfl, fun h' hk => ?_⟩
      obtain ⟨F', O', ds, env', b', o', fr, rr, hq⟩ := bk ys H' hQ
      have un2 := un.trans (Un.kept hk)
      have hok2 := hok.kept hk
      have eS2 : h'.get? S = some (L2.lstObj acc c2) := hk _ _ hS1
      refine hRR S C { s₁.setGen g .finished with heap := h' } mA (upd H' S (.lst ys)) (Inv.drained I2 hsz hle eS2 hv ExOk.nil os1 (allBare_setGen hb1 rfl) un2 hok2 hSn) (((NewV.lst b'.sub rr hSn (k := fun t => t = .lst S ds) rfl).post b' o' (fun t e => by subst e; exact hq S)).from fr) (n1.at' fun o e => hk C o e) (I2.fpOk (by omega) ?_)
      rw [upd_ne (Ne.symm hSC)]
      exact hCn C (List.mem_singleton.mpr rfl)
  exact cod_compStart loop (wpAny_pyIter_gen (hgen.keeps k4) loop)
/-- name = [x for x in g] on one line -/
theorem ws2_setLcG (i : Nat) {k : Nat} {x y : Str} {p1 p2 py pos pos' : Pos} {scope : Scope} {PO : Out → Prop} (hr : Room (k + 3) X.A) (hgd : X.A.guards = some []) (hN : X.N.Nodup) (hk : scope.kind = .function) (hnm : ∀ y ∈ scope.names, y.2 = .local) (uniq : ∀ y ∈ scope.names, scope.names.lookup y.1 = some y.2) (hx : scope.names.lookup x = some .local)
    (h : GenM Z X k iter env fun ds e1 => ∀ a, storeR (.t (.lst a ds)) i e1 fun e2 => PO (.nx e2)) (hy : X.N[i]? = some y := by rfl) (hyl : X.env.scope.names.lookup y = some .local := by rfl) (hdb : (x == ("__debug__" : Str)) = false := by decide)
    (hsw : swapsWith (.ListComp (.Name x p1) [⟨.Name x p2, iter, [], 0⟩] scope pos') (some (.Name y py)) pos.line X.env = pure true := by exact sw_true rfl rfl rfl (by decide +kernel)) (hs : ∀ x, foldedSetIterable iter X.env x = pure x := by intro _; rfl) :
    WS2 Z X (.Assign [.Name y py] (.ListComp (.Name x p1) [⟨.Name x p2, iter, [], 0⟩] scope pos') pos) env PO := fun pins s σ H F O I b o => by
  rw [exec_Assign_Name_used _ _ _ _ hsw]
  refine any_bind (any_standAt (any_bind ?_))
  show wpAny2 _ X.A (do let _ ← comprehension (.ListComp (.Name x p1) [⟨.Name x p2, iter, [], 0⟩] scope pos') scope X.env (firstIterPos [⟨.Name x p2, iter, [], 0⟩] pos') (newList []) false (eval iter X.env) (some (assign (.Name y py) X.env))) _ _ s
  refine any_bind (any_mono (lcG_core (PR := fun r e1 => storeR r i e1 fun e2 => PO (.nx e2)) (Qf := fun _ s' => SP X pins (endsOf Z H F O PO) .next s') hr hgd hk hnm uniq hx h hdb hs I b o fun L C s' m H' I' q hn f => ?_) (fun _ s' hq => any_pure (any_pure hq)) fun _ _ x => x)
  show wpAny _ _ (assign (.Name y py) X.env (.ref L)) _ _ _
  refine wpAny_assign_Name (store_ok2 (v := V.ref L) I' hN hy (.inl hyl) rfl (fun s2 I2 ⟨a, sb, ha⟩ => ?_) (.inr hyl))
  obtain ⟨f0, f1, f2, f3, f4, f5⟩ := f
  have haC : C ≠ a := by
    rcases ha with z | z
    · rw [z]; exact f1
    · exact fun e => f4 y a z e.symm
  refine ⟨m, hn.sameBut sb haC, fun h3 sb3 => ?_⟩
  obtain ⟨F1, O1, r, e1, b1, st, fr, p⟩ := q
  obtain ⟨F2, O2, e2, b2, o2, fr2, q⟩ := storeR_ok b1 st p
  exact ⟨_, H', I2.turned (t' := s2.toks) (fun b o hb e => (sb3.2 b hb).trans e) f0 f1 f3 f4 f5, F2, O2, e2, b2, o2, fr.trans fr2, q⟩
end
end QL

/-! QTp: x, y, z = data, data, anything. -/
namespace QL
open PySem PySem.Spec PyProof.Rows L2
variable {Tq : List (Addr × Str)} {Z : Zb Tq} {X : Cx} {env : Env} {PO : Out → Prop} {a b c : Expr} {pos : Pos}
end QL

/-! QTq: xs.count(x). -/
namespace QL
open PySem PySem.Spec PyProof.Rows L2
end QL
namespace QL
open PySem PySem.Spec PyProof.Rows L2
end QL

/-! QLf: xs.index(x) of data. -/
namespace QL
open PySem PySem.Spec PyProof.Rows L2
end QL

/-! LZq: the known row of k08: an odd number of words of one place, and one of four. -/
namespace LM
open PySem
def kwR (p : Nat) : List Int := List.replicate (2 * p + 1) 1 ++ [4]
def sgN (ns : List Nat) : List Nat := (((0 :: ns.dropLast.dropLast).zip ns.dropLast).filter fun x => decide ((x.2 : Int) - (x.1 : Int) = 1)).map (·.1)
theorem kw_all : ∀ p : Nat, 1 ≤ p → p ≤ 5 → (layN 4 (kwR p)).length = p + 1 ∧ (layN 4 (kwR p)).flatMap sgN = (List.range (p + 1)).reverse.map (2 * ·) := by
  intro p h1 h5
  have h : p = 1 ∨ p = 2 ∨ p = 3 ∨ p = 4 ∨ p = 5 := by omega
  rcases h with rfl | rfl | rfl | rfl | rfl
  · exact ⟨by decide +kernel, by decide +kernel⟩
  · exact ⟨by decide +kernel, by decide +kernel⟩
  · exact ⟨by decide +kernel, by decide +kernel⟩
  · exact ⟨by decide +kernel, by decide +kernel⟩
  · exact ⟨by decide +kernel, by decide +kernel⟩
theorem kw_W {p : Nat} (h : p ≤ 5) : Wd 4 (kwR p) := ⟨by decide, by decide, by unfold kwR; rw [List.length_append, List.length_replicate, List.length_singleton]; omega, fun x hx => by
  unfold kwR at hx
  rcases List.mem_append.mp hx with z | z
  · rw [(List.mem_replicate.mp z).2]; omega
  · rw [List.mem_singleton.mp z]; omega⟩
theorem kw_len (p : Nat) : (kwR p).length = 2 * p + 2 := by unfold kwR; rw [List.length_append, List.length_replicate, List.length_singleton]
end LM
namespace QL
open PySem LM
theorem cut_two {α : Type} (f : α → D) (xs : List α) : cutD (xs.map f) none (some (-2)) = xs.dropLast.dropLast.map f := by
  rw [cutD_map]
  have h1 : HT.sIx xs.length 0 none = 0 := rfl
  have h2 : HT.sIx xs.length xs.length (some (-2)) = xs.length - 2 := by
    unfold HT.sIx
    simp only
    rw [if_pos (by decide)]
    omega
  rw [h1, h2]
  rw [List.drop_zero, Nat.sub_zero, List.dropLast_eq_take, List.dropLast_eq_take, List.take_take, List.length_take]
  congr 2
  omega
end QL

/-! QTr: tuple * 0, tuple * 1. -/
namespace L2
open PySem PySem.Spec PyProof.Rows
theorem tuple_mul1 (l : Addr) (items : Array Value) (n : Nat) (dd : Option Addr) (sl : Array (Option Value)) (u : Tok) :
    Meets (Builtin.«tuple.__mul__» ⟨[.ref l, .int 1 u], []⟩) (fun _ R s => s.heap.get? l = some { cls := .type "tuple", dict := dd, data := .seq items n, slots := sl } ∧
      R (.ok (.ret (Value.ref l))) s) :=
  .of_wp fun prog w A R s h => by
    obtain ⟨hp, g, d, tk, os⟩ := s
    obtain ⟨hl, h⟩ := h
    have f1 := AutoSeq1.idx_int
    have c1 : (items.isEmpty || (1 : Int) == 1) = true := by simp
    wp_walk using wpAny_loadPart' hl
    repeat (first
      | (refine wpAny_ite_false (decide_eq_false (by decide)) ?_; wp_walk using wpAny_loadPart' hl)
      | (refine wpAny_ite_true (decide_eq_true c1) ?_; wp_walk using wpAny_loadPart' hl))
    exact ⟨_, rfl, h⟩
theorem tuple_mul0 (l : Addr) (items : Array Value) (n : Nat) (dd : Option Addr) (sl : Array (Option Value)) (u : Tok) (hi : items.isEmpty = false) :
    Meets (Builtin.«tuple.__mul__» ⟨[.ref l, .int 0 u], []⟩) (fun _ R s => s.heap.get? l = some { cls := .type "tuple", dict := dd, data := .seq items n, slots := sl } ∧
      R (.ok (.ret (Value.ref s.heap.objs.size))) { s with heap := s.heap.push { cls := Value.type "tuple", data := Data.seq #[] }, toks := s.toks }) :=
  .of_wp fun prog w A R s h => by
    obtain ⟨hp, g, d, tk, os⟩ := s
    obtain ⟨hl, h⟩ := h
    have f1 := AutoSeq1.idx_int
    have c1 : (items.isEmpty || (0 : Int) == 1) = false := by rw [hi]; rfl
    have c2 : (decide ((0 : Int) ≤ 0) || items.isEmpty) = true := by simp
    wp_walk using wpAny_loadPart' hl
    repeat (first
      | (refine wpAny_ite_false (decide_eq_false (by decide)) ?_; wp_walk using wpAny_loadPart' hl)
      | (refine wpAny_ite_false (decide_eq_false (by rw [c1]; exact Bool.false_ne_true)) ?_; wp_walk using wpAny_loadPart' hl)
      | (refine wpAny_ite_true (decide_eq_true c2) ?_; wp_walk using wpAny_loadPart' hl))
    exact ⟨_, rfl, h⟩
def rRepT01 (K : PySem.W.Frag) : R2 := fun x y H Q => ∃ l k xs, x = .ref l ∧ y = .int k ∧ SqT K H l xs ∧ xs ≠ [] ∧ ((k = 1 ∧ Q (.ref l) H) ∨ (k = 0 ∧ ∀ p, H p = none → Q (.ref p) (upd H p (.tup []))))
section
variable {X : Cx}
theorem op_repT01 : OpR X (binaryOp .Mult) (rRepT01 X.K) := by
  intro pins s σ H x y v u Q I rx ry h
  obtain ⟨l, k, xs, rfl, rfl, hT, hne, q⟩ := h
  cases rx
  obtain ⟨t, rfl⟩ := ry
  obtain ⟨its, r, ⟨⟨cls, dd, data, sl⟩, ho, hc, n, hd⟩, hs⟩ := I.tuple hT
  simp only at hc hd
  subst hc hd
  have hle : its.length = xs.length := r.length.symm
  have hn : its ≠ [] := fun e => hne (by
    rw [e] at hle
    exact List.eq_nil_of_length_eq_zero hle.symm)
  have hi : its.toArray.isEmpty = false := by
    cases its with
    | nil => exact absurd rfl hn
    | cons a b => rfl
  rcases q with ⟨rfl, q⟩ | ⟨rfl, q⟩
  · exact wpAny_binaryOp_repeat_ref (T := "tuple") (U := "int") (by decide) ⟨_, ho, rfl⟩ (fun s' => typeIs_int s' 1 t) noFill_tuple_mul F.fills_int_mul F.slot_int_rmul repeat_tuple F.slot_int_index.lookup
      (call_meets F.slot_int_rmul (typeIs_int s 1 t) F.entry_int_rmul (F.args_int_rmul_2 _ _) (int_rmul_tuple 1 t l its.toArray n dd sl)
        ⟨ho, rfl, ⟨_, ho, rfl⟩, call_meets F.slot_tuple_mul ⟨_, ho, rfl⟩ F.entry_tuple_mul (F.args_tuple_mul_2 _ _) (tuple_mul1 l its.toArray n dd sl t) ⟨ho, ⟨.ref l, _, I, rfl, q⟩⟩⟩)
  · refine wpAny_binaryOp_repeat_ref (T := "tuple") (U := "int") (by decide) ⟨_, ho, rfl⟩ (fun s' => typeIs_int s' 0 t) noFill_tuple_mul F.fills_int_mul F.slot_int_rmul repeat_tuple F.slot_int_index.lookup
      (call_meets F.slot_int_rmul (typeIs_int s 0 t) F.entry_int_rmul (F.args_int_rmul_2 _ _) (int_rmul_tuple 0 t l its.toArray n dd sl)
        ⟨ho, rfl, ⟨_, ho, rfl⟩, call_meets F.slot_tuple_mul ⟨_, ho, rfl⟩ F.entry_tuple_mul (F.args_tuple_mul_2 _ _) (tuple_mul0 l its.toArray n dd sl t hi) ⟨ho, ?_⟩⟩)
    refine ⟨.ref s.heap.objs.size, _, I.laid (t' := s.toks) (o := .tup []) (fun b ob q => Heap.get?_push_of_some _ q) (Nat.le_refl _) ?_, rfl, q _ (I.hok.fresh (Nat.le_refl _))⟩
    exact ⟨by rw [sizeLine_eq]; exact Nat.zero_le _, _, .nil, IsTup.new _ _⟩
end
end L2
namespace QL
open PySem PySem.Spec PyProof.Rows L2
variable {X : Cx}
/-- tuple * n, n from 0 on -/
theorem dop_mulTn : DOp X (binaryOp .Mult) (fun d1 d2 k => match d1, d2 with
    | .tuple xs, .int n => xs ≠ [] ∧ xs.length ≤ 1000 ∧ 0 ≤ n ∧ n ≤ 1000 ∧ k (.va (.tuple (List.replicate n.toNat xs).flatten))
    | _, _ => False) := by
  intro pins s σ H F v1 v2 u1 u2 d1 d2 k I sF w1 w2 r1 r2 hg
  split at hg
  · rename_i xs n
    obtain ⟨hne, hl, h2, h3, hk⟩ := hg
    by_cases h4 : 2 ≤ n
    · exact dop_mulT pins s σ H F v1 v2 u1 u2 _ _ k I sF w1 w2 r1 r2 ⟨hne, hl, h4, h3, hk⟩
    · obtain ⟨p, vs, rfl, h1, q1⟩ := w1.tup
      cases w2.int
      refine op_repT01 pins s σ H _ _ u1 u2 _ I r1 r2 ⟨p, n, vs, rfl, rfl, (.inl (rd_mono sF h1)), fun z => ?_, ?_⟩
      · subst z
        cases q1
        exact hne rfl
      · have : n = 0 ∨ n = 1 := by omega
        rcases this with z | z
        · subst z
          exact .inr ⟨rfl, fun p hp => NewV.tup sF .nil hp hk⟩
        · subst z
          refine .inl ⟨rfl, NewV.val sF (.tup h1 ?_) hk⟩
          show RpA F vs (List.replicate (1 : Int).toNat xs).flatten
          simpa using q1
  · exact hg.elim
end QL

/-! QTE: range(a, b, -1). -/
namespace QL
open PySem PySem.Spec PyProof.Rows L2
/-- from lo downwards -/
def rangeN (lo : Int) (n : Nat) : List D := (List.range n).map fun (k : Nat) => PyData.int (lo - (k : Int))
theorem gives_rangeN {lo : Int} {n : Nat} {F : Hp} : Gives (L2.Itc lo (-1) n) (rangeN lo n) F := fun F' H' s1 s2 i => by
  refine ⟨fun d hd => ?_, fun hn => ?_⟩
  · unfold rangeN at hd
    rw [List.getElem?_map] at hd
    by_cases hi : i < n
    · rw [List.getElem?_range hi] at hd
      cases hd
      refine ⟨hi, fun x H'' ⟨e, q⟩ => ?_⟩
      subst e q
      have e1 : lo + (i : Int) * (-1) = lo - (i : Int) := by omega
      rw [e1]
      exact ⟨F', .int _, Same.refl _, Same.refl _, s2, fun _ z => .inl z⟩
    · rw [List.getElem?_eq_none (by simpa using hi)] at hd
      cases hd
  · unfold rangeN at hn
    rw [List.getElem?_eq_none_iff, List.length_map, List.length_range] at hn
    exact hn
section
variable {Tq : List (Addr × Str)} {Z : Zb Tq} {X : Cx} {tg iter : Expr} {a b c : Expr} {env : Env}
def rng3 (ds : List D) (k : List D → Prop) : Prop := match ds with
  | [.int i, .int j, .int c] => (c = -1 ∧ -4611686018427387904 ≤ i ∧ i < 4611686018427387904 ∧ -4611686018427387904 ≤ j ∧ j < 4611686018427387904) ∧ k (rangeN i (i - j).toNat)
  | _ => False
theorem wi_range3 {P : List D → Env → Prop} {p : Pos} (hm : X.mg "range" = none) (h : WAs Z X [a, b, c] env fun as e1 => Views as e1 fun ds => rng3 ds fun xs => P xs e1) (hg : Gl X "range" := by rfl)
    (hs : starEach [a, b, c] X.env = (false, eval a X.env) :: starEach [b, c] X.env := by rfl) (hpl : (backTo pos (starEach [b, c] X.env)).any (·.1) = false := by rfl) : WI Z X tg (.Call (.Name "range" p) [a, b, c] [] pos) env P :=
  wi_of (L2.pi_range3 hg hm (pa_As (Z := Z)) hs hpl) fun σ H F O b0 o => ⟨env, F, O, _, b0, o, h, fun vs H1 ⟨F1, O1, as, e1, b1, o1, st, fr, p⟩ => by
    obtain ⟨ds, ws, q⟩ := Views.vws o1 st p
    unfold rng3 at q
    split at q
    · cases ws with
      | cons w ws =>
        cases ws with
        | cons w' ws =>
          cases ws with
          | cons w'' ws =>
            cases ws
            cases w.int
            cases w'.int
            cases w''.int
            obtain ⟨⟨rfl, q1, q2, q3, q4⟩, q⟩ := q
            exact ⟨_, _, _, _, rfl, L2.RgC.neg q1 q2 q3 q4, F1, O1, _, e1, b1, o1, fr, gives_rangeN, q⟩
    · exact q.elim⟩
end
end QL

namespace K08
open PySem PySem.Spec PyProof.Rows L2 QL
open LM GR
def spKnown : Spc := fun ts QT _ => ∃ (p : Addr) (n a b c : Int), ts = [.lst p (potD a b c)] ∧ PotOk n a b c ∧ n ≤ 800000 ∧ ∀ a' b' c', PotOk (n + 20) a' b' c' → QT (.va (.bool true)) [some (.lst p (potD a' b' c'))]
theorem kw_row (p : Nat) : iDs (kwR p) = (List.replicate (2 * (p : Int) + 1).toNat [PyData.int 1]).flatten ++ [PyData.int 4] := by
  unfold kwR iDs
  rw [List.map_append, List.map_replicate, show (2 * (p : Int) + 1).toNat = 2 * p + 1 by omega]
  congr 1
  generalize 2 * p + 1 = k
  induction k with
  | zero => rfl
  | succ k ih => rw [List.replicate_succ, List.replicate_succ, List.flatten_cons, ← ih]; rfl
theorem kw_M {p : Nat} (W : Wd 4 (kwR p)) (h5 : p ≤ 5) (h : (layN 4 (kwR p)).length = p + 1) : layM 4 (kwR p) (kwR p).length ≤ 1000000 := by
  have h1 := layM_cnt W
  have h2 := layN_cnt W
  have h3 := kw_len p
  have h4 : ((kwR p).length + 1 : Int) * cntB 4 (kwR p) ≤ 13 * 6 := Int.mul_le_mul (by omega) (by omega) (by omega) (by decide)
  omega
theorem zip_two (ns : List Nat) : zipD ([PyData.int 0] ++ QL.cutD (nDs ns) none (some (-2))) (QL.cutD (nDs ns) none (some (-1))) = ((0 :: ns.dropLast.dropLast).zip ns.dropLast).map enP := by
  unfold nDs
  rw [cut_two, cut_dropLast]
  unfold zipD
  rw [show [PyData.int 0] ++ (ns.dropLast.dropLast.map fun (n : Nat) => PyData.int (n : Int)) = (0 :: ns.dropLast.dropLast).map fun (n : Nat) => PyData.int (n : Int) from rfl, List.zip_map, List.map_map]
  rfl
theorem fm_take {α β : Type} (l : List α) (f : α → List β) (j : Nat) : ((l.take j).flatMap f).length ≤ (l.flatMap f).length := by
  conv => rhs; rw [← List.take_append_drop j l, List.flatMap_append, List.length_append]
  omega
theorem fm_next {l : List (List Nat)} {j : Nat} {ns : List Nat} (h : l[j]? = some ns) : ((l.take j).flatMap sgN).map (fun (n : Nat) => PyData.int (n : Int)) ++ (((0 :: ns.dropLast.dropLast).zip ns.dropLast).filter fun x => decide ((x.2 : Int) - (x.1 : Int) = 1)).map (fun x => PyData.int (x.1 : Int)) = ((l.take (j + 1)).flatMap sgN).map fun (n : Nat) => PyData.int (n : Int) := by
  rw [List.take_succ, h, List.flatMap_append, List.map_append]
  refine congrArg (_ ++ ·) ?_
  show _ = (sgN ns ++ []).map _
  rw [List.append_nil]
  unfold sgN
  rw [List.map_map]; rfl
theorem kw_dn {p : Nat} (h1 : 1 ≤ p) (h5 : p ≤ 5) : rangeN (p : Int) ((p : Int) - -1).toNat = ((List.range (p + 1)).reverse).map fun (x : Nat) => PyData.int (x : Int) := by
  have h : p = 1 ∨ p = 2 ∨ p = 3 ∨ p = 4 ∨ p = 5 := by omega
  rcases h with rfl | rfl | rfl | rfl | rfl <;> rfl
theorem eqv_ints08 (xs : List Nat) (f : Nat → Int) : PyData.eqv (.list (xs.map fun x => PyData.int (f x))) (.list (xs.map fun x => PyData.int (f x))) = true := by
  show PyData.eqvAll (xs.map fun x => PyData.int (f x)) (xs.map fun x => PyData.int (f x)) = true
  induction xs with
  | nil => rfl
  | cons x r ih =>
    show (decide (f x = f x) && PyData.eqvAll _ _) = true
    rw [ih]; simp
section
variable {P : Program} {w : World} {K : PySem.W.Frag} {mg : Str → Option Value} {base : Heap} {Tq : List (Addr × Str)}
abbrev N__law_known_right : List Str := ["_law_pot_here", "_law_pairs", "_law_row_here", "_law_many", "_law_ends", "_law_singles", "_law_low", "_law_high", "_law_at"]
theorem sc__law_known_right : FnScope N__law_known_right ["_law_pot_here"] (defScope (topS 19)) := ⟨rfl, rfl, rfl, by decide +kernel, rfl, by decide +kernel, by decide +kernel⟩
theorem g__law_known_right {f : Addr} {fd : FuncData} {k : Nat} (Fn : Fun K "_law_known_right" "_law_known_right" (topS 19) f fd) (G__law_take : Df P w K mg base Tq k "_law_take" ["_law_pot_here", "_law_upto"] spTake) (G_count_best : Df P w K mg base Tq k "count_best" ["width", "text"] spCount) (m_len : mg "len" = none) (m_range : mg "range" = none) (m_zip : mg "zip" = none) (D_best_layouts : Dg1 P w K mg base Tq k "best_layouts" ["width", "text"] spBestL) : FnG2 P w K mg base Tq (k + 4) f fd ["_law_pot_here"] spKnown := by
  have G__law_take := G__law_take.mono (Nat.le_add_right k 3)
  have G_count_best := G_count_best.mono (Nat.le_add_right k 3)
  refine fn_g2 Fn sc__law_known_right (fun ts Q E h => ?_) fun cdv A outer s H E Z ts QT ET hr hgd hp tk h => ?_
  · obtain ⟨pt, n, a, b, c, rfl, hpot, hn, q⟩ := h; rfl
  · obtain ⟨pt, n, a, b, c, rfl, hpot, hn, q⟩ := h
    -- line 129
    refine wss2_consL (ws_set 1 (w_bin dop_add (w_int (w_fn G__law_take hr hgd ⟨rfl, (w_var 0 ⟨rfl, (w_int ⟨rfl, ⟨_, _, _, _, _, _, rfl, (by assumption), (by omega), ⟨by omega, by omega⟩, fun a1 b1 c1 d_1 hp_1 h0_1 h1_1 => ⟨rfl, rfl, ⟨rfl, rfl, ⟨Nat.lt_of_sub_eq_succ rfl, ?_⟩⟩⟩⟩⟩)⟩)⟩))) sc__law_known_right.nd)
    obtain ⟨pn, hpn⟩ : ∃ pn : Nat, (pn : Int) = 1 + d_1 := ⟨(1 + d_1).toNat, by omega⟩
    rw [← hpn]
    have hp1 : 1 ≤ pn := by omega
    have hp5 : pn ≤ 5 := by omega
    obtain ⟨k1, k2⟩ := kw_all pn hp1 hp5
    have W := kw_W hp5
    have kl := kw_len pn
    have hcn := layN_cnt W
    have eL := lays_tN70 W
    have hM := kw_M W hp5 k1
    have eR : iDs (kwR pn) = (List.replicate (2 * (pn : Int) + 1).toNat [PyData.int 1]).flatten ++ [PyData.int 4] := kw_row pn
    show WSs2 _ _ _ [_, _, _, _, _, _, _, _, _] _
    -- line 130
    refine wss2_consL (ws_set 2 (w_bin dop_add (w_bin dop_mulTn (w_tup ⟨rfl, (w_int ⟨(Nat.le_of_lt (small2000 (n := 1) (by decide))), (w_bin dop_add (w_bin dop_mul (w_int (w_var 1 ⟨rfl, rfl, (by first | exact cmul_l (by omega) (by omega) | exact cmul_r (by omega) (by omega)), (w_int ⟨rfl, rfl, ⟨rfl, rfl, ⟨(by decide), (by decide), (by first | omega | decide), (by first | omega | decide), (w_tup ⟨rfl, (w_int ⟨(Nat.le_of_lt (small2000 (n := 1) (by decide))), ⟨rfl, rfl, (by have h := congrArg List.length eR; rw [List.length_append, List.length_map, kl] at h; rw [sizeLine_eq]; omega), ⟨Nat.lt_of_sub_eq_succ rfl, ?_⟩⟩⟩)⟩)⟩⟩⟩)⟩))))⟩)⟩))) sc__law_known_right.nd)
    rw [← eR]
    show WSs2 _ _ _ [_, _, _, _, _, _, _, _, _] _
    -- line 131
    refine wss2_cons (ws2_setLcG 3 (k := k) hr hgd sc__law_known_right.nd rfl (by decide +kernel) (by decide +kernel) (by decide +kernel) (gen_fn D_best_layouts (hr.mono (by omega)) ⟨rfl, (w_int ⟨rfl, (w_var 2 ⟨4, kwR pn, rfl, W, hM, fun p1 => ⟨Nat.lt_of_sub_eq_succ rfl, ?_⟩⟩)⟩)⟩))
    rw [eL]
    show WSs2 _ _ _ [_, _, _, _, _, _, _, _, _] _
    -- line 132
    refine wss2_consL (ws_if (WW.t (ww_or (wt_cmp (dop_ne (room64 hr)) (w_fn G_count_best hr hgd ⟨rfl, (w_int ⟨rfl, (w_var 2 ⟨4, kwR pn, rfl, W, (w_bin dop_add (w_var 1 (w_int ⟨rfl, rfl, ⟨rfl, rfl, _, rfl, ⟨fun h => (ww_or1 (wt_cmp (dop_ne (room64 hr)) (w_callB dc_len m_len rfl ⟨rfl, (w_var 3 ⟨rfl, (w_bin dop_add (w_var 1 (w_int ⟨rfl, rfl, ⟨rfl, rfl, _, rfl, ⟨fun h => ?_, fun h => ?_⟩⟩⟩)))⟩)⟩))), fun h => ?sh1⟩⟩⟩)))⟩)⟩)⟩)))))
    · have h0 : (((layN 4 (kwR pn)).map tN).length : Int) = (pn : Int) + 1 := by rw [List.length_map, k1]; omega
      rw [decide_eq_true h0] at h; exact absurd h (by decide)
    case sh1 => rw [decide_eq_true (show cntB 4 (kwR pn) = (pn : Int) + 1 by omega)] at h; exact absurd h (by decide)
    refine wss_nil ?_
    show WSs2 _ _ _ [_, _, _, _, _, _, _, _, _] _
    -- line 134
    refine wss2_consL (ws_set 5 (w_lst ⟨(by first | decide | (simp only [List.length_append, List.length_map, List.length_cons, List.length_nil, List.length_singleton, List.length_replicate, List.length_range, List.length_take, List.length_drop, List.length_dropLast, List.length_reverse, Bool.false_eq_true, eq_self, reduceIte, sizeLine_eq]; omega)), fun p2 => ⟨Nat.lt_of_sub_eq_succ rfl, ?_⟩⟩) sc__law_known_right.nd)
    show WSs2 _ _ _ [_, _, _, _, _, _, _, _, _] _
    -- line 135
    refine wss2_consL (ws_for hp rfl (pg_name (i := 4) sc__law_known_right.nd rfl (by first | exact Or.inl rfl | exact Or.inr rfl)) (gok_name 4) (wi_list (w_var 3 ⟨rfl, ?_⟩)))
    refine ⟨fun j e => ∃ p o4, e = [some (.lst pt (potD a1 b1 c1)), some (.va (.int (pn : Int))), some (.va (.tuple (iDs (kwR pn)))), some (.va (.list ((layN 4 (kwR pn)).map tN))), o4, some (.lst p ((((layN 4 (kwR pn)).take j).flatMap sgN).map fun (n : Nat) => PyData.int (n : Int))), none, none, none], ⟨_, none, rfl⟩, ?_, ?_⟩
    · rintro j dd e hd ⟨p, o4, rfl⟩
      rw [List.getElem?_map, Option.map_eq_some_iff] at hd
      obtain ⟨ns, hns, rfl⟩ := hd
      have hjl := (List.getElem?_eq_some_iff.mp hns).1
      have hmem := (layN_mem W ns).mp (List.mem_of_getElem? hns)
      have hnl := hmem.1.len
      have hal := fm_take (layN 4 (kwR pn)) sgN j
      rw [k2, List.length_map, List.length_reverse, List.length_range] at hal
      have hzl : ((0 :: ns.dropLast.dropLast).zip ns.dropLast).length ≤ 1000 := by rw [List.length_zip, List.length_dropLast]; omega
      refine ⟨Nat.lt_of_sub_eq_succ rfl, ?_⟩
      -- line 136
      refine wss_one (ws_expr (w_extend (w_var 5 ⟨_, _, _, _, rfl, rfl, (w_lcIf (own := [("_law_low", 6), ("_law_high", 7)]) rfl sc__law_known_right.nd (blkOk_by (N := N__law_known_right) (sc := defScope (topS 19)) (by decide +kernel)) (fun _ _ _ _ _ => pg_tup (by rfl) (pgs_cons (pg_name (i := 6) sc__law_known_right.nd rfl (by first | exact Or.inl rfl | exact Or.inr rfl)) (pgs_cons (pg_name (i := 7) sc__law_known_right.nd rfl (by first | exact Or.inl rfl | exact Or.inr rfl)) (pgs_nil)))) (gok_tup (gsok_cons (gok_name 6) (gsok_cons (gok_name 7) (gsok_nil)))) (by decide) (wi_zip m_zip ⟨rfl, (w_bin dop_add (w_tup ⟨rfl, (w_int ⟨(by first | decide | (simp only [List.length_append, List.length_map, List.length_cons, List.length_nil, List.length_singleton, List.length_replicate, List.length_range, List.length_take, List.length_drop, List.length_dropLast, List.length_reverse, Bool.false_eq_true, eq_self, reduceIte, sizeLine_eq]; omega)), (w_sl (w_var 4 (w_neg (w_int ⟨rfl, ⟨_, rfl, ⟨rfl, ⟨rfl, rfl, (by unfold nDs; rw [cut_two]; simp only [List.length_append, List.length_map, List.length_cons, List.length_nil, List.length_singleton, List.length_replicate, List.length_range, List.length_take, List.length_drop, List.length_dropLast, List.length_reverse, Bool.false_eq_true, eq_self, reduceIte, sizeLine_eq]; omega), ⟨rfl, (w_sl (w_var 4 (w_neg (w_int ⟨rfl, ⟨_, rfl, ⟨rfl, (lc_filt fm_tup2 (enP) ((0 :: ns.dropLast.dropLast).zip ns.dropLast) (fun x => decide ((x.2 : Int) - (x.1 : Int) = 1)) (fun x => PyData.int (x.1 : Int)) _ rfl (zip_two ns) (by rw [sizeLine_eq]; omega) (fun k2 x hx => by skip; exact ⟨rfl, ⟨Nat.lt_of_sub_eq_succ rfl, ⟨Nat.lt_of_sub_eq_succ rfl, ⟨rfl, fun s2 H2 C2 cl2 fp2 => (wt_cmp (dop_eq (room64 hr)) (w_bin dop_sub (w_var 7 (w_var 6 ⟨rfl, rfl, (w_int ⟨rfl, rfl, _, rfl, ⟨rfl, fun ht s3 H3 C3 cl3 fp3 => (w_var 6 ⟨rfl, rfl⟩), fun ht => rfl⟩⟩)⟩))))⟩⟩⟩⟩) (fun p3 => ⟨rfl, _, _, rfl, rfl, (by have hf := List.length_filter_le (fun x : Nat × Nat => decide ((x.2 : Int) - (x.1 : Int) = 1)) ((0 :: ns.dropLast.dropLast).zip ns.dropLast); rw [List.length_map, List.length_map, sizeLine_eq]; omega), ?_⟩))⟩⟩⟩))))⟩⟩⟩⟩⟩))))⟩)⟩))⟩))⟩)))
      refine ⟨p, some (.va (tN ns)), ?_⟩
      rw [← fm_next hns]
      rfl
    · rintro e ⟨p, o4, rfl⟩
      show WSs2 _ _ _ [_, _, _, _, _, _, _, _, _] _
      -- line 137
      refine wss2_one (WS.two (ws_ret (w_cmp (dop_eq (room64 hr)) (w_var 5 (w_lc (own := [("_law_at", 8)]) rfl sc__law_known_right.nd (blkOk_by (N := N__law_known_right) (sc := defScope (topS 19)) (by decide +kernel)) (fun _ _ _ _ _ => pg_name (i := 8) sc__law_known_right.nd rfl (by first | exact Or.inl rfl | exact Or.inr rfl)) (gok_name 8) (by decide) (wi_range3 m_range ⟨rfl, (w_var 1 ⟨rfl, (w_neg (w_int ⟨rfl, ⟨rfl, (w_neg (w_int ⟨rfl, ⟨rfl, rfl, rfl, ⟨by omega, by omega, by omega, by omega, by omega⟩, (lc_map fm_name (fun (x : Nat) => PyData.int (x : Int)) ((List.range (pn + 1)).reverse) (fun (x : Nat) => PyData.int (2 * (x : Int))) _ rfl (kw_dn hp1 hp5) (by rw [List.length_reverse, List.length_range, sizeLine_eq]; omega) (fun k2 x hx => by have hx2 := List.mem_range.mp (List.mem_reverse.mp (List.mem_of_getElem? hx)); exact ⟨Nat.lt_of_sub_eq_succ rfl, fun s2 H2 C2 cl2 fp2 => (w_bin dop_mul (w_int (w_var 8 ⟨rfl, rfl, (by first | exact cmul_l (by omega) (by omega) | exact cmul_r (by omega) (by omega)), ⟨rfl, rfl⟩⟩)))⟩) (fun p4 => ⟨rfl, rfl, (ints_sh70 _ _), (ints_sh70 _ _), ?_⟩))⟩⟩))⟩⟩))⟩)⟩))))))
      have eF : ((layN 4 (kwR pn)).take ((layN 4 (kwR pn)).map tN).length).flatMap sgN = (List.range (pn + 1)).reverse.map (2 * ·) := by rw [List.length_map, List.take_length, k2]
      rw [eF, List.map_map]
      show back _ _ (QT (.va (.bool (PyData.eqv (.list ((List.range (pn + 1)).reverse.map fun (x : Nat) => PyData.int (2 * (x : Int)))) (.list ((List.range (pn + 1)).reverse.map fun (x : Nat) => PyData.int (2 * (x : Int))))))))
      rw [eqv_ints08]
      exact ⟨rfl, q _ _ _ (hp_1.le (by omega))⟩
end
end K08

namespace K08
open PySem PySem.Spec PyProof.Rows L2 QL
open LM GR
def spLaw (K : PySem.W.Frag) : Spc := fun ts QT _ => ∃ (a : Addr) (ns : List Int), ts = [scT K a ns] ∧ ns.length ≤ 63 ∧ QT (.va (.bool true)) [some (scT K a ns)]
section
variable {P : Program} {w : World} {K : PySem.W.Frag} {mg : Str → Option Value} {base : Heap} {Tq : List (Addr × Str)}
abbrev N_law : List Str := ["_law_script", "_law_spot", "_law_pot_here", "_law_turn"]
theorem sc_law : FnScope N_law ["_law_script"] (defScope (topS 20)) := ⟨rfl, rfl, rfl, by decide +kernel, rfl, by decide +kernel, by decide +kernel⟩
theorem g_law {f : Addr} {fd : FuncData} {k : Nat} (Fn : Fun K "law" "law" (topS 20) f fd) (G__law_pot : Df P w K mg base Tq k "_law_pot" ["_law_script", "_law_spot"] (spPot K)) (m_all : mg "all" = none) (m_len : mg "len" = none) (m_max : mg "max" = none) (m_min : mg "min" = none) (m_range : mg "range" = none) (J__law_known_right : Df2 P w K mg base Tq k "_law_known_right" ["_law_pot_here"] spKnown) (J__law_right : Df2 P w K mg base Tq k "_law_right" ["_law_pot_here"] spRight) : FnG2 P w K mg base Tq (k + 1) f fd ["_law_script"] (spLaw K) := by
  refine fn_g2 Fn sc_law (fun ts Q E h => ?_) fun cdv A outer s H E Z ts QT ET hr hgd hp tk h => ?_
  · obtain ⟨a, ns, rfl, hl, q⟩ := h; rfl
  · obtain ⟨a, ns, rfl, hl, q⟩ := h
    refine wss2_cons (ws2_for hp rfl (pg_name (i := 1) sc_law.nd rfl (.inl rfl)) (gok_name 1) (wi_range1 m_range ⟨rfl, w_callB (dc_max2 rfl) m_max rfl ⟨rfl, w_int ⟨rfl, w_callB (dc_min2 rfl) m_min rfl ⟨rfl, w_int ⟨rfl, w_scLen 0 m_len rfl ⟨rfl, rfl, ⟨rfl, rfl, ⟨rfl, ⟨by omega, by omega⟩, ?_⟩⟩⟩⟩⟩⟩⟩⟩))
    refine ⟨fun j e => ∃ o1 o2, e = [some (scT K a ns), o1, o2, none], ⟨none, none, rfl⟩, ?_, ?_⟩
    · rintro j d e hd ⟨o1, o2, rfl⟩
      obtain ⟨rfl, hj⟩ := rangeD_at hd
      refine ⟨Nat.lt_of_sub_eq_succ rfl, ?_⟩
      -- line 140
      refine wss2_consL (ws_set 2 (w_fn G__law_pot hr hgd ⟨rfl, (w_var 0 ⟨rfl, (w_var 1 ⟨rfl, ⟨_, _, _, rfl, ⟨by omega, by omega⟩, (by first | assumption | omega | decide), fun p_1 x_1 y_1 hp_1 => ⟨rfl, rfl, ⟨Nat.lt_of_sub_eq_succ rfl, ?_⟩⟩⟩⟩)⟩)⟩) sc_law.nd)
      show WSs2 _ _ _ _ _
      -- line 141
      refine wss2_one (ws2_if (wt2_or (wt2_not (wt2_val (w2_callB (dc_all rfl) m_all rfl ⟨rfl, (w2_lc (own := [("_law_turn", 3)]) rfl sc_law.nd (blkOk_by (N := N_law) (sc := defScope (topS 20)) (by decide +kernel)) (fun _ _ _ _ _ => pg_name (i := 3) sc_law.nd rfl (by first | exact Or.inl rfl | exact Or.inr rfl)) (gok_name 3) (by decide) (wi_range1 m_range ⟨rfl, (w_int ⟨rfl, ⟨by omega, by omega⟩, ?lc⟩)⟩))⟩)))))
      case lc =>
        refine ⟨fun i acc e => ∃ x y z, PotOk (200 * i) x y z ∧ acc = (List.replicate i true).map PyData.bool ∧ e = [some (scT K a ns), some (.va (.int (0 + (j : Int)))), some (.lst p_1 (potD x y z)), none], ⟨x_1, y_1, 0, hp_1.le (by omega), rfl, rfl⟩, ?_, ?_⟩
        · rintro i d acc e hd ⟨x, y, z, hp1, rfl, rfl⟩
          obtain ⟨rfl, hi⟩ := rangeD_at hd
          have hi5 : i < 6 := hi
          refine ⟨Nat.lt_of_sub_eq_succ rfl, fun _ => ?_, fun z => nomatch z⟩
          intro s2 H2 C cl fp
          refine w2_fn J__law_right hr hgd ⟨rfl, WE.two (w_var 2 ⟨rfl, p_1, _, x, y, z, rfl, hp1, by omega, fun x' y' z' hp2 => ⟨rfl, rfl, ?_, x', y', z', hp2.le (by omega), ?_, rfl⟩⟩)⟩
          · rw [List.length_map, List.length_replicate, sizeLine_eq]; omega
          · rw [List.replicate_succ', List.map_append]; rfl
        · rintro acc e ⟨x, y, z, hp1, rfl, rfl⟩ p2
          refine ⟨rfl, _, rfl, ⟨_, rfl, ⟨fun h => ?_, fun h => ?_⟩⟩⟩
          · exact absurd h (by simp)
          refine wt2_not (wt2_val (w2_fn J__law_known_right hr hgd ⟨rfl, WE.two (w_var 2 ⟨rfl, p_1, _, x, y, z, rfl, hp1, by rw [rangeD_len]; omega, fun x' y' z' hp2 => ⟨rfl, rfl, true, rfl, fun h => absurd h (by decide), fun h => wss2_nil ⟨_, _, rfl⟩⟩⟩)⟩))
    · rintro e ⟨o1, o2, rfl⟩
      exact wss2_one (WS.two (ws_ret (w_bl ⟨rfl, q⟩)))
end
end K08

namespace K08
open PySem PySem.Spec PyProof.Rows L2 QL

def fnL0 : List FnQ := [⟨fun K => (He.ga K "sums_of"), "sums_of", "sums_of", topS 2, false⟩,
  ⟨fun K => (He.ga K "length_by"), "length_by", "length_by", topS 3, false⟩,
  ⟨fun K => (He.ma K (He.ga K "Table") "begins"), "begins", "Table.begins", inClass (topS 5) 1, false⟩,
  ⟨fun K => (He.ma K (He.ga K "Table") "square"), "square", "Table.square", inClass (topS 5) 2, false⟩,
  ⟨fun K => (He.ma K (He.ga K "Table") "last_start"), "last_start", "Table.last_start", inClass (topS 5) 4, false⟩,
  ⟨fun K => (He.ma K (He.ga K "Table") "__init__"), "__init__", "Table.__init__", inClass (topS 5) 0, false⟩,
  ⟨fun K => (He.ma K (He.ga K "Choices") "__init__"), "__init__", "Choices.__init__", inClass (topS 6) 0, false⟩,
  ⟨fun K => (He.ma K (He.ga K "Choices") "ways"), "ways", "Choices.ways", inClass (topS 6) 1, false⟩,
  ⟨fun K => (He.ga K "count_best"), "count_best", "count_best", topS 7, false⟩,
  ⟨fun K => (He.ma K (He.ga K "Choices") "layouts"), "layouts", "Choices.layouts", inClass (topS 6) 2, false⟩,
  ⟨fun K => (He.ga K "best_layouts"), "best_layouts", "best_layouts", topS 8, false⟩,
  ⟨fun K => (He.ga K "_law_pot"), "_law_pot", "_law_pot", topS 10, false⟩,
  ⟨fun K => (He.ga K "_law_take"), "_law_take", "_law_take", topS 11, false⟩,
  ⟨fun K => (He.ga K "_law_row"), "_law_row", "_law_row", topS 13, false⟩,
  ⟨fun K => (He.ga K "_law_length"), "_law_length", "_law_length", topS 14, false⟩,
  ⟨fun K => (He.ga K "_law_plans"), "_law_plans", "_law_plans", topS 15, false⟩,
  ⟨fun K => (He.ga K "_law_squares"), "_law_squares", "_law_squares", topS 16, false⟩,
  ⟨fun K => (He.ga K "_law_chosen"), "_law_chosen", "_law_chosen", topS 17, false⟩,
  ⟨fun K => (He.ga K "_law_right"), "_law_right", "_law_right", topS 18, false⟩,
  ⟨fun K => (He.ga K "_law_known_right"), "_law_known_right", "_law_known_right", topS 19, false⟩]
def fnL1 : List FnQ := [⟨fun K => (He.ga K "law"), "law", "law", topS 20, false⟩]
def fnL : List FnQ := fnL0 ++ fnL1
def xsL0 : List (PySem.W.Frag → Bool) := [fun K => decide (PySem.W.nsIn K mainGlobals "Choices" = some (some (.ref (He.ga K "Choices")))),
  fun K => PySem.W.plainGet K (He.ga K "Choices") Str.empty,
  fun K => PySem.W.hasDictIn K (He.ga K "Choices"),
  fun K => PySem.W.plainOver K (He.ga K "Choices"),
  fun K => decide (PySem.W.findIn K (.ref (He.ga K "Choices")) "__setattr__" = some (some (.builtin "object.__setattr__"))),
  fun K => PySem.W.makesIn K (He.ga K "Choices"),
  fun K => PySem.W.keepIn K (.ref (He.ga K "Choices")),
  fun K => decide (PySem.W.findIn K (.ref (He.ga K "Choices")) "count" = some none),
  fun K => decide (PySem.W.findIn K (.ref (He.ga K "Choices")) "begins_of" = some none),
  fun K => decide (PySem.W.nsIn K mainGlobals "Table" = some (some (.ref (He.ga K "Table")))),
  fun K => PySem.W.plainGet K (He.ga K "Table") Str.empty,
  fun K => PySem.W.hasDictIn K (He.ga K "Table"),
  fun K => PySem.W.plainOver K (He.ga K "Table"),
  fun K => decide (PySem.W.findIn K (.ref (He.ga K "Table")) "__setattr__" = some (some (.builtin "object.__setattr__"))),
  fun K => PySem.W.makesIn K (He.ga K "Table"),
  fun K => PySem.W.keepIn K (.ref (He.ga K "Table")),
  fun K => decide (PySem.W.findIn K (.ref (He.ga K "Table")) "wide" = some none),
  fun K => decide (PySem.W.findIn K (.ref (He.ga K "Table")) "sums" = some none),
  fun K => decide (PySem.W.findIn K (.ref (He.ga K "Table")) "costs" = some none),
  fun K => decide (PySem.W.findIn K (.ref (He.ga K "Table")) "befores" = some none),
  fun K => decide (PySem.W.nsIn K mainGlobals "sums_of" = some (some (.ref (He.ga K "sums_of")))),
  fun K => PySem.W.keepIn K (.ref (He.ga K "sums_of")),
  fun K => decide (PySem.W.nsIn K mainGlobals "length_by" = some (some (.ref (He.ga K "length_by")))),
  fun K => PySem.W.keepIn K (.ref (He.ga K "length_by")),
  fun K => decide (PySem.W.findIn K (.ref (He.ga K "Table")) "begins" = some (some (.ref (He.ma K (He.ga K "Table") "begins")))),
  fun K => PySem.W.isFn K (.ref (He.ma K (He.ga K "Table") "begins")),
  fun K => PySem.W.keepIn K (.ref (He.ma K (He.ga K "Table") "begins")),
  fun K => decide (PySem.W.findIn K (.ref (He.ga K "Table")) "square" = some (some (.ref (He.ma K (He.ga K "Table") "square")))),
  fun K => PySem.W.isFn K (.ref (He.ma K (He.ga K "Table") "square")),
  fun K => PySem.W.keepIn K (.ref (He.ma K (He.ga K "Table") "square")),
  fun K => decide (PySem.W.findIn K (.ref (He.ga K "Table")) "last_start" = some (some (.ref (He.ma K (He.ga K "Table") "last_start")))),
  fun K => PySem.W.isFn K (.ref (He.ma K (He.ga K "Table") "last_start")),
  fun K => PySem.W.keepIn K (.ref (He.ma K (He.ga K "Table") "last_start")),
  fun K => decide (PySem.W.findIn K (.ref (He.ga K "Table")) "__init__" = some (some (.ref (He.ma K (He.ga K "Table") "__init__")))),
  fun K => PySem.W.isFn K (.ref (He.ma K (He.ga K "Table") "__init__")),
  fun K => PySem.W.keepIn K (.ref (He.ma K (He.ga K "Table") "__init__")),
  fun K => decide (PySem.W.findIn K (.ref (He.ga K "Choices")) "__init__" = some (some (.ref (He.ma K (He.ga K "Choices") "__init__")))),
  fun K => PySem.W.isFn K (.ref (He.ma K (He.ga K "Choices") "__init__")),
  fun K => PySem.W.keepIn K (.ref (He.ma K (He.ga K "Choices") "__init__")),
  fun K => decide (PySem.W.findIn K (.ref (He.ga K "Choices")) "ways" = some (some (.ref (He.ma K (He.ga K "Choices") "ways"))))]
def xsL1 : List (PySem.W.Frag → Bool) := [fun K => PySem.W.isFn K (.ref (He.ma K (He.ga K "Choices") "ways")),
  fun K => PySem.W.keepIn K (.ref (He.ma K (He.ga K "Choices") "ways")),
  fun K => decide (PySem.W.nsIn K mainGlobals "count_best" = some (some (.ref (He.ga K "count_best")))),
  fun K => PySem.W.keepIn K (.ref (He.ga K "count_best")),
  fun K => decide (PySem.W.findIn K (.ref (He.ga K "Choices")) "layouts" = some (some (.ref (He.ma K (He.ga K "Choices") "layouts")))),
  fun K => PySem.W.isFn K (.ref (He.ma K (He.ga K "Choices") "layouts")),
  fun K => PySem.W.keepIn K (.ref (He.ma K (He.ga K "Choices") "layouts")),
  fun K => decide (PySem.W.nsIn K mainGlobals "best_layouts" = some (some (.ref (He.ga K "best_layouts")))),
  fun K => PySem.W.keepIn K (.ref (He.ga K "best_layouts")),
  fun K => decide (PySem.W.nsIn K mainGlobals "_law_pot" = some (some (.ref (He.ga K "_law_pot")))),
  fun K => PySem.W.keepIn K (.ref (He.ga K "_law_pot")),
  fun K => decide (PySem.W.nsIn K mainGlobals "_law_take" = some (some (.ref (He.ga K "_law_take")))),
  fun K => PySem.W.keepIn K (.ref (He.ga K "_law_take")),
  fun K => decide (PySem.W.nsIn K mainGlobals "_law_row" = some (some (.ref (He.ga K "_law_row")))),
  fun K => PySem.W.keepIn K (.ref (He.ga K "_law_row")),
  fun K => decide (PySem.W.nsIn K mainGlobals "_law_length" = some (some (.ref (He.ga K "_law_length")))),
  fun K => PySem.W.keepIn K (.ref (He.ga K "_law_length")),
  fun K => decide (PySem.W.nsIn K mainGlobals "_law_plans" = some (some (.ref (He.ga K "_law_plans")))),
  fun K => PySem.W.keepIn K (.ref (He.ga K "_law_plans")),
  fun K => decide (PySem.W.nsIn K mainGlobals "_law_squares" = some (some (.ref (He.ga K "_law_squares")))),
  fun K => PySem.W.keepIn K (.ref (He.ga K "_law_squares")),
  fun K => decide (PySem.W.nsIn K mainGlobals "_law_chosen" = some (some (.ref (He.ga K "_law_chosen")))),
  fun K => PySem.W.keepIn K (.ref (He.ga K "_law_chosen")),
  fun K => decide (PySem.W.nsIn K mainGlobals "_law_right" = some (some (.ref (He.ga K "_law_right")))),
  fun K => PySem.W.keepIn K (.ref (He.ga K "_law_right")),
  fun K => decide (PySem.W.nsIn K mainGlobals "_law_known_right" = some (some (.ref (He.ga K "_law_known_right")))),
  fun K => PySem.W.keepIn K (.ref (He.ga K "_law_known_right")),
  fun K => decide (PySem.W.nsIn K mainGlobals "law" = some (some (.ref (He.ga K "law")))),
  fun K => PySem.W.keepIn K (.ref (He.ga K "law")),
  fun K => decide (PySem.W.nsIn K mainGlobals "abs" = some none),
  fun K => decide (PySem.W.nsIn K mainGlobals "all" = some none),
  fun K => decide (PySem.W.nsIn K mainGlobals "int" = some none),
  fun K => decide (PySem.W.nsIn K mainGlobals "len" = some none),
  fun K => decide (PySem.W.nsIn K mainGlobals "list" = some none),
  fun K => decide (PySem.W.nsIn K mainGlobals "max" = some none),
  fun K => decide (PySem.W.nsIn K mainGlobals "min" = some none),
  fun K => decide (PySem.W.nsIn K mainGlobals "range" = some none),
  fun K => decide (PySem.W.nsIn K mainGlobals "repr" = some none),
  fun K => decide (PySem.W.nsIn K mainGlobals "reversed" = some none),
  fun K => decide (PySem.W.nsIn K mainGlobals "sorted" = some none)]
def xsL2 : List (PySem.W.Frag → Bool) := [fun K => decide (PySem.W.nsIn K mainGlobals "sum" = some none),
  fun K => decide (PySem.W.nsIn K mainGlobals "tuple" = some none),
  fun K => decide (PySem.W.nsIn K mainGlobals "zip" = some none)]
def xsL : List (PySem.W.Frag → Bool) := xsL0 ++ xsL1 ++ xsL2
def mkL : List (PySem.W.Frag → Addr) := []
theorem head_ok {l : PySem.W.OpenLaw} {w : World} {K : PySem.W.Frag} {h : Heap} {mg : Str → Option Value} {fa : Addr} (X : K.In h) (G : h.Ns mainGlobals mg) (hfa : mg "law" = some (.ref fa)) (c : SaysQ fnL xsL mkL h K) :
    ∃ (cs : Cs), CsAt K h cs ∧ ∃ (fd : FuncData), (∀ (s : Shared) (v : Value), BindsTo s fd ⟨[v], []⟩ [("_law_script", v)]) ∧ ∀ base : Heap, K.In base → base.Ns mainGlobals mg → (∀ p ∈ cs, LamX.TabB base mg p.1 p.2.1) → FnG2 l.prog w K mg base (Cs.tqE cs []) 12 fa fd ["_law_script"] (spLaw K) := by
  have aaChoices : PySem.W.nsIn K mainGlobals "Choices" = some (some (.ref (He.ga K "Choices"))) := of_decide_eq_true (exF c.xs 0 rfl)
  have pgChoices : PySem.W.plainGet K (He.ga K "Choices") Str.empty = true := exF c.xs 1 rfl
  have hdChoices : PySem.W.hasDictIn K (He.ga K "Choices") = true := exF c.xs 2 rfl
  have poChoices : PySem.W.plainOver K (He.ga K "Choices") = true := exF c.xs 3 rfl
  have saChoices : PySem.W.findIn K (.ref (He.ga K "Choices")) "__setattr__" = some (some (.builtin "object.__setattr__")) := of_decide_eq_true (exF c.xs 4 rfl)
  have mkChoices : PySem.W.makesIn K (He.ga K "Choices") = true := exF c.xs 5 rfl
  have kcChoices : PySem.W.keepIn K (.ref (He.ga K "Choices")) = true := exF c.xs 6 rfl
  have nChoices_count : PySem.W.findIn K (.ref (He.ga K "Choices")) "count" = some none := of_decide_eq_true (exF c.xs 7 rfl)
  have nChoices_begins_of : PySem.W.findIn K (.ref (He.ga K "Choices")) "begins_of" = some none := of_decide_eq_true (exF c.xs 8 rfl)
  have aaTable : PySem.W.nsIn K mainGlobals "Table" = some (some (.ref (He.ga K "Table"))) := of_decide_eq_true (exF c.xs 9 rfl)
  have pgTable : PySem.W.plainGet K (He.ga K "Table") Str.empty = true := exF c.xs 10 rfl
  have hdTable : PySem.W.hasDictIn K (He.ga K "Table") = true := exF c.xs 11 rfl
  have poTable : PySem.W.plainOver K (He.ga K "Table") = true := exF c.xs 12 rfl
  have saTable : PySem.W.findIn K (.ref (He.ga K "Table")) "__setattr__" = some (some (.builtin "object.__setattr__")) := of_decide_eq_true (exF c.xs 13 rfl)
  have mkTable : PySem.W.makesIn K (He.ga K "Table") = true := exF c.xs 14 rfl
  have kcTable : PySem.W.keepIn K (.ref (He.ga K "Table")) = true := exF c.xs 15 rfl
  have nTable_wide : PySem.W.findIn K (.ref (He.ga K "Table")) "wide" = some none := of_decide_eq_true (exF c.xs 16 rfl)
  have nTable_sums : PySem.W.findIn K (.ref (He.ga K "Table")) "sums" = some none := of_decide_eq_true (exF c.xs 17 rfl)
  have nTable_costs : PySem.W.findIn K (.ref (He.ga K "Table")) "costs" = some none := of_decide_eq_true (exF c.xs 18 rfl)
  have nTable_befores : PySem.W.findIn K (.ref (He.ga K "Table")) "befores" = some none := of_decide_eq_true (exF c.xs 19 rfl)
  have a0 : PySem.W.nsIn K mainGlobals "sums_of" = some (some (.ref (He.ga K "sums_of"))) := of_decide_eq_true (exF c.xs 20 rfl)
  obtain ⟨oc0, od0, kV0, dc0, pm0, an0, cd0, ct0, sl0, l0, c0⟩ := FnQ.get0 (c.fns 0 _ rfl).1 (c.fns 0 _ rfl).2 rfl
  replace l0 : K.lookup (He.ga K "sums_of") = some ⟨oc0, od0, .func (PySem.W.fnOf "sums_of" "sums_of" (defArgs (topS 2)) (defBody (topS 2)) (defScope (topS 2)) .none kV0 dc0 pm0 an0 cd0 ct0), sl0⟩ := l0
  replace c0 : PySem.W.codeIn K cd0 "sums_of" = true := c0
  have k0 : PySem.W.keepIn K (.ref (He.ga K "sums_of")) = true := exF c.xs 21 rfl
  have a1 : PySem.W.nsIn K mainGlobals "length_by" = some (some (.ref (He.ga K "length_by"))) := of_decide_eq_true (exF c.xs 22 rfl)
  obtain ⟨oc1, od1, kV1, dc1, pm1, an1, cd1, ct1, sl1, l1, c1⟩ := FnQ.get0 (c.fns 1 _ rfl).1 (c.fns 1 _ rfl).2 rfl
  replace l1 : K.lookup (He.ga K "length_by") = some ⟨oc1, od1, .func (PySem.W.fnOf "length_by" "length_by" (defArgs (topS 3)) (defBody (topS 3)) (defScope (topS 3)) .none kV1 dc1 pm1 an1 cd1 ct1), sl1⟩ := l1
  replace c1 : PySem.W.codeIn K cd1 "length_by" = true := c1
  have k1 : PySem.W.keepIn K (.ref (He.ga K "length_by")) = true := exF c.xs 23 rfl
  have a2 : PySem.W.findIn K (.ref (He.ga K "Table")) "begins" = some (some (.ref (He.ma K (He.ga K "Table") "begins"))) := of_decide_eq_true (exF c.xs 24 rfl)
  have i2 : PySem.W.isFn K (.ref (He.ma K (He.ga K "Table") "begins")) = true := exF c.xs 25 rfl
  obtain ⟨oc2, od2, kV2, dc2, pm2, an2, cd2, ct2, sl2, l2, c2⟩ := FnQ.get0 (c.fns 2 _ rfl).1 (c.fns 2 _ rfl).2 rfl
  replace l2 : K.lookup (He.ma K (He.ga K "Table") "begins") = some ⟨oc2, od2, .func (PySem.W.fnOf "begins" "Table.begins" (defArgs (inClass (topS 5) 1)) (defBody (inClass (topS 5) 1)) (defScope (inClass (topS 5) 1)) .none kV2 dc2 pm2 an2 cd2 ct2), sl2⟩ := l2
  replace c2 : PySem.W.codeIn K cd2 "Table.begins" = true := c2
  have k2 : PySem.W.keepIn K (.ref (He.ma K (He.ga K "Table") "begins")) = true := exF c.xs 26 rfl
  have a3 : PySem.W.findIn K (.ref (He.ga K "Table")) "square" = some (some (.ref (He.ma K (He.ga K "Table") "square"))) := of_decide_eq_true (exF c.xs 27 rfl)
  have i3 : PySem.W.isFn K (.ref (He.ma K (He.ga K "Table") "square")) = true := exF c.xs 28 rfl
  obtain ⟨oc3, od3, kV3, dc3, pm3, an3, cd3, ct3, sl3, l3, c3⟩ := FnQ.get0 (c.fns 3 _ rfl).1 (c.fns 3 _ rfl).2 rfl
  replace l3 : K.lookup (He.ma K (He.ga K "Table") "square") = some ⟨oc3, od3, .func (PySem.W.fnOf "square" "Table.square" (defArgs (inClass (topS 5) 2)) (defBody (inClass (topS 5) 2)) (defScope (inClass (topS 5) 2)) .none kV3 dc3 pm3 an3 cd3 ct3), sl3⟩ := l3
  replace c3 : PySem.W.codeIn K cd3 "Table.square" = true := c3
  have k3 : PySem.W.keepIn K (.ref (He.ma K (He.ga K "Table") "square")) = true := exF c.xs 29 rfl
  have a4 : PySem.W.findIn K (.ref (He.ga K "Table")) "last_start" = some (some (.ref (He.ma K (He.ga K "Table") "last_start"))) := of_decide_eq_true (exF c.xs 30 rfl)
  have i4 : PySem.W.isFn K (.ref (He.ma K (He.ga K "Table") "last_start")) = true := exF c.xs 31 rfl
  obtain ⟨oc4, od4, kV4, dc4, pm4, an4, cd4, ct4, sl4, l4, c4⟩ := FnQ.get0 (c.fns 4 _ rfl).1 (c.fns 4 _ rfl).2 rfl
  replace l4 : K.lookup (He.ma K (He.ga K "Table") "last_start") = some ⟨oc4, od4, .func (PySem.W.fnOf "last_start" "Table.last_start" (defArgs (inClass (topS 5) 4)) (defBody (inClass (topS 5) 4)) (defScope (inClass (topS 5) 4)) .none kV4 dc4 pm4 an4 cd4 ct4), sl4⟩ := l4
  replace c4 : PySem.W.codeIn K cd4 "Table.last_start" = true := c4
  have k4 : PySem.W.keepIn K (.ref (He.ma K (He.ga K "Table") "last_start")) = true := exF c.xs 32 rfl
  have a5 : PySem.W.findIn K (.ref (He.ga K "Table")) "__init__" = some (some (.ref (He.ma K (He.ga K "Table") "__init__"))) := of_decide_eq_true (exF c.xs 33 rfl)
  have i5 : PySem.W.isFn K (.ref (He.ma K (He.ga K "Table") "__init__")) = true := exF c.xs 34 rfl
  obtain ⟨oc5, od5, kV5, dc5, pm5, an5, cd5, ct5, sl5, l5, c5⟩ := FnQ.get0 (c.fns 5 _ rfl).1 (c.fns 5 _ rfl).2 rfl
  replace l5 : K.lookup (He.ma K (He.ga K "Table") "__init__") = some ⟨oc5, od5, .func (PySem.W.fnOf "__init__" "Table.__init__" (defArgs (inClass (topS 5) 0)) (defBody (inClass (topS 5) 0)) (defScope (inClass (topS 5) 0)) .none kV5 dc5 pm5 an5 cd5 ct5), sl5⟩ := l5
  replace c5 : PySem.W.codeIn K cd5 "Table.__init__" = true := c5
  have k5 : PySem.W.keepIn K (.ref (He.ma K (He.ga K "Table") "__init__")) = true := exF c.xs 35 rfl
  have a6 : PySem.W.findIn K (.ref (He.ga K "Choices")) "__init__" = some (some (.ref (He.ma K (He.ga K "Choices") "__init__"))) := of_decide_eq_true (exF c.xs 36 rfl)
  have i6 : PySem.W.isFn K (.ref (He.ma K (He.ga K "Choices") "__init__")) = true := exF c.xs 37 rfl
  obtain ⟨oc6, od6, kV6, dc6, pm6, an6, cd6, ct6, sl6, l6, c6⟩ := FnQ.get0 (c.fns 6 _ rfl).1 (c.fns 6 _ rfl).2 rfl
  replace l6 : K.lookup (He.ma K (He.ga K "Choices") "__init__") = some ⟨oc6, od6, .func (PySem.W.fnOf "__init__" "Choices.__init__" (defArgs (inClass (topS 6) 0)) (defBody (inClass (topS 6) 0)) (defScope (inClass (topS 6) 0)) .none kV6 dc6 pm6 an6 cd6 ct6), sl6⟩ := l6
  replace c6 : PySem.W.codeIn K cd6 "Choices.__init__" = true := c6
  have k6 : PySem.W.keepIn K (.ref (He.ma K (He.ga K "Choices") "__init__")) = true := exF c.xs 38 rfl
  have a7 : PySem.W.findIn K (.ref (He.ga K "Choices")) "ways" = some (some (.ref (He.ma K (He.ga K "Choices") "ways"))) := of_decide_eq_true (exF c.xs 39 rfl)
  have i7 : PySem.W.isFn K (.ref (He.ma K (He.ga K "Choices") "ways")) = true := exF c.xs 40 rfl
  obtain ⟨oc7, od7, kV7, dc7, pm7, an7, cd7, ct7, sl7, l7, c7⟩ := FnQ.get0 (c.fns 7 _ rfl).1 (c.fns 7 _ rfl).2 rfl
  replace l7 : K.lookup (He.ma K (He.ga K "Choices") "ways") = some ⟨oc7, od7, .func (PySem.W.fnOf "ways" "Choices.ways" (defArgs (inClass (topS 6) 1)) (defBody (inClass (topS 6) 1)) (defScope (inClass (topS 6) 1)) .none kV7 dc7 pm7 an7 cd7 ct7), sl7⟩ := l7
  replace c7 : PySem.W.codeIn K cd7 "Choices.ways" = true := c7
  have k7 : PySem.W.keepIn K (.ref (He.ma K (He.ga K "Choices") "ways")) = true := exF c.xs 41 rfl
  have a8 : PySem.W.nsIn K mainGlobals "count_best" = some (some (.ref (He.ga K "count_best"))) := of_decide_eq_true (exF c.xs 42 rfl)
  obtain ⟨oc8, od8, kV8, dc8, pm8, an8, cd8, ct8, sl8, l8, c8⟩ := FnQ.get0 (c.fns 8 _ rfl).1 (c.fns 8 _ rfl).2 rfl
  replace l8 : K.lookup (He.ga K "count_best") = some ⟨oc8, od8, .func (PySem.W.fnOf "count_best" "count_best" (defArgs (topS 7)) (defBody (topS 7)) (defScope (topS 7)) .none kV8 dc8 pm8 an8 cd8 ct8), sl8⟩ := l8
  replace c8 : PySem.W.codeIn K cd8 "count_best" = true := c8
  have k8 : PySem.W.keepIn K (.ref (He.ga K "count_best")) = true := exF c.xs 43 rfl
  have a9 : PySem.W.findIn K (.ref (He.ga K "Choices")) "layouts" = some (some (.ref (He.ma K (He.ga K "Choices") "layouts"))) := of_decide_eq_true (exF c.xs 44 rfl)
  have i9 : PySem.W.isFn K (.ref (He.ma K (He.ga K "Choices") "layouts")) = true := exF c.xs 45 rfl
  obtain ⟨oc9, od9, kV9, dc9, pm9, an9, cd9, ct9, sl9, l9, c9⟩ := FnQ.get0 (c.fns 9 _ rfl).1 (c.fns 9 _ rfl).2 rfl
  replace l9 : K.lookup (He.ma K (He.ga K "Choices") "layouts") = some ⟨oc9, od9, .func (PySem.W.fnOf "layouts" "Choices.layouts" (defArgs (inClass (topS 6) 2)) (defBody (inClass (topS 6) 2)) (defScope (inClass (topS 6) 2)) .none kV9 dc9 pm9 an9 cd9 ct9), sl9⟩ := l9
  replace c9 : PySem.W.codeIn K cd9 "Choices.layouts" = true := c9
  have k9 : PySem.W.keepIn K (.ref (He.ma K (He.ga K "Choices") "layouts")) = true := exF c.xs 46 rfl
  have a10 : PySem.W.nsIn K mainGlobals "best_layouts" = some (some (.ref (He.ga K "best_layouts"))) := of_decide_eq_true (exF c.xs 47 rfl)
  obtain ⟨oc10, od10, kV10, dc10, pm10, an10, cd10, ct10, sl10, l10, c10⟩ := FnQ.get0 (c.fns 10 _ rfl).1 (c.fns 10 _ rfl).2 rfl
  replace l10 : K.lookup (He.ga K "best_layouts") = some ⟨oc10, od10, .func (PySem.W.fnOf "best_layouts" "best_layouts" (defArgs (topS 8)) (defBody (topS 8)) (defScope (topS 8)) .none kV10 dc10 pm10 an10 cd10 ct10), sl10⟩ := l10
  replace c10 : PySem.W.codeIn K cd10 "best_layouts" = true := c10
  have k10 : PySem.W.keepIn K (.ref (He.ga K "best_layouts")) = true := exF c.xs 48 rfl
  have a11 : PySem.W.nsIn K mainGlobals "_law_pot" = some (some (.ref (He.ga K "_law_pot"))) := of_decide_eq_true (exF c.xs 49 rfl)
  obtain ⟨oc11, od11, kV11, dc11, pm11, an11, cd11, ct11, sl11, l11, c11⟩ := FnQ.get0 (c.fns 11 _ rfl).1 (c.fns 11 _ rfl).2 rfl
  replace l11 : K.lookup (He.ga K "_law_pot") = some ⟨oc11, od11, .func (PySem.W.fnOf "_law_pot" "_law_pot" (defArgs (topS 10)) (defBody (topS 10)) (defScope (topS 10)) .none kV11 dc11 pm11 an11 cd11 ct11), sl11⟩ := l11
  replace c11 : PySem.W.codeIn K cd11 "_law_pot" = true := c11
  have k11 : PySem.W.keepIn K (.ref (He.ga K "_law_pot")) = true := exF c.xs 50 rfl
  have a12 : PySem.W.nsIn K mainGlobals "_law_take" = some (some (.ref (He.ga K "_law_take"))) := of_decide_eq_true (exF c.xs 51 rfl)
  obtain ⟨oc12, od12, kV12, dc12, pm12, an12, cd12, ct12, sl12, l12, c12⟩ := FnQ.get0 (c.fns 12 _ rfl).1 (c.fns 12 _ rfl).2 rfl
  replace l12 : K.lookup (He.ga K "_law_take") = some ⟨oc12, od12, .func (PySem.W.fnOf "_law_take" "_law_take" (defArgs (topS 11)) (defBody (topS 11)) (defScope (topS 11)) .none kV12 dc12 pm12 an12 cd12 ct12), sl12⟩ := l12
  replace c12 : PySem.W.codeIn K cd12 "_law_take" = true := c12
  have k12 : PySem.W.keepIn K (.ref (He.ga K "_law_take")) = true := exF c.xs 52 rfl
  have a13 : PySem.W.nsIn K mainGlobals "_law_row" = some (some (.ref (He.ga K "_law_row"))) := of_decide_eq_true (exF c.xs 53 rfl)
  obtain ⟨oc13, od13, kV13, dc13, pm13, an13, cd13, ct13, sl13, l13, c13⟩ := FnQ.get0 (c.fns 13 _ rfl).1 (c.fns 13 _ rfl).2 rfl
  replace l13 : K.lookup (He.ga K "_law_row") = some ⟨oc13, od13, .func (PySem.W.fnOf "_law_row" "_law_row" (defArgs (topS 13)) (defBody (topS 13)) (defScope (topS 13)) .none kV13 dc13 pm13 an13 cd13 ct13), sl13⟩ := l13
  replace c13 : PySem.W.codeIn K cd13 "_law_row" = true := c13
  have k13 : PySem.W.keepIn K (.ref (He.ga K "_law_row")) = true := exF c.xs 54 rfl
  have a14 : PySem.W.nsIn K mainGlobals "_law_length" = some (some (.ref (He.ga K "_law_length"))) := of_decide_eq_true (exF c.xs 55 rfl)
  obtain ⟨oc14, od14, kV14, dc14, pm14, an14, cd14, ct14, sl14, l14, c14⟩ := FnQ.get0 (c.fns 14 _ rfl).1 (c.fns 14 _ rfl).2 rfl
  replace l14 : K.lookup (He.ga K "_law_length") = some ⟨oc14, od14, .func (PySem.W.fnOf "_law_length" "_law_length" (defArgs (topS 14)) (defBody (topS 14)) (defScope (topS 14)) .none kV14 dc14 pm14 an14 cd14 ct14), sl14⟩ := l14
  replace c14 : PySem.W.codeIn K cd14 "_law_length" = true := c14
  have k14 : PySem.W.keepIn K (.ref (He.ga K "_law_length")) = true := exF c.xs 56 rfl
  have a15 : PySem.W.nsIn K mainGlobals "_law_plans" = some (some (.ref (He.ga K "_law_plans"))) := of_decide_eq_true (exF c.xs 57 rfl)
  obtain ⟨oc15, od15, kV15, dc15, pm15, an15, cd15, ct15, sl15, l15, c15⟩ := FnQ.get0 (c.fns 15 _ rfl).1 (c.fns 15 _ rfl).2 rfl
  replace l15 : K.lookup (He.ga K "_law_plans") = some ⟨oc15, od15, .func (PySem.W.fnOf "_law_plans" "_law_plans" (defArgs (topS 15)) (defBody (topS 15)) (defScope (topS 15)) .none kV15 dc15 pm15 an15 cd15 ct15), sl15⟩ := l15
  replace c15 : PySem.W.codeIn K cd15 "_law_plans" = true := c15
  have k15 : PySem.W.keepIn K (.ref (He.ga K "_law_plans")) = true := exF c.xs 58 rfl
  have a16 : PySem.W.nsIn K mainGlobals "_law_squares" = some (some (.ref (He.ga K "_law_squares"))) := of_decide_eq_true (exF c.xs 59 rfl)
  obtain ⟨oc16, od16, kV16, dc16, pm16, an16, cd16, ct16, sl16, l16, c16⟩ := FnQ.get0 (c.fns 16 _ rfl).1 (c.fns 16 _ rfl).2 rfl
  replace l16 : K.lookup (He.ga K "_law_squares") = some ⟨oc16, od16, .func (PySem.W.fnOf "_law_squares" "_law_squares" (defArgs (topS 16)) (defBody (topS 16)) (defScope (topS 16)) .none kV16 dc16 pm16 an16 cd16 ct16), sl16⟩ := l16
  replace c16 : PySem.W.codeIn K cd16 "_law_squares" = true := c16
  have k16 : PySem.W.keepIn K (.ref (He.ga K "_law_squares")) = true := exF c.xs 60 rfl
  have a17 : PySem.W.nsIn K mainGlobals "_law_chosen" = some (some (.ref (He.ga K "_law_chosen"))) := of_decide_eq_true (exF c.xs 61 rfl)
  obtain ⟨oc17, od17, kV17, dc17, pm17, an17, cd17, ct17, sl17, l17, c17⟩ := FnQ.get0 (c.fns 17 _ rfl).1 (c.fns 17 _ rfl).2 rfl
  replace l17 : K.lookup (He.ga K "_law_chosen") = some ⟨oc17, od17, .func (PySem.W.fnOf "_law_chosen" "_law_chosen" (defArgs (topS 17)) (defBody (topS 17)) (defScope (topS 17)) .none kV17 dc17 pm17 an17 cd17 ct17), sl17⟩ := l17
  replace c17 : PySem.W.codeIn K cd17 "_law_chosen" = true := c17
  have k17 : PySem.W.keepIn K (.ref (He.ga K "_law_chosen")) = true := exF c.xs 62 rfl
  have a18 : PySem.W.nsIn K mainGlobals "_law_right" = some (some (.ref (He.ga K "_law_right"))) := of_decide_eq_true (exF c.xs 63 rfl)
  obtain ⟨oc18, od18, kV18, dc18, pm18, an18, cd18, ct18, sl18, l18, c18⟩ := FnQ.get0 (c.fns 18 _ rfl).1 (c.fns 18 _ rfl).2 rfl
  replace l18 : K.lookup (He.ga K "_law_right") = some ⟨oc18, od18, .func (PySem.W.fnOf "_law_right" "_law_right" (defArgs (topS 18)) (defBody (topS 18)) (defScope (topS 18)) .none kV18 dc18 pm18 an18 cd18 ct18), sl18⟩ := l18
  replace c18 : PySem.W.codeIn K cd18 "_law_right" = true := c18
  have k18 : PySem.W.keepIn K (.ref (He.ga K "_law_right")) = true := exF c.xs 64 rfl
  have a19 : PySem.W.nsIn K mainGlobals "_law_known_right" = some (some (.ref (He.ga K "_law_known_right"))) := of_decide_eq_true (exF c.xs 65 rfl)
  obtain ⟨oc19, od19, kV19, dc19, pm19, an19, cd19, ct19, sl19, l19, c19⟩ := FnQ.get0 (c.fns 19 _ rfl).1 (c.fns 19 _ rfl).2 rfl
  replace l19 : K.lookup (He.ga K "_law_known_right") = some ⟨oc19, od19, .func (PySem.W.fnOf "_law_known_right" "_law_known_right" (defArgs (topS 19)) (defBody (topS 19)) (defScope (topS 19)) .none kV19 dc19 pm19 an19 cd19 ct19), sl19⟩ := l19
  replace c19 : PySem.W.codeIn K cd19 "_law_known_right" = true := c19
  have k19 : PySem.W.keepIn K (.ref (He.ga K "_law_known_right")) = true := exF c.xs 66 rfl
  have a20 : PySem.W.nsIn K mainGlobals "law" = some (some (.ref (He.ga K "law"))) := of_decide_eq_true (exF c.xs 67 rfl)
  obtain ⟨oc20, od20, kV20, dc20, pm20, an20, cd20, ct20, sl20, l20, c20⟩ := FnQ.get0 (c.fns 20 _ rfl).1 (c.fns 20 _ rfl).2 rfl
  replace l20 : K.lookup (He.ga K "law") = some ⟨oc20, od20, .func (PySem.W.fnOf "law" "law" (defArgs (topS 20)) (defBody (topS 20)) (defScope (topS 20)) .none kV20 dc20 pm20 an20 cd20 ct20), sl20⟩ := l20
  replace c20 : PySem.W.codeIn K cd20 "law" = true := c20
  have k20 : PySem.W.keepIn K (.ref (He.ga K "law")) = true := exF c.xs 68 rfl
  have z0 : PySem.W.nsIn K mainGlobals "abs" = some none := of_decide_eq_true (exF c.xs 69 rfl)
  have z1 : PySem.W.nsIn K mainGlobals "all" = some none := of_decide_eq_true (exF c.xs 70 rfl)
  have z2 : PySem.W.nsIn K mainGlobals "int" = some none := of_decide_eq_true (exF c.xs 71 rfl)
  have z3 : PySem.W.nsIn K mainGlobals "len" = some none := of_decide_eq_true (exF c.xs 72 rfl)
  have z4 : PySem.W.nsIn K mainGlobals "list" = some none := of_decide_eq_true (exF c.xs 73 rfl)
  have z5 : PySem.W.nsIn K mainGlobals "max" = some none := of_decide_eq_true (exF c.xs 74 rfl)
  have z6 : PySem.W.nsIn K mainGlobals "min" = some none := of_decide_eq_true (exF c.xs 75 rfl)
  have z7 : PySem.W.nsIn K mainGlobals "range" = some none := of_decide_eq_true (exF c.xs 76 rfl)
  have z8 : PySem.W.nsIn K mainGlobals "repr" = some none := of_decide_eq_true (exF c.xs 77 rfl)
  have z9 : PySem.W.nsIn K mainGlobals "reversed" = some none := of_decide_eq_true (exF c.xs 78 rfl)
  have z10 : PySem.W.nsIn K mainGlobals "sorted" = some none := of_decide_eq_true (exF c.xs 79 rfl)
  have z11 : PySem.W.nsIn K mainGlobals "sum" = some none := of_decide_eq_true (exF c.xs 80 rfl)
  have z12 : PySem.W.nsIn K mainGlobals "tuple" = some none := of_decide_eq_true (exF c.xs 81 rfl)
  have z13 : PySem.W.nsIn K mainGlobals "zip" = some none := of_decide_eq_true (exF c.xs 82 rfl)
  refine ⟨[], SaysQ.cs X c ([] : List ((PySem.W.Frag → Addr) × Str)) (fun m hm => nomatch hm), ?_⟩
  have e := hfa.symm.trans (PySem.W.mg_of X G a20)
  cases e
  have F0 := fun_mk (st := topS 2) l0 c0 k0
  have F1 := fun_mk (st := topS 3) l1 c1 k1
  have F2 := fun_mk (st := inClass (topS 5) 1) l2 c2 k2
  have F3 := fun_mk (st := inClass (topS 5) 2) l3 c3 k3
  have F4 := fun_mk (st := inClass (topS 5) 4) l4 c4 k4
  have F5 := fun_mk (st := inClass (topS 5) 0) l5 c5 k5
  have F6 := fun_mk (st := inClass (topS 6) 0) l6 c6 k6
  have F7 := fun_mk (st := inClass (topS 6) 1) l7 c7 k7
  have F8 := fun_mk (st := topS 7) l8 c8 k8
  have F9 := fun_mk (st := inClass (topS 6) 2) l9 c9 k9
  have F10 := fun_mk (st := topS 8) l10 c10 k10
  have F11 := fun_mk (st := topS 10) l11 c11 k11
  have F12 := fun_mk (st := topS 11) l12 c12 k12
  have F13 := fun_mk (st := topS 13) l13 c13 k13
  have F14 := fun_mk (st := topS 14) l14 c14 k14
  have F15 := fun_mk (st := topS 15) l15 c15 k15
  have F16 := fun_mk (st := topS 16) l16 c16 k16
  have F17 := fun_mk (st := topS 17) l17 c17 k17
  have F18 := fun_mk (st := topS 18) l18 c18 k18
  have F19 := fun_mk (st := topS 19) l19 c19 k19
  have F20 := fun_mk (st := topS 20) l20 c20 k20
  have b0 := F0.binds (ps := ["text"]) fun _ _ _ _ _ _ us hl => match us, hl with | [_], _ => rfl
  have b1 := F1.binds (ps := ["sums", "begin", "end"]) fun _ _ _ _ _ _ us hl => match us, hl with | [_, _, _], _ => rfl
  have b2 := F2.binds (ps := ["self", "end"]) fun _ _ _ _ _ _ us hl => match us, hl with | [_, _], _ => rfl
  have b3 := F3.binds (ps := ["self", "begin", "end"]) fun _ _ _ _ _ _ us hl => match us, hl with | [_, _, _], _ => rfl
  have b4 := F4.binds (ps := ["self"]) fun _ _ _ _ _ _ us hl => match us, hl with | [_], _ => rfl
  have b5 := F5.binds (ps := ["self", "width", "text"]) fun _ _ _ _ _ _ us hl => match us, hl with | [_, _, _], _ => rfl
  have b6 := F6.binds (ps := ["self", "width", "text"]) fun _ _ _ _ _ _ us hl => match us, hl with | [_, _, _], _ => rfl
  have b7 := F7.binds (ps := ["self"]) fun _ _ _ _ _ _ us hl => match us, hl with | [_], _ => rfl
  have b8 := F8.binds (ps := ["width", "text"]) fun _ _ _ _ _ _ us hl => match us, hl with | [_, _], _ => rfl
  have b9 := F9.binds (ps := ["self"]) fun _ _ _ _ _ _ us hl => match us, hl with | [_], _ => rfl
  have b10 := F10.binds (ps := ["width", "text"]) fun _ _ _ _ _ _ us hl => match us, hl with | [_, _], _ => rfl
  have b11 := F11.binds (ps := ["_law_script", "_law_spot"]) fun _ _ _ _ _ _ us hl => match us, hl with | [_, _], _ => rfl
  have b12 := F12.binds (ps := ["_law_pot_here", "_law_upto"]) fun _ _ _ _ _ _ us hl => match us, hl with | [_, _], _ => rfl
  have b13 := F13.binds (ps := ["_law_pot_here", "_law_wide", "_law_most"]) fun _ _ _ _ _ _ us hl => match us, hl with | [_, _, _], _ => rfl
  have b14 := F14.binds (ps := ["_law_row_here", "_law_low", "_law_high"]) fun _ _ _ _ _ _ us hl => match us, hl with | [_, _, _], _ => rfl
  have b15 := F15.binds (ps := ["_law_wide", "_law_row_here"]) fun _ _ _ _ _ _ us hl => match us, hl with | [_, _], _ => rfl
  have b16 := F16.binds (ps := ["_law_wide", "_law_row_here", "_law_ends"]) fun _ _ _ _ _ _ us hl => match us, hl with | [_, _, _], _ => rfl
  have b17 := F17.binds (ps := ["_law_some"]) fun _ _ _ _ _ _ us hl => match us, hl with | [_], _ => rfl
  have b18 := F18.binds (ps := ["_law_pot_here"]) fun _ _ _ _ _ _ us hl => match us, hl with | [_], _ => rfl
  have b19 := F19.binds (ps := ["_law_pot_here"]) fun _ _ _ _ _ _ us hl => match us, hl with | [_], _ => rfl
  have w8_10 : KwOk K _ ["width", "text"] ["text", "width"] [1, 0] := fun_kws F8 fun _ _ _ _ _ _ us hl => match us, hl with | [_, _], _ => rfl
  have w10_10 : KwOk K _ ["width", "text"] ["text", "width"] [1, 0] := fun_kws F10 fun _ _ _ _ _ _ us hl => match us, hl with | [_, _], _ => rfl
  have Babs := PySem.W.mg_none_of X G z0
  have Ball := PySem.W.mg_none_of X G z1
  have Bint := PySem.W.mg_none_of X G z2
  have Blen := PySem.W.mg_none_of X G z3
  have Blist := PySem.W.mg_none_of X G z4
  have Bmax := PySem.W.mg_none_of X G z5
  have Bmin := PySem.W.mg_none_of X G z6
  have Brange := PySem.W.mg_none_of X G z7
  have Brepr := PySem.W.mg_none_of X G z8
  have Breversed := PySem.W.mg_none_of X G z9
  have Bsorted := PySem.W.mg_none_of X G z10
  have Bsum := PySem.W.mg_none_of X G z11
  have Btuple := PySem.W.mg_none_of X G z12
  have Bzip := PySem.W.mg_none_of X G z13
  have m0 := PySem.W.mg_of X G a0
  have m1 := PySem.W.mg_of X G a1
  have m8 := PySem.W.mg_of X G a8
  have m10 := PySem.W.mg_of X G a10
  have m11 := PySem.W.mg_of X G a11
  have m12 := PySem.W.mg_of X G a12
  have m13 := PySem.W.mg_of X G a13
  have m14 := PySem.W.mg_of X G a14
  have m15 := PySem.W.mg_of X G a15
  have m16 := PySem.W.mg_of X G a16
  have m17 := PySem.W.mg_of X G a17
  have m18 := PySem.W.mg_of X G a18
  have m19 := PySem.W.mg_of X G a19
  have clChoices : Cls K (He.ga K "Choices") := ⟨pgChoices, hdChoices, poChoices, saChoices⟩
  have mChoices := PySem.W.mg_of X G aaChoices
  have TChoices : Txt_Choices K (He.ga K "Choices") := ⟨clChoices, nChoices_count, nChoices_begins_of⟩
  have clTable : Cls K (He.ga K "Table") := ⟨pgTable, hdTable, poTable, saTable⟩
  have mTable := PySem.W.mg_of X G aaTable
  have TTable : Txt_Table K (He.ga K "Table") := ⟨clTable, nTable_wide, nTable_sums, nTable_costs, nTable_befores⟩
  refine ⟨PySem.W.fnOf "law" "law" (defArgs (topS 20)) (defBody (topS 20)) (defScope (topS 20)) .none kV20 dc20 pm20 an20 cd20 ct20, fun s v => .of_eq rfl, fun base _ _ tbs => ?_⟩
  have hTq : Cs.tqE [] [] = [] := rfl
  rw [hTq]
  have D0 : Df l.prog w K mg base [] 1 "sums_of" ["text"] spSums := ⟨_, _, g_sums_of (k := 0) F0 Btuple, m0, k0, b0⟩
  have D1 : Df l.prog w K mg base [] 1 "length_by" ["sums", "begin", "end"] spLenBy := ⟨_, _, g_length_by (k := 0) F1 , m1, k1, b1⟩
  have D2 : Mf l.prog w K mg base [] 2 (He.ga K "Table") "begins" ["self", "end"] (spBegins (He.ga K "Table")) := ⟨_, _, g_Table_begins (k := 1) F2 TTable (D1.mono (by decide : 1 ≤ 1)), clTable, ⟨a2, i2, k2⟩, b2⟩
  have D3 : Mf l.prog w K mg base [] 2 (He.ga K "Table") "square" ["self", "begin", "end"] (spSquare (He.ga K "Table")) := ⟨_, _, g_Table_square (k := 1) F3 TTable (D1.mono (by decide : 1 ≤ 1)), clTable, ⟨a3, i3, k3⟩, b3⟩
  have D4 : Mf l.prog w K mg base [] 3 (He.ga K "Table") "last_start" ["self"] (spLast (He.ga K "Table")) := ⟨_, _, g_Table_last_start (k := 2) F4 TTable (D2.mono (by decide : 2 ≤ 2)) Blen Bmin, clTable, ⟨a4, i4, k4⟩, b4⟩
  have C_Table : Ck l.prog w K mg base [] 3 "Table" (He.ga K "Table") ["self", "width", "text"] (spInit (He.ga K "Table")) := ⟨_, _, g_Table___init__ (k := 2) F5 TTable (D0.mono (by decide : 1 ≤ 2)) (D2.mono (by decide : 2 ≤ 2)) (D3.mono (by decide : 2 ≤ 2)) Blen Bmin Brange, ⟨mkTable, a5, i5, kcTable⟩, mTable, b5⟩
  have C_Choices : Ck l.prog w K mg base [] 5 "Choices" (He.ga K "Choices") ["self", "width", "text"] (spChInit (He.ga K "Choices")) := ⟨_, _, g_Choices___init__ (k := 3) F6 TTable TChoices (D2.mono (by decide : 2 ≤ 3)) (D4.mono (by decide : 3 ≤ 3)) (D3.mono (by decide : 2 ≤ 3)) (C_Table.mono (by decide : 3 ≤ 3)) Blen Brange, ⟨mkChoices, a6, i6, kcChoices⟩, mChoices, b6⟩
  have D7 : Mf l.prog w K mg base [] 1 (He.ga K "Choices") "ways" ["self"] (spWays (He.ga K "Choices")) := ⟨_, _, g_Choices_ways (k := 0) F7 TChoices Brange Bsum, clChoices, ⟨a7, i7, k7⟩, b7⟩
  have D8 : Df l.prog w K mg base [] 7 "count_best" ["width", "text"] spCount := ⟨_, _, g_count_best (k := 5) F8 (D7.mono (by decide : 1 ≤ 5)) (C_Choices.mono (by decide : 5 ≤ 5)), m8, k8, b8⟩
  have E8_10 : Dk l.prog w K mg base [] 7 "count_best" ["width", "text"] ["text", "width"] [1, 0] spCount := ⟨_, _, g_count_best (k := 5) F8 (D7.mono (by decide : 1 ≤ 5)) (C_Choices.mono (by decide : 5 ≤ 5)), m8, k8, w8_10⟩
  have D9 : Mf2 l.prog w K mg base [] 1 (He.ga K "Choices") "layouts" ["self"] (spLays (He.ga K "Choices")) := ⟨_, _, g_Choices_layouts (k := 0) F9 TChoices Breversed, clChoices, ⟨a9, i9, k9⟩, b9⟩
  have D10 : Dg1 l.prog w K mg base [] 7 "best_layouts" ["width", "text"] spBestL := ⟨_, _, g_best_layouts (k := 4) F10 (C_Choices.mono (by decide : 5 ≤ 5)) (D9.mono (by decide : 1 ≤ 4)), m10, k10, b10⟩
  have E10_10 : Dg1K l.prog w K mg base [] 7 "best_layouts" ["width", "text"] ["text", "width"] [1, 0] spBestL := ⟨_, _, g_best_layouts (k := 4) F10 (C_Choices.mono (by decide : 5 ≤ 5)) (D9.mono (by decide : 1 ≤ 4)), m10, k10, w10_10⟩
  have D11 : Df l.prog w K mg base [] 1 "_law_pot" ["_law_script", "_law_spot"] (spPot K) := ⟨_, _, g_pot (k := 0) F11 Blen Babs Bint, m11, k11, b11⟩
  have D12 : Df l.prog w K mg base [] 1 "_law_take" ["_law_pot_here", "_law_upto"] spTake := ⟨_, _, g_take (k := 0) F12 , m12, k12, b12⟩
  have D13 : Df l.prog w K mg base [] 2 "_law_row" ["_law_pot_here", "_law_wide", "_law_most"] spRow := ⟨_, _, g_row (k := 0) F13 (D12.mono (by decide : 1 ≤ 1)) Btuple Brange Bmin, m13, k13, b13⟩
  have D14 : Df l.prog w K mg base [] 1 "_law_length" ["_law_row_here", "_law_low", "_law_high"] spLen := ⟨_, _, g__law_length (k := 0) F14 Bsum, m14, k14, b14⟩
  have D15 : Df l.prog w K mg base [] 2 "_law_plans" ["_law_wide", "_law_row_here"] spPlansN := ⟨_, _, g__law_plans (k := 1) F15 (D14.mono (by decide : 1 ≤ 1)) Blen Brange, m15, k15, b15⟩
  have D16 : Df l.prog w K mg base [] 2 "_law_squares" ["_law_wide", "_law_row_here", "_law_ends"] spSq2 := ⟨_, _, g__law_squares (k := 1) F16 (D14.mono (by decide : 1 ≤ 1)) Bzip, m16, k16, b16⟩
  have D17 : Df l.prog w K mg base [] 1 "_law_chosen" ["_law_some"] spChosen := ⟨_, _, g__law_chosen (k := 0) F17 Bmin Bsorted, m17, k17, b17⟩
  have D18 : Df2 l.prog w K mg base [] 11 "_law_right" ["_law_pot_here"] spRight := ⟨_, _, g__law_right (k := 7) F18 (D17.mono (by decide : 1 ≤ 7)) (D15.mono (by decide : 2 ≤ 7)) (D13.mono (by decide : 2 ≤ 7)) (D16.mono (by decide : 2 ≤ 7)) (D12.mono (by decide : 1 ≤ 7)) (D8.mono (by decide : 7 ≤ 7)) (E8_10.mono (by decide : 7 ≤ 7)) Blen Blist Brepr Bsum (D10.mono (by decide : 7 ≤ 7)) (E10_10.mono (by decide : 7 ≤ 7)), m18, k18, b18⟩
  have D19 : Df2 l.prog w K mg base [] 11 "_law_known_right" ["_law_pot_here"] spKnown := ⟨_, _, g__law_known_right (k := 7) F19 (D12.mono (by decide : 1 ≤ 7)) (D8.mono (by decide : 7 ≤ 7)) Blen Brange Bzip (D10.mono (by decide : 7 ≤ 7)), m19, k19, b19⟩
  exact g_law (k := 11) F20 (D11.mono (by decide : 1 ≤ 11)) Ball Blen Bmax Bmin Brange (D19.mono (by decide : 11 ≤ 11)) (D18.mono (by decide : 11 ≤ 11))
def nmL0 : List Str := ["_wall", "__name__", "sums_of", "length_by", "Table", "Choices", "count_best", "best_layouts", "_law_pot", "_law_take", "_law_of", "_law_row", "_law_length", "_law_plans", "_law_squares"]
def nmL1 : List Str := ["_law_chosen", "_law_right", "_law_known_right"]
def nmL : List Str := nmL0 ++ nmL1
theorem ob_eq (s : PySem.W.SharedT) : obQ fnL xsL mkL s = (hookQ fnL xsL mkL).obs s.abs := obQ_eq _ _ _ s
set_option maxHeartbeats 0 in
theorem run (w : World) : HandSHeadRun.RunEq (PySem.W.OpenLaw.row PySem.Challenge.rw_settledlines_k08_all_best_layouts_in_ord) (PySem.W.view (PySem.W.OpenLaw.row PySem.Challenge.rw_settledlines_k08_all_best_layouts_in_ord).prog [20]) (hookQ fnL xsL mkL) (obQ fnL xsL mkL) 20000 nmL w := by
  intro os
  kernel_rfl
end K08
open PySem PySem.W PySem.Calls PyProof.Rows
set_option maxHeartbeats 0 in
theorem PySem.Challenge.cw_settledlines_k08_all_best_layouts_in_ord_holds : PySem.Challenge.rw_settledlines_k08_all_best_layouts_in_ord.Holds := by
  w_on; o_law
  refine GR.head2 (r := OpenLaw.row PySem.Challenge.rw_settledlines_k08_all_best_layouts_in_ord) (q := view (OpenLaw.row PySem.Challenge.rw_settledlines_k08_all_best_layouts_in_ord).prog [20]) (H := QL.hookQ K08.fnL K08.xsL K08.mkL) (ob := QL.obQ K08.fnL K08.xsL K08.mkL) (M := 20000) (loose := K08.nmL) (d := HandSHeadRun.topDef (OpenLaw.row PySem.Challenge.rw_settledlines_k08_all_best_layouts_in_ord).prog 20) (kwd := []) K08.ob_eq
    (by kernel_rfl) (fun s => by kernel_rfl) K08.run (by kernel_rfl) (by kernel_rfl) (by kernel_rfl) (by rfl) (by first | assumption | decide +kernel) (by decide +kernel) ⟨rfl, rfl, rfl, rfl, rfl, by decide +kernel⟩ ?hw ?hc
  case hw => w_witness2
  case hc =>
    refine QL.walk_gE2 (l := PySem.Challenge.rw_settledlines_k08_all_best_layouts_in_ord) (n := 63) (k := 12) (x := "_law_script") (sp := fun K => K08.spLaw K) rfl (by decide) (by kernel_rfl) ⟨rfl, by decide, by decide⟩ ?F (fun K a ns hl => ⟨a, ns, rfl, hl, rfl⟩)
    intro w mg fa h Y G hmg0
    obtain ⟨K, KX, c⟩ := Y
    have hmg : mg ("law" : PySem.Str) = some (.ref fa) := by
      have e : (HandSHeadRun.topDef (OpenLaw.row PySem.Challenge.rw_settledlines_k08_all_best_layouts_in_ord).prog 20).name = ("law" : PySem.Str) := by kernel_rfl
      rw [← e]
      exact hmg0
    obtain ⟨cs, h1, fd, h2, h3⟩ := K08.head_ok (l := PySem.Challenge.rw_settledlines_k08_all_best_layouts_in_ord) (w := w) KX G hmg c
    exact ⟨K, cs, fd, KX, h1, h2, h3⟩
