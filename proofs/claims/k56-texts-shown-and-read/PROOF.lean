import PyProof.Rows.All
import HandS.ForMost
import HandS.Lambda
import HandS.TupAny
import HandS.Wide
import HandS.Exc
import HandS.WordsExc
import HandS.TupMul
import HandS.IsInst
import HandS.Dict
import PyProof.ReprRoads
import HandS.Star
import HandS.Zip
import KE.KTupSum
import HandS.RevTup
import PyProof.ListNew
import PyProof.TupleOfGen
import KE.KDictZip
import HandS.EndTab
import KE.KNest
import KE.KNestM
import HandS.Rev
import KE.DataMinMax
import KE.SortData
import PyProof.ReprLen
import PyProof.FitsInt
import PyProof.Rows.StrJoinMade
import PyProof.Rows.StrDigitsNeg
import HandS.Style
import KE.KRevSl
import HandS.Conv
import HandS.DictComp
import HandS.SetBool
import HandS.Strs
import HandS.Set
import HandS.SetFor
import HandS.More
import HandS.SortKw
import HandS.Iter
import HandS.Deep
import KE.GoesEnum
import HandS.TupLe
import HandS.MethStar
import HandS.ExcField
import HandS.ExcIs
import HandS.ExcValue
import KE.KIsAll
import HandS.ExcInit
import HandS.ClsMeth
import HandS.Defaults
import HandS.StrMore
import PyProof.StrOps2
import KE.IntTextLaws
import PyProof.Rows.ReprOcc
import PySem.Challenge.RW_settledlines_k56_texts_shown_and_read
set_option Elab.async false
set_option linter.all false
set_option maxRecDepth 100000
set_option maxHeartbeats 4000000
/-! QA: data without heap: what a value stands for (Rp), what a thing that one name alone holds stands for (Ow), a frame's slots (OwE), what a step leaves (Frm). -/
namespace QL
open PySem PySem.Spec PyProof.Rows L2

abbrev D := PyData
def kD : Key → D
  | .inl i => .int i
  | .inr x => .str x

mutual
/-- the value v stands for the data d, read in the heap part F that never changes -/
inductive Rp (F : Hp) : V → D → Prop
  | non : Rp F .non .none
  | bl (b : Bool) : Rp F (.bl b) (.bool b)
  | int (i : Int) : Rp F (.int i) (.int i)
  | str (x : Str) : Rp F (.str x) (.str x)
  | lst {a : Addr} {xs : List V} {ds : List D} : F a = some (.lst xs) → RpA F xs ds → Rp F (.ref a) (.list ds)
  | tup {a : Addr} {xs : List V} {ds : List D} : F a = some (.tup xs) → RpA F xs ds → Rp F (.ref a) (.tuple ds)
  | dic {a : Addr} {kvs : List (Key × V)} {ds : List (D × D)} : Rd F a (.dK kvs) → RpK F kvs ds → Rp F (.ref a) (.dict ds)
inductive RpA (F : Hp) : List V → List D → Prop
  | nil : RpA F [] []
  | cons {v : V} {vs : List V} {d : D} {ds : List D} : Rp F v d → RpA F vs ds → RpA F (v :: vs) (d :: ds)
inductive RpK (F : Hp) : List (Key × V) → List (D × D) → Prop
  | nil : RpK F [] []
  | cons {k : Key} {v : V} {vs : List (Key × V)} {d : D} {ds : List (D × D)} : Rp F v d → RpK F vs ds → RpK F ((k, v) :: vs) ((kD k, d) :: ds)
end

theorem rd_mono {F F' : Hp} (s : Same F F') {a : Addr} {u : HO} (h : Rd F a u) : Rd F' a u := by
  rcases h with h | ⟨o, h⟩
  · exact .inl (s _ _ h)
  · exact .inr ⟨o, s _ _ h⟩
mutual
theorem Rp.mono {F F' : Hp} (s : Same F F') : ∀ {v : V} {d : D}, Rp F v d → Rp F' v d
  | _, _, .non => .non
  | _, _, .bl b => .bl b
  | _, _, .int i => .int i
  | _, _, .str x => .str x
  | _, _, .lst h r => .lst (s _ _ h) (RpA.mono s r)
  | _, _, .tup h r => .tup (s _ _ h) (RpA.mono s r)
  | _, _, .dic h r => .dic (rd_mono s h) (RpK.mono s r)
theorem RpA.mono {F F' : Hp} (s : Same F F') : ∀ {v : List V} {d : List D}, RpA F v d → RpA F' v d
  | _, _, .nil => .nil
  | _, _, .cons h r => .cons (Rp.mono s h) (RpA.mono s r)
theorem RpK.mono {F F' : Hp} (s : Same F F') : ∀ {v : List (Key × V)} {d : List (D × D)}, RpK F v d → RpK F' v d
  | _, _, .nil => .nil
  | _, _, .cons h r => .cons (Rp.mono s h) (RpK.mono s r)
end

/-- what a name of a frame, or a field of an object that one name alone holds, stands for -/
inductive T
  | va (d : D)
  | lst (a : Addr) (ds : List D)
  | dic (a : Addr) (kvs : List (Key × D))
  | fdc (a : Addr) (kvs : List (Key × D))
  | ins (a C : Addr) (fs : List (Str × T))
  | hole (a : Addr)
  | ob (a : Option Addr) (φ : Hp → Hp → List Addr → V → Prop)

def T.addr : T → Option Addr
  | .va _ => none
  | .lst a _ => some a
  | .dic a _ => some a
  | .fdc a _ => some a
  | .ins a _ _ => some a
  | .hole a => some a
  | .ob a _ => a

/-- what stands there is no table of code objects -/
def Held (H : Hp) (a : Addr) : Prop := ∃ o, H a = some o ∧ ∀ ps, o ≠ .tbl ps
theorem Held.ne {H : Hp} {a : Addr} (h : Held H a) : H a ≠ none := by
  obtain ⟨o, e, _⟩ := h
  rw [e]; exact fun z => nomatch z
/-- a thing of another kind stays when its own objects and what is frozen stay -/
structure Stab (a : Option Addr) (φ : Hp → Hp → List Addr → V → Prop) : Prop where
  stay : ∀ F H F' H' O v, φ F H O v → Same F F' → (∀ b ∈ O, H' b = H b) → φ F' H' O v
  held : ∀ F H O v, φ F H O v → ∀ b ∈ O, Held H b
  at_ : ∀ F H O v b, φ F H O v → a = some b → v = .ref b

inductive RpT (F : Hp) : List (Key × V) → List (Key × D) → Prop
  | nil : RpT F [] []
  | cons {k : Key} {v : V} {vs : List (Key × V)} {d : D} {ds : List (Key × D)} : Rp F v d → RpT F vs ds → RpT F ((k, v) :: vs) ((k, d) :: ds)
theorem RpT.mono {F F' : Hp} (s : Same F F') : ∀ {v : List (Key × V)} {d : List (Key × D)}, RpT F v d → RpT F' v d
  | _, _, .nil => .nil
  | _, _, .cons h r => .cons (h.mono s) (RpT.mono s r)

mutual
inductive Ow (F H : Hp) : List Addr → V → T → Prop
  | va {v : V} {d : D} : Rp F v d → Ow F H [] v (.va d)
  | lst {a : Addr} {xs : List V} {ds : List D} : H a = some (.lst xs) → RpA F xs ds → Ow F H [a] (.ref a) (.lst a ds)
  | dic {a : Addr} {kvs : List (Key × V)} {ds : List (Key × D)} : H a = some (.dK kvs) → RpT F kvs ds → Ow F H [a] (.ref a) (.dic a ds)
  | fdc {a : Addr} {o : Obj} {kvs : List (Key × V)} {ds : List (Key × D)} : F a = some (.frz o (.dK kvs)) → RpT F kvs ds → Ow F H [] (.ref a) (.fdc a ds)
  | ins {a dx C : Addr} {vs : List (Str × V)} {fs : List (Str × T)} {O : List Addr} : H a = some (.ins C dx vs) → H dx = some (.own a) → OwF F H O vs fs → Ow F H (a :: dx :: O) (.ref a) (.ins a C fs)
  | hole {a : Addr} : Ow F H [] (.ref a) (.hole a)
  | ob {a : Option Addr} {φ : Hp → Hp → List Addr → V → Prop} {O : List Addr} {v : V} : φ F H O v → Stab a φ → Ow F H O v (.ob a φ)
inductive OwF (F H : Hp) : List Addr → List (Str × V) → List (Str × T) → Prop
  | nil : OwF F H [] [] []
  | cons {n : Str} {v : V} {t : T} {vs : List (Str × V)} {ts : List (Str × T)} {O1 O2 : List Addr} : Ow F H O1 v t → OwF F H O2 vs ts → OwF F H (O1 ++ O2) ((n, v) :: vs) ((n, t) :: ts)
end

mutual
theorem Ow.stay {F H F' H' : Hp} (s : Same F F') : ∀ {O : List Addr} {v : V} {t : T}, Ow F H O v t → (∀ a ∈ O, H' a = H a) → Ow F' H' O v t
  | _, _, _, .va r, _ => .va (r.mono s)
  | _, _, _, .lst h r, k => .lst ((k _ (List.mem_singleton.mpr rfl)).trans h) (r.mono s)
  | _, _, _, .dic h r, k => .dic ((k _ (List.mem_singleton.mpr rfl)).trans h) (r.mono s)
  | _, _, _, .fdc h r, k => .fdc (s _ _ h) (r.mono s)
  | _, _, _, .ins h1 h2 r, k => .ins ((k _ List.mem_cons_self).trans h1) ((k _ (List.mem_cons_of_mem _ List.mem_cons_self)).trans h2)
      (OwF.stay s r fun a ha => k a (List.mem_cons_of_mem _ (List.mem_cons_of_mem _ ha)))
  | _, _, _, .hole, _ => .hole
  | _, _, _, .ob h st, k => .ob (st.stay _ _ _ _ _ _ h s k) st
theorem OwF.stay {F H F' H' : Hp} (s : Same F F') : ∀ {O : List Addr} {v : List (Str × V)} {t : List (Str × T)}, OwF F H O v t → (∀ a ∈ O, H' a = H a) → OwF F' H' O v t
  | _, _, _, .nil, _ => .nil
  | _, _, _, .cons h r, k => .cons (Ow.stay s h fun a ha => k a (List.mem_append_left _ ha)) (OwF.stay s r fun a ha => k a (List.mem_append_right _ ha))
end
mutual
theorem Ow.held {F H : Hp} : ∀ {O : List Addr} {v : V} {t : T}, Ow F H O v t → ∀ a ∈ O, Held H a
  | _, _, _, .va r, a, ha => nomatch ha
  | _, _, _, .lst h r, a, ha => by rw [List.mem_singleton.mp ha]; exact ⟨_, h, fun _ z => nomatch z⟩
  | _, _, _, .dic h r, a, ha => by rw [List.mem_singleton.mp ha]; exact ⟨_, h, fun _ z => nomatch z⟩
  | _, _, _, .fdc h r, a, ha => nomatch ha
  | _, _, _, .ins h1 h2 r, a, ha => by
    rcases List.mem_cons.mp ha with rfl | ha
    · exact ⟨_, h1, fun _ z => nomatch z⟩
    rcases List.mem_cons.mp ha with rfl | ha
    · exact ⟨_, h2, fun _ z => nomatch z⟩
    · exact OwF.held r a ha
  | _, _, _, .hole, a, ha => nomatch ha
  | _, _, _, .ob h st, a, ha => st.held _ _ _ _ h a ha
theorem OwF.held {F H : Hp} : ∀ {O : List Addr} {v : List (Str × V)} {t : List (Str × T)}, OwF F H O v t → ∀ a ∈ O, Held H a
  | _, _, _, .nil, a, ha => nomatch ha
  | _, _, _, .cons h r, a, ha => (List.mem_append.mp ha).elim (Ow.held h a) (OwF.held r a)
end
theorem Ow.there {F H : Hp} {O : List Addr} {v : V} {t : T} (h : Ow F H O v t) (a : Addr) (ha : a ∈ O) : H a ≠ none := (h.held a ha).ne
theorem OwF.there {F H : Hp} {O : List Addr} {v : List (Str × V)} {t : List (Str × T)} (h : OwF F H O v t) (a : Addr) (ha : a ∈ O) : H a ≠ none := (h.held a ha).ne
theorem Ow.ref {F H : Hp} {O : List Addr} {v : V} {t : T} {a : Addr} (h : Ow F H O v t) (e : t.addr = some a) : v = .ref a := by
  cases h with
  | va r => cases e
  | lst h r => cases e; rfl
  | dic h r => cases e; rfl
  | fdc h r => cases e; rfl
  | ins h1 h2 r => cases e; rfl
  | hole => cases e; rfl
  | ob h st => exact st.at_ _ _ _ _ _ h e

abbrev Env := List (Option T)
inductive OwE (F H : Hp) : List Addr → L2.St → Env → Prop
  | nil : OwE F H [] [] []
  | un {O : List Addr} {σ : L2.St} {e : Env} {x : Option V} : OwE F H O σ e → OwE F H O (x :: σ) (none :: e)
  | so {O1 O2 : List Addr} {σ : L2.St} {e : Env} {v : V} {t : T} : Ow F H O1 v t → OwE F H O2 σ e → OwE F H (O1 ++ O2) (some v :: σ) (some t :: e)
theorem OwE.stay {F H F' H' : Hp} (s : Same F F') : ∀ {O : List Addr} {σ : L2.St} {e : Env}, OwE F H O σ e → (∀ a ∈ O, H' a = H a) → OwE F' H' O σ e
  | _, _, _, .nil, _ => .nil
  | _, _, _, .un r, k => .un (OwE.stay s r k)
  | _, _, _, .so h r, k => .so (h.stay s fun a ha => k a (List.mem_append_left _ ha)) (OwE.stay s r fun a ha => k a (List.mem_append_right _ ha))
theorem OwE.held {F H : Hp} : ∀ {O : List Addr} {σ : L2.St} {e : Env}, OwE F H O σ e → ∀ a ∈ O, Held H a
  | _, _, _, .nil, a, ha => nomatch ha
  | _, _, _, .un r, a, ha => OwE.held r a ha
  | _, _, _, .so h r, a, ha => (List.mem_append.mp ha).elim (Ow.held h a) (OwE.held r a)
theorem OwE.there {F H : Hp} {O : List Addr} {σ : L2.St} {e : Env} (h : OwE F H O σ e) (a : Addr) (ha : a ∈ O) : H a ≠ none := (h.held a ha).ne
theorem OwE.len {F H : Hp} : ∀ {O : List Addr} {σ : L2.St} {e : Env}, OwE F H O σ e → σ.length = e.length
  | _, _, _, .nil => rfl
  | _, _, _, .un r => congrArg (· + 1) (OwE.len r)
  | _, _, _, .so _ r => congrArg (· + 1) (OwE.len r)

/-! ### places within a thing -/
def getT : List Str → T → Option T
  | [], t => some t
  | f :: p, .ins _ _ fs => match fs.lookup f with
    | some t => getT p t
    | none => none
  | _ :: _, _ => none
/-- the first field of that name, replaced -/
def repF (f : Str) (u : T) : List (Str × T) → List (Str × T)
  | [] => []
  | (n, t) :: r => if f == n then (n, u) :: r else (n, t) :: repF f u r
theorem repF_hit {f n : Str} {u t : T} {r : List (Str × T)} (h : (f == n) = true) : repF f u ((n, t) :: r) = (n, u) :: r := by unfold repF; rw [if_pos h]
theorem repF_miss {f n : Str} {u t : T} {r : List (Str × T)} (h : (f == n) = false) : repF f u ((n, t) :: r) = (n, t) :: repF f u r := by
  conv => lhs; unfold repF
  rw [if_neg (by rw [h]; exact Bool.false_ne_true)]
def setT : List Str → T → T → T
  | [], u, _ => u
  | f :: p, u, .ins a C fs => match fs.lookup f with
    | some t => .ins a C (repF f (setT p u t) fs)
    | none => .ins a C fs
  | _ :: _, _, t => t
def getP (i : Nat) (p : List Str) (env : Env) : Option T := match env[i]? with
  | some (some t) => getT p t
  | _ => none
def setO (p : List Str) (u : T) : Option T → Option T
  | some t => some (setT p u t)
  | none => none
def setP : Nat → List Str → T → Env → Env
  | _, _, _, [] => []
  | 0, p, u, o :: e => setO p u o :: e
  | i + 1, p, u, o :: e => o :: setP i p u e
theorem setP_eq {p : List Str} {u t : T} : ∀ {i : Nat} {env : Env}, env[i]? = some (some t) → setP i p u env = env.set i (some (setT p u t))
  | _, [], h => nomatch h
  | 0, o :: e, h => by cases h; rfl
  | i + 1, o :: e, h => congrArg (o :: ·) (setP_eq (i := i) (env := e) h)

/-- a part of a thing is taken out, and another one put there -/
def Hung (F H : Hp) (O : List Addr) (w : V) (u : T) (R : Hp → Hp → List Addr → T → Prop) : Prop :=
  ∃ Oj O', Ow F H Oj w u ∧ O.Perm (Oj ++ O') ∧ ∀ F' H' Oj' u', Same F F' → (∀ a ∈ O', H' a = H a) → Ow F' H' Oj' w u' → ∃ O'', R F' H' O'' u' ∧ O''.Perm (Oj' ++ O')

theorem perm_mid {α : Type} {A B C E : List α} (h : B.Perm (C ++ E)) : (A ++ B).Perm (C ++ (A ++ E)) :=
  (h.append_left A).trans (by rw [← List.append_assoc, ← List.append_assoc]; exact (List.perm_append_comm).append_right E)

theorem OwF.focus {F H : Hp} {f : Str} : ∀ {fs : List (Str × T)} {vs : List (Str × V)} {O : List Addr} {t : T}, OwF F H O vs fs → fs.lookup f = some t →
    ∃ w, Hung F H O w t (fun F' H' O'' u' => OwF F' H' O'' vs (repF f u' fs))
  | [], _, _, _, _, e => nomatch e
  | (n, t0) :: fs, _, _, t, .cons (O1 := O1) (O2 := O2) h r, e => by
    rw [List.lookup_cons] at e
    cases hb : f == n with
    | true =>
      rw [hb] at e
      cases e
      refine ⟨_, O1, O2, h, List.Perm.refl _, fun F' H' Oj' u' s k h' => ⟨Oj' ++ O2, ?_, List.Perm.refl _⟩⟩
      show OwF _ _ _ _ (repF f u' ((n, t0) :: fs))
      rw [repF_hit hb]
      exact .cons h' (r.stay s k)
    | false =>
      rw [hb] at e
      obtain ⟨w, Oj, O', h1, h2, h3⟩ := OwF.focus r e
      refine ⟨w, Oj, O1 ++ O', h1, perm_mid h2, fun F' H' Oj' u' s k h' => ?_⟩
      obtain ⟨O'', q1, q2⟩ := h3 F' H' Oj' u' s (fun a ha => k a (List.mem_append_right _ ha)) h'
      refine ⟨O1 ++ O'', ?_, perm_mid q2⟩
      show OwF _ _ _ _ (repF f u' ((n, t0) :: fs))
      rw [repF_miss hb]
      exact .cons (h.stay s fun a ha => k a (List.mem_append_left _ ha)) q1

theorem Ow.focus {F H : Hp} : ∀ {p : List Str} {t u : T} {O : List Addr} {v : V}, Ow F H O v t → getT p t = some u →
    ∃ w, Hung F H O w u (fun F' H' O'' u' => Ow F' H' O'' v (setT p u' t)) ∧ (p = [] → w = v)
  | [], t, u, O, v, h, e => by
    cases e
    exact ⟨v, ⟨O, [], h, by rw [List.append_nil], fun F' H' Oj' u' _ _ h' => ⟨Oj', h', by rw [List.append_nil]⟩⟩, fun _ => rfl⟩
  | f :: p, t, u, O, v, h, e => by
    cases t with
    | ins a C fs =>
      cases h with
      | ins h1 h2 r =>
        rename_i dx vs Of
        unfold getT at e
        cases hl : fs.lookup f with
        | none => rw [hl] at e; cases e
        | some t1 =>
          rw [hl] at e
          obtain ⟨w1, Oj1, O1', g1, g2, g3⟩ := OwF.focus r hl
          obtain ⟨w, ⟨Oj, O', k1, k2, k3⟩, _⟩ := Ow.focus (p := p) g1 e
          refine ⟨w, ⟨Oj, a :: dx :: (O' ++ O1'), k1, ?_, fun F' H' Oj' u' s k h' => ?_⟩, fun z => nomatch z⟩
          · have e1 : Of.Perm (Oj ++ (O' ++ O1')) := g2.trans (by rw [← List.append_assoc]; exact k2.append_right O1')
            exact perm_mid (A := [a, dx]) e1
          · obtain ⟨O2, q1, q2⟩ := k3 F' H' Oj' u' s (fun b hb => k b (List.mem_cons_of_mem _ (List.mem_cons_of_mem _ (List.mem_append_left _ hb)))) h'
            obtain ⟨O3, q3, q4⟩ := g3 F' H' O2 _ s (fun b hb => k b (List.mem_cons_of_mem _ (List.mem_cons_of_mem _ (List.mem_append_right _ hb)))) q1
            refine ⟨a :: dx :: O3, ?_, ?_⟩
            · unfold setT
              rw [hl]
              exact .ins ((k _ List.mem_cons_self).trans h1) ((k _ (List.mem_cons_of_mem _ List.mem_cons_self)).trans h2) q3
            · have e1 : O3.Perm (Oj' ++ (O' ++ O1')) := q4.trans (by rw [← List.append_assoc]; exact q2.append_right O1')
              exact perm_mid (A := [a, dx]) e1
    | va d => cases e
    | lst a ds => cases e
    | dic a ds => cases e
    | fdc a ds => cases e
    | hole a => cases e
    | ob a φ => cases e

theorem OwE.focusI {F H : Hp} : ∀ {env : Env} {σ : L2.St} {O : List Addr} {i : Nat} {t : T}, OwE F H O σ env → env[i]? = some (some t) →
    ∃ w, σ[i]? = some (some w) ∧ Hung F H O w t (fun F' H' O'' u' => OwE F' H' O'' σ (env.set i (some u')))
  | _, _, _, _, _, .nil, e => nomatch e
  | _, _, _, 0, t, .un r, e => by cases e
  | _, _, _, i + 1, t, .un r, e => by
    obtain ⟨w, g, Oj, O', h1, h2, h3⟩ := OwE.focusI r (i := i) e
    refine ⟨w, g, Oj, O', h1, h2, fun F' H' Oj' u' s k h' => ?_⟩
    obtain ⟨O'', q1, q2⟩ := h3 F' H' Oj' u' s k h'
    exact ⟨O'', .un q1, q2⟩
  | _, _, _, 0, t, .so (O1 := O1) (O2 := O2) h r, e => by
    cases e
    refine ⟨_, rfl, O1, O2, h, List.Perm.refl _, fun F' H' Oj' u' s k h' => ⟨Oj' ++ O2, .so h' (r.stay s k), List.Perm.refl _⟩⟩
  | _, _, _, i + 1, t, .so (O1 := O1) (O2 := O2) h r, e => by
    obtain ⟨w, g, Oj, O', h1, h2, h3⟩ := OwE.focusI r (i := i) e
    refine ⟨w, g, Oj, O1 ++ O', h1, perm_mid h2, fun F' H' Oj' u' s k h' => ?_⟩
    obtain ⟨O'', q1, q2⟩ := h3 F' H' Oj' u' s (fun a ha => k a (List.mem_append_right _ ha)) h'
    exact ⟨O1 ++ O'', .so (h.stay s fun a ha => k a (List.mem_append_left _ ha)) q1, perm_mid q2⟩

theorem OwE.focus {F H : Hp} {env : Env} {σ : L2.St} {O : List Addr} {i : Nat} {p : List Str} {u : T} (h : OwE F H O σ env) (e : getP i p env = some u) :
    ∃ w, Hung F H O w u (fun F' H' O'' u' => OwE F' H' O'' σ (setP i p u' env)) ∧ (p = [] → σ[i]? = some (some w)) := by
  unfold getP at e
  cases hi : env[i]? with
  | none => rw [hi] at e; cases e
  | some o =>
    cases o with
    | none => rw [hi] at e; cases e
    | some t =>
      rw [hi] at e
      obtain ⟨w0, g0, Oj0, O0', h1, h2, h3⟩ := OwE.focusI h hi
      obtain ⟨w, ⟨Oj, O', k1, k2, k3⟩, k4⟩ := h1.focus e
      refine ⟨w, ⟨Oj, O' ++ O0', k1, h2.trans (by rw [← List.append_assoc]; exact k2.append_right O0'), fun F' H' Oj' u' s k h' => ?_⟩, fun z => by rw [k4 z]; exact g0⟩
      obtain ⟨O2, q1, q2⟩ := k3 F' H' Oj' u' s (fun b hb => k b (List.mem_append_left _ hb)) h'
      obtain ⟨O3, q3, q4⟩ := h3 F' H' O2 _ s (fun b hb => k b (List.mem_append_right _ hb)) q1
      refine ⟨O3, ?_, q4.trans (by rw [← List.append_assoc]; exact q2.append_right O0')⟩
      show OwE F' H' O3 σ (setP i p u' env)
      rw [setP_eq hi]
      exact q3

/-! ### the state -/
/-- the table at p tells the code object at c -/
def Told (H : Hp) (p c : Addr) : Prop := ∃ (ps : Array Value) (pos : Pos), H p = some (.tbl ps) ∧ codeAmong pos ps.toList = some (.ref c)
theorem Told.code {H : Hp} {p c : Addr} {q : Str} (t : Told H p c) (s : LamX.TabS H p q) : H c = some (LamX.CodeO c q) := by
  obtain ⟨ps, pos, h1, h2⟩ := t
  obtain ⟨ps', g1, _, g3⟩ := s
  rw [h1] at g1
  cases g1
  obtain ⟨c', e1, e2⟩ := g3 pos _ h2
  cases e1
  exact e2
/-- the tables grow alone -/
def TabM (Tq : List (Addr × Str)) (H0 H : Hp) : Prop := ∀ p ∈ Tq, LamX.TabS H0 p.1 p.2 → LamX.TabS H p.1 p.2 ∧ ∀ c, Told H0 p.1 c → Told H p.1 c
theorem TabM.refl {Tq : List (Addr × Str)} (H : Hp) : TabM Tq H H := fun _ _ h => ⟨h, fun _ z => z⟩
theorem TabM.trans {Tq : List (Addr × Str)} {H0 H1 H2 : Hp} (a : TabM Tq H0 H1) (b : TabM Tq H1 H2) : TabM Tq H0 H2 := fun p m t => ⟨(b p m (a p m t).1).1, fun c z => (b p m (a p m t).1).2 c ((a p m t).2 c z)⟩
/-- what a step leaves -/
structure Frm (Tq : List (Addr × Str)) (H0 F0 : Hp) (O0 : List Addr) (H F : Hp) (O : List Addr) : Prop where
  fz : Same F0 F
  out : ∀ a o, H0 a = some o → (∀ ps, o ≠ .tbl ps) → a ∉ O0 → H a = some o
  al : ∀ a, H0 a ≠ none → H a ≠ none
  newF : ∀ a, F a ≠ none → F0 a ≠ none ∨ H0 a = none ∨ a ∈ O0
  newO : ∀ a ∈ O, a ∈ O0 ∨ H0 a = none
  tb : TabM Tq H0 H
theorem Frm.refl {Tq : List (Addr × Str)} (H F : Hp) (O : List Addr) : Frm Tq H F O H F O := ⟨Same.refl _, fun _ _ h _ _ => h, fun _ h => h, fun _ h => .inl h, fun _ h => .inl h, TabM.refl _⟩
/-- one object is written: no table, no code object of a table -/
theorem tab_upd {Tq : List (Addr × Str)} {H : Hp} {a : Addr} {x : HO} (h : ∀ o, H a = some o → (∀ ps, o ≠ .tbl ps) ∧ ∀ q, o ≠ LamX.CodeO a q) : TabM Tq H (upd H a x) := fun p m t => by
  obtain ⟨ps, h1, h2, h3⟩ := t
  have k : upd H a x p.1 = H p.1 := upd_ne fun z => by rw [z] at h1; exact (h _ h1).1 _ rfl
  refine ⟨⟨ps, k.trans h1, h2, fun pos cv hc => ?_⟩, fun c ⟨ps', pos, g1, g2⟩ => ⟨ps', pos, k.trans g1, g2⟩⟩
  obtain ⟨c, e1, e2⟩ := h3 pos cv hc
  exact ⟨c, e1, by rw [upd_ne fun z => by subst z; exact (h _ e2).2 _ rfl]; exact e2⟩
theorem tab_own {Tq : List (Addr × Str)} {H : Hp} {a : Addr} {o x : HO} (h : H a = some o) (nt : ∀ ps, o ≠ .tbl ps := by intro _ z; nomatch z) (nc : ∀ q, o ≠ LamX.CodeO a q := by intro _ z; nomatch z) : TabM Tq H (upd H a x) := tab_upd fun o' e => by rw [h] at e; cases e; exact ⟨nt, nc⟩
theorem tab_new {Tq : List (Addr × Str)} {H : Hp} {a : Addr} {x : HO} (h : H a = none) : TabM Tq H (upd H a x) := tab_upd fun o e => by rw [h] at e; cases e
theorem tab_same {Tq : List (Addr × Str)} {H H' : Hp} (s : Same H H') : TabM Tq H H' := fun p m t => ⟨t.ext s, fun c ⟨ps, pos, g1, g2⟩ => ⟨ps, pos, s _ _ g1, g2⟩⟩
/-- the tables: no part of what is frozen or held -/
structure TabZ (Tq : List (Addr × Str)) (H F : Hp) (O : List Addr) : Prop where
  tabs : LamX.Tabs Tq H
  tn : ∀ p ∈ Tq, F p.1 = none
  to : ∀ p ∈ Tq, p.1 ∉ O
theorem Frm.trans {Tq : List (Addr × Str)} {H0 F0 H1 F1 H2 F2 : Hp} {O0 O1 O2 : List Addr} (a : Frm Tq H0 F0 O0 H1 F1 O1) (b : Frm Tq H1 F1 O1 H2 F2 O2) : Frm Tq H0 F0 O0 H2 F2 O2 where
  fz := a.fz.trans b.fz
  out := fun c o h nt n => b.out c o (a.out c o h nt n) nt fun z => (a.newO c z).elim n fun q => by rw [q] at h; cases h
  tb := a.tb.trans b.tb
  al := fun c h => b.al c (a.al c h)
  newF := fun c h => by
    rcases b.newF c h with z | z | z
    · exact a.newF c z
    · refine .inr (.inl ?_)
      cases q : H0 c with
      | none => rfl
      | some o => exact absurd z (a.al c (by rw [q]; exact fun z => nomatch z))
    · exact (a.newO c z).elim (fun q => .inr (.inr q)) fun q => .inr (.inl q)
  newO := fun c h => by
    rcases b.newO c h with z | z
    · exact a.newO c z
    · refine .inr ?_
      cases q : H0 c with
      | none => rfl
      | some o => exact absurd z (a.al c (by rw [q]; exact fun z => nomatch z))
/-- only the list of the held objects is written otherwise -/
theorem Frm.perm {Tq : List (Addr × Str)} {H0 F0 H F : Hp} {O0 O0' O O' : List Addr} (a : Frm Tq H0 F0 O0 H F O) (h0 : ∀ b, b ∈ O0 ↔ b ∈ O0') (h : ∀ b ∈ O', b ∈ O) : Frm Tq H0 F0 O0' H F O' :=
  ⟨a.fz, fun c o e nt n => a.out c o e nt fun z => n ((h0 c).mp z), a.al, fun c e => (a.newF c e).imp_right (·.imp_right (h0 c).mp), fun c e => (a.newO c (h c e)).imp_left (h0 c).mp, a.tb⟩
/-- a step of a part, the other held objects aside -/
theorem Frm.frame {Tq : List (Addr × Str)} {H0 F0 H F : Hp} {O0 O R : List Addr} (a : Frm Tq H0 F0 O0 H F O) : Frm Tq H0 F0 (O0 ++ R) H F (O ++ R) where
  fz := a.fz
  out := fun c o e nt n => a.out c o e nt fun z => n (List.mem_append_left _ z)
  tb := a.tb
  al := a.al
  newF := fun c e => (a.newF c e).imp_right (·.imp_right (List.mem_append_left _))
  newO := fun c e => (List.mem_append.mp e).elim (fun z => (a.newO c z).imp_left (List.mem_append_left _)) fun z => .inl (List.mem_append_right _ z)
/-- the state at a def's entry; Tq: the tables of code objects that are known -/
structure Zb (Tq : List (Addr × Str)) where
  H : Hp
  F : Hp
  O : List Addr
  tb : TabZ Tq H F O
/-- F never changes; O are the objects that are held by one name alone; Z: the entry -/
structure Bas {Tq : List (Addr × Str)} (Z : Zb Tq) (F H : Hp) (O : List Addr) : Prop where
  sub : Same F H
  nd : O.Nodup
  dis : ∀ a ∈ O, F a = none
  abs : Frm Tq Z.H Z.F Z.O H F O
/-- the other held objects stand as they were -/
theorem Frm.rest {Tq : List (Addr × Str)} {H0 F0 H F : Hp} {O0 O R : List Addr} (a : Frm Tq H0 F0 O0 H F O) (nd : (O0 ++ R).Nodup) (ex : ∀ b ∈ R, Held H0 b) : ∀ b ∈ R, H b = H0 b := fun b hb => by
  obtain ⟨o, q, nt⟩ := ex b hb
  rw [q]
  exact a.out b o q nt fun z => (List.nodup_append.mp nd).2.2 b z b hb rfl
theorem Bas.frame {Tq : List (Addr × Str)} {Z Z' : Zb Tq} {H0 F0 H F : Hp} {O0 O R : List Addr} (a : Frm Tq H0 F0 O0 H F O) (b0 : Bas Z F0 H0 (O0 ++ R)) (b : Bas Z' F H O) (ex : ∀ c ∈ R, Held H0 c) : Bas Z F H (O ++ R) := by
  refine ⟨b.sub, List.nodup_append.mpr ⟨b.nd, (List.nodup_append.mp b0.nd).2.1, fun x hx y hy e => ?_⟩, fun c hc => ?_, b0.abs.trans a.frame⟩
  · subst e
    rcases a.newO x hx with z | z
    · exact (List.nodup_append.mp b0.nd).2.2 x z x hy rfl
    · exact (ex x hy).ne z
  · rcases List.mem_append.mp hc with z | z
    · exact b.dis c z
    · cases q : F c with
      | none => rfl
      | some o =>
        rcases a.newF c (by rw [q]; exact fun z => nomatch z) with r | r | r
        · exact absurd (b0.dis c (List.mem_append_right _ z)) r
        · exact absurd r (ex c z).ne
        · exact absurd rfl ((List.nodup_append.mp b0.nd).2.2 c r c z)
theorem Bas.perm {Tq : List (Addr × Str)} {Z : Zb Tq} {F H : Hp} {O O' : List Addr} (b : Bas Z F H O) (p : O.Perm O') : Bas Z F H O' := ⟨b.sub, p.nodup b.nd, fun a ha => b.dis a (p.mem_iff.mpr ha), b.abs.perm (fun _ => Iff.rfl) fun c hc => p.mem_iff.mpr hc⟩
theorem Bas.left {Tq : List (Addr × Str)} {Z : Zb Tq} {F H : Hp} {O R : List Addr} (b : Bas Z F H (O ++ R)) : Bas Z F H O := ⟨b.sub, (List.nodup_append.mp b.nd).1, fun a ha => b.dis a (List.mem_append_left _ ha), b.abs.perm (fun _ => Iff.rfl) fun c hc => List.mem_append_left _ hc⟩
theorem Bas.right {Tq : List (Addr × Str)} {Z : Zb Tq} {F H : Hp} {O R : List Addr} (b : Bas Z F H (O ++ R)) : Bas Z F H R := ⟨b.sub, (List.nodup_append.mp b.nd).2.1, fun a ha => b.dis a (List.mem_append_right _ ha), b.abs.perm (fun _ => Iff.rfl) fun c hc => List.mem_append_right _ hc⟩
theorem Bas.tabs {F H : Hp} {O : List Addr} {Tq : List (Addr × Str)} {Z : Zb Tq} (b : Bas Z F H O) : TabZ Tq H F O :=
  have no : ∀ p ∈ Tq, Z.H p.1 ≠ none := fun p hp z => by
    obtain ⟨ps, h, _⟩ := Z.tb.tabs p hp
    rw [z] at h
    cases h
  ⟨fun p hp => (b.abs.tb p hp (Z.tb.tabs p hp)).1, fun p hp => by
    cases q : F p.1 with
    | none => rfl
    | some x =>
      rcases b.abs.newF p.1 (by rw [q]; exact fun z => nomatch z) with y | y | y
      · exact absurd (Z.tb.tn p hp) y
      · exact absurd y (no p hp)
      · exact absurd y (Z.tb.to p hp), fun p hp z => (b.abs.newO p.1 z).elim (Z.tb.to p hp) (no p hp)⟩
theorem Bas.entry {F H : Hp} {O : List Addr} {Tq : List (Addr × Str)} {Z : Zb Tq} (b : Bas Z F H O) : Bas ⟨H, F, O, b.tabs⟩ F H O := ⟨b.sub, b.nd, b.dis, Frm.refl _ _ _⟩
end QL

/-! QB: what an expression gives, over data: WE (a result), WA (an argument), WAs, WT (a test); WS, WSs (statements). -/
namespace QL
open PySem PySem.Spec PyProof.Rows L2

/-- a result: a thing of its own, or what stands at a place of a name (an object that this name holds) -/
inductive R
  | t (t : T)
  | bor (a : Addr) (i : Nat) (p : List Str)
/-- an argument -/
inductive A
  | va (d : D)
  | bor (a : Addr) (i : Nat) (p : List Str)

def frzT : T → Option D
  | .va d => some d
  | .lst _ ds => some (.list ds)
  | .dic _ kvs => some (.dict (kvs.map fun p => (kD p.1, p.2)))
  | .fdc _ kvs => some (.dict (kvs.map fun p => (kD p.1, p.2)))
  | _ => none
def toA (r : R) (k : A → Prop) : Prop := match r with
  | .bor a i p => k (.bor a i p)
  | .t t => match frzT t with
    | some d => k (.va d)
    | none => False

def StR (F H : Hp) (O : List Addr) (σ : L2.St) (env : Env) (v : V) : R → Prop
  | .t t => ∃ O1 O2, O = O1 ++ O2 ∧ OwE F H O1 σ env ∧ Ow F H O2 v t
  | .bor a _ _ => OwE F H O σ env ∧ v = .ref a
def StA (F : Hp) (v : V) : A → Prop
  | .va d => Rp F v d
  | .bor a _ _ => v = .ref a
theorem StA.mono {F F' : Hp} (s : Same F F') {v : V} {a : A} (h : StA F v a) : StA F' v a := by
  cases a with
  | va d => exact Rp.mono s h
  | bor a i p => exact h
inductive StAs (F : Hp) : List V → List A → Prop
  | nil : StAs F [] []
  | cons {v : V} {vs : List V} {a : A} {as : List A} : StA F v a → StAs F vs as → StAs F (v :: vs) (a :: as)
theorem StAs.mono {F F' : Hp} (s : Same F F') : ∀ {v : List V} {a : List A}, StAs F v a → StAs F' v a
  | _, _, .nil => .nil
  | _, _, .cons h r => .cons (h.mono s) (StAs.mono s r)

/-! ### freezing -/
def frzF (F H : Hp) (O : List Addr) : Hp := fun a => if a ∈ O then H a else F a
theorem frzF_in {F H : Hp} {O : List Addr} {a : Addr} (h : a ∈ O) : frzF F H O a = H a := by unfold frzF; rw [if_pos h]
theorem frzF_out {F H : Hp} {O : List Addr} {a : Addr} (h : a ∉ O) : frzF F H O a = F a := by unfold frzF; rw [if_neg h]
theorem frzF_from {F H : Hp} {O : List Addr} (d : ∀ a ∈ O, F a = none) : Same F (frzF F H O) := fun b o e => by
  by_cases h : b ∈ O
  · rw [d b h] at e; cases e
  · rw [frzF_out h]; exact e
theorem frzF_to {F H : Hp} {O : List Addr} (s : Same F H) : Same (frzF F H O) H := fun b o e => by
  by_cases h : b ∈ O
  · rw [frzF_in h] at e; exact e
  · rw [frzF_out h] at e; exact s b o e
theorem RpT.rpk {F : Hp} : ∀ {vs : List (Key × V)} {ds : List (Key × D)}, RpT F vs ds → RpK F vs (ds.map fun p => (kD p.1, p.2))
  | _, _, .nil => .nil
  | _, _, .cons h r => .cons h r.rpk
theorem Ow.frz {F H F' : Hp} {O : List Addr} {v : V} {t : T} {d : D} (h : Ow F H O v t) (s : Same F F') (k : ∀ a ∈ O, F' a = H a) (f : frzT t = some d) : Rp F' v d := by
  cases h with
  | va r => cases f; exact r.mono s
  | lst h r => cases f; exact .lst ((k _ (List.mem_singleton.mpr rfl)).trans h) (r.mono s)
  | dic h r => cases f; exact .dic (.inl ((k _ (List.mem_singleton.mpr rfl)).trans h)) (r.rpk.mono s)
  | fdc h r => cases f; exact .dic (.inr ⟨_, s _ _ h⟩) (r.rpk.mono s)
  | ins h1 h2 r => cases f
  | hole => cases f
  | ob h st => cases f
/-- a part of what is held is held no more: it never changes from now on -/
theorem Bas.freeze {Tq : List (Addr × Str)} {Z : Zb Tq} {F H : Hp} {O1 O2 : List Addr} (b : Bas Z F H (O1 ++ O2)) : Bas Z (frzF F H O2) H O1 ∧ Same F (frzF F H O2) ∧ (∀ a ∈ O2, frzF F H O2 a = H a) ∧ Frm Tq H F (O1 ++ O2) H (frzF F H O2) O1 := by
  have s : Same F (frzF F H O2) := frzF_from b.right.dis
  have fr : Frm Tq H F (O1 ++ O2) H (frzF F H O2) O1 := ⟨s, fun _ _ h _ _ => h, fun _ h => h, fun a h => by
    by_cases q : a ∈ O2
    · exact .inr (.inr (List.mem_append_right _ q))
    · rw [frzF_out q] at h
      exact .inl h, fun a ha => .inl (List.mem_append_left _ ha), TabM.refl _⟩
  refine ⟨⟨frzF_to b.sub, b.left.nd, fun a ha => ?_, b.abs.trans fr⟩, s, fun a ha => frzF_in ha, fr⟩
  rw [frzF_out fun z => (List.nodup_append.mp b.nd).2.2 a ha a z rfl]
  exact b.left.dis a ha

/-! ### expressions -/
def Post {Tq : List (Addr × Str)} (Z : Zb Tq) (σ : L2.St) (H0 F0 : Hp) (O0 : List Addr) (P : R → Env → Prop) : VK := fun v H => ∃ F O r env, Bas Z F H O ∧ StR F H O σ env v r ∧ Frm Tq H0 F0 O0 H F O ∧ P r env
def PostA {Tq : List (Addr × Str)} (Z : Zb Tq) (σ : L2.St) (H0 F0 : Hp) (O0 : List Addr) (P : A → Env → Prop) : VK := fun v H => ∃ F O a env, Bas Z F H O ∧ OwE F H O σ env ∧ StA F v a ∧ Frm Tq H0 F0 O0 H F O ∧ P a env
def PostAs {Tq : List (Addr × Str)} (Z : Zb Tq) (σ : L2.St) (H0 F0 : Hp) (O0 : List Addr) (P : List A → Env → Prop) : List V → Hp → Prop := fun vs H => ∃ F O as env, Bas Z F H O ∧ OwE F H O σ env ∧ StAs F vs as ∧ Frm Tq H0 F0 O0 H F O ∧ P as env
def PostT {Tq : List (Addr × Str)} (Z : Zb Tq) (σ : L2.St) (H0 F0 : Hp) (O0 : List Addr) (P : Bool → Env → Prop) : Bool → Hp → Prop := fun b H => ∃ F O env, Bas Z F H O ∧ OwE F H O σ env ∧ Frm Tq H0 F0 O0 H F O ∧ P b env

def WE {Tq : List (Addr × Str)} (Z : Zb Tq) (X : Cx) (e : Expr) (env : Env) (P : R → Env → Prop) : Prop :=
  ∀ (pins : List (Addr × Obj)) (s : Shared) (σ : L2.St) (H F : Hp) (O : List Addr), Inv X pins σ H s → Bas Z F H O → OwE F H O σ env →
    wpAny (model X.prog X.w) X.A (eval e X.env) (EP X pins σ (Post Z σ H F O P)) X.xe s
def WA {Tq : List (Addr × Str)} (Z : Zb Tq) (X : Cx) (e : Expr) (env : Env) (P : A → Env → Prop) : Prop := WE Z X e env fun r env' => toA r fun a => P a env'
def WT {Tq : List (Addr × Str)} (Z : Zb Tq) (X : Cx) (e : Expr) (env : Env) (P : Bool → Env → Prop) : Prop :=
  ∀ (pins : List (Addr × Obj)) (s : Shared) (σ : L2.St) (H F : Hp) (O : List Addr), Inv X pins σ H s → Bas Z F H O → OwE F H O σ env →
    wpAny (model X.prog X.w) X.A (isTrue e X.env (eval e X.env)) (TP X pins σ (PostT Z σ H F O P)) X.xe s
/-- a test, whatever its value is taken from -/
def WW {Tq : List (Addr × Str)} (Z : Zb Tq) (X : Cx) (e : Expr) (env : Env) (P : Bool → Env → Prop) : Prop :=
  ∀ (whole : Sem Value) (pins : List (Addr × Obj)) (s : Shared) (σ : L2.St) (H F : Hp) (O : List Addr), Inv X pins σ H s → Bas Z F H O → OwE F H O σ env →
    wpAny (model X.prog X.w) X.A (isTrue e X.env whole) (TP X pins σ (PostT Z σ H F O P)) X.xe s
theorem WW.t {Tq : List (Addr × Str)} {Z : Zb Tq} {X : Cx} {e : Expr} {env : Env} {P : Bool → Env → Prop} (h : WW Z X e env P) : WT Z X e env P := h _

section
variable {Tq : List (Addr × Str)} {Z : Zb Tq} {X : Cx} {e a b : Expr} {env : Env} {pins : List (Addr × Obj)} {s : Shared} {σ : L2.St} {H F : Hp} {O : List Addr}
theorem EP.imp {Q Q' : VK} (h : ∀ v H', Q v H' → Q' v H') : ∀ u s', EP X pins σ Q u s' → EP X pins σ Q' u s' := fun _ _ ⟨v, H', I, r, q⟩ => ⟨v, H', I, r, h v H' q⟩
theorem Post.toA {H0 F0 : Hp} {O0 : List Addr} {P : A → Env → Prop} {v : V} (h : Post Z σ H0 F0 O0 (fun r env' => QL.toA r fun a => P a env') v H) : PostA Z σ H0 F0 O0 P v H := by
  obtain ⟨F, O, r, env, b, st, fr, p⟩ := h
  cases r with
  | bor a i pp => exact ⟨F, O, .bor a i pp, env, b, st.1, st.2, fr, p⟩
  | t t =>
    obtain ⟨O1, O2, rfl, e, o⟩ := st
    cases hf : frzT t with
    | none => unfold QL.toA at p; simp only [hf] at p
    | some d =>
      unfold QL.toA at p
      simp only [hf] at p
      obtain ⟨b', s, k, fr'⟩ := b.freeze
      exact ⟨_, O1, .va d, env, b', e.stay s fun _ _ => rfl, o.frz s k hf, fr.trans fr', p⟩
theorem Post.imp {H0 F0 : Hp} {O0 : List Addr} {P P' : R → Env → Prop} (hp : ∀ r env, P r env → P' r env) {v : V} (h : Post Z σ H0 F0 O0 P v H) : Post Z σ H0 F0 O0 P' v H := by
  obtain ⟨F, O, r, env, b, st, fr, p⟩ := h
  exact ⟨F, O, r, env, b, st, fr, hp _ _ p⟩
theorem Post.from {H0 F0 H1 F1 : Hp} {O0 O1 : List Addr} {P : R → Env → Prop} (fr : Frm Tq H0 F0 O0 H1 F1 O1) {v : V} (h : Post Z σ H1 F1 O1 P v H) : Post Z σ H0 F0 O0 P v H := by
  obtain ⟨F, O, r, env, b, st, fr', p⟩ := h
  exact ⟨F, O, r, env, b, st, fr.trans fr', p⟩
theorem PostA.from {H0 F0 H1 F1 : Hp} {O0 O1 : List Addr} {P : A → Env → Prop} (fr : Frm Tq H0 F0 O0 H1 F1 O1) {v : V} (h : PostA Z σ H1 F1 O1 P v H) : PostA Z σ H0 F0 O0 P v H := by
  obtain ⟨F, O, r, env, b, e, st, fr', p⟩ := h
  exact ⟨F, O, r, env, b, e, st, fr.trans fr', p⟩
theorem PostT.from {H0 F0 H1 F1 : Hp} {O0 O1 : List Addr} {P : Bool → Env → Prop} (fr : Frm Tq H0 F0 O0 H1 F1 O1) {v : Bool} (h : PostT Z σ H1 F1 O1 P v H) : PostT Z σ H0 F0 O0 P v H := by
  obtain ⟨F, O, r, b, e, fr', p⟩ := h
  exact ⟨F, O, r, b, e, fr.trans fr', p⟩
theorem WE.imp {P P' : R → Env → Prop} (h : WE Z X e env P) (hp : ∀ r env, P r env → P' r env) : WE Z X e env P' := fun pins s σ H F O I b o => thn (h pins s σ H F O I b o) (EP.imp fun _ _ => Post.imp hp)
theorem WT.imp {P P' : Bool → Env → Prop} (h : WT Z X e env P) (hp : ∀ r env, P r env → P' r env) : WT Z X e env P' := fun pins s σ H F O I b o =>
  thn (h pins s σ H F O I b o) fun _ _ ⟨H', I', F, O, r, b, e, fr, p⟩ => ⟨H', I', F, O, r, b, e, fr, hp _ _ p⟩
theorem WA.run {P : A → Env → Prop} (h : WA Z X e env P) (I : Inv X pins σ H s) (b : Bas Z F H O) (o : OwE F H O σ env) :
    wpAny (model X.prog X.w) X.A (eval e X.env) (EP X pins σ (PostA Z σ H F O P)) X.xe s := thn (h pins s σ H F O I b o) (EP.imp fun _ _ => Post.toA)

/-- readings of the hand layer made of these -/
def tE {Tq : List (Addr × Str)} (Z : Zb Tq) (X : Cx) (e : Expr) : TE := fun σ H Q => ∃ env F O P, Bas Z F H O ∧ OwE F H O σ env ∧ WE Z X e env P ∧ ∀ v H', Post Z σ H F O P v H' → Q v H'
def tA {Tq : List (Addr × Str)} (Z : Zb Tq) (X : Cx) (e : Expr) : TE := fun σ H Q => ∃ env F O P, Bas Z F H O ∧ OwE F H O σ env ∧ WA Z X e env P ∧ ∀ v H', PostA Z σ H F O P v H' → Q v H'
def tT {Tq : List (Addr × Str)} (Z : Zb Tq) (X : Cx) (e : Expr) : TT := fun σ H Q => ∃ env F O P, Bas Z F H O ∧ OwE F H O σ env ∧ WT Z X e env P ∧ ∀ v H', PostT Z σ H F O P v H' → Q v H'
theorem pe_E : PE X e (tE Z X e) := ⟨fun pins s σ H Q I ⟨env, F, O, P, b, o, w, q⟩ => thn (w pins s σ H F O I b o) (EP.imp q)⟩
theorem pe_A : PE X e (tA Z X e) := ⟨fun pins s σ H Q I ⟨env, F, O, P, b, o, w, q⟩ => thn (w.run I b o) (EP.imp q)⟩
theorem pt_T : PT X e (tT Z X e) := ⟨fun pins s σ H Q I ⟨env, F, O, P, b, o, w, q⟩ => thn (w pins s σ H F O I b o) fun _ _ ⟨H', I', p⟩ => ⟨H', I', q _ _ p⟩⟩
/-- from the hand layer -/
theorem we_of {t : TE} {P : R → Env → Prop} (h : PE X e t) (w : ∀ σ H F O, Bas Z F H O → OwE F H O σ env → t σ H (Post Z σ H F O P)) : WE Z X e env P := fun pins s σ H F O I b o => h.run pins s σ H _ I (w σ H F O b o)
theorem wt_of {t : TT} {P : Bool → Env → Prop} (h : PT X e t) (w : ∀ σ H F O, Bas Z F H O → OwE F H O σ env → t σ H (PostT Z σ H F O P)) : WT Z X e env P := fun pins s σ H F O I b o => h.run pins s σ H _ I (w σ H F O b o)

/-! ### arguments -/
def WAs {Tq : List (Addr × Str)} (Z : Zb Tq) (X : Cx) : List Expr → Env → (List A → Env → Prop) → Prop
  | [], env, P => P [] env
  | e :: es, env, P => (starEach (e :: es) X.env = (false, eval e X.env) :: starEach es X.env) ∧ WA Z X e env fun a env1 => WAs Z X es env1 fun as env2 => P (a :: as) env2
def tAs {Tq : List (Addr × Str)} (Z : Zb Tq) (X : Cx) (es : List Expr) : TA := fun σ H Q => ∃ env F O P, Bas Z F H O ∧ OwE F H O σ env ∧ WAs Z X es env P ∧ ∀ v H', PostAs Z σ H F O P v H' → Q v H'
theorem pa_As : ∀ {es : List Expr}, PA X es (tAs Z X es)
  | [] => ⟨fun pos pins s σ H Q I ⟨env, F, O, P, b, o, w, q⟩ => pa_nil.run pos pins s σ H Q I (q [] H ⟨F, O, [], env, b, o, .nil, Frm.refl _ _ _, w⟩)⟩
  | e :: es => ⟨fun pos pins s σ H Q I ⟨env, F, O, P, b, o, w, q⟩ => by
    have hp := pa_cons (X := X) (pe_A (Z := Z) (e := e)) (pa_As (es := es)) w.1
    refine hp.run pos pins s σ H Q I ⟨env, F, O, _, b, o, w.2, ?_⟩
    rintro v1 H1 ⟨F1, O1, a1, env1, b1, o1, st1, fr1, w1⟩
    refine ⟨env1, F1, O1, _, b1, o1, w1, ?_⟩
    rintro vs H2 ⟨F2, O2, as, env2, b2, o2, st2, fr2, w2⟩
    exact q _ _ ⟨F2, O2, a1 :: as, env2, b2, o2, .cons (st1.mono fr2.fz) st2, fr1.trans fr2, w2⟩⟩
/-- the same with named arguments -/
def WKs {Tq : List (Addr × Str)} (Z : Zb Tq) (X : Cx) : List Keyword → Env → (List A → Env → Prop) → Prop
  | [], env, P => P [] env
  | k :: ks, env, P => WA Z X k.value env fun a env1 => WKs Z X ks env1 fun as env2 => P (a :: as) env2
def tKs {Tq : List (Addr × Str)} (Z : Zb Tq) (X : Cx) (es : List Keyword) : TA := fun σ H Q => ∃ env F O P, Bas Z F H O ∧ OwE F H O σ env ∧ WKs Z X es env P ∧ ∀ v H', PostAs Z σ H F O P v H' → Q v H'
theorem pk_Ks : ∀ {es : List Keyword}, PK X es (tKs Z X es)
  | [] => ⟨fun pos pins s σ H Q I ⟨env, F, O, P, b, o, w, q⟩ => pk_nil.run pos pins s σ H Q I (q [] H ⟨F, O, [], env, b, o, .nil, Frm.refl _ _ _, w⟩)⟩
  | ⟨nm, e, kp⟩ :: es => ⟨fun pos pins s σ H Q I ⟨env, F, O, P, b, o, w, q⟩ => by
    have hp := pk_cons (X := X) (nm := nm) (kpos := kp) (pe_A (Z := Z) (e := e)) (pk_Ks (es := es))
    refine hp.run pos pins s σ H Q I ⟨env, F, O, _, b, o, w, ?_⟩
    rintro v1 H1 ⟨F1, O1, a1, env1, b1, o1, st1, fr1, w1⟩
    refine ⟨env1, F1, O1, _, b1, o1, w1, ?_⟩
    rintro vs H2 ⟨F2, O2, as, env2, b2, o2, st2, fr2, w2⟩
    exact q _ _ ⟨F2, O2, a1 :: as, env2, b2, o2, .cons (st1.mono fr2.fz) st2, fr1.trans fr2, w2⟩⟩

/-! ### what an argument is seen as -/
inductive Vw (F H : Hp) : V → D → Prop
  | pure {v : V} {d : D} : Rp F v d → Vw F H v d
  | lst {a : Addr} {xs : List V} {ds : List D} : H a = some (.lst xs) → RpA F xs ds → Vw F H (.ref a) (.list ds)
  | dic {a : Addr} {kvs : List (Key × V)} {ds : List (D × D)} : H a = some (.dK kvs) → RpK F kvs ds → Vw F H (.ref a) (.dict ds)
theorem Vw.rp {v : V} {d : D} (h : Vw F H v d) (s : Same F H) : Rp H v d := by
  cases h with
  | pure r => exact r.mono s
  | lst h r => exact .lst h (r.mono s)
  | dic h r => exact .dic (.inl h) (r.mono s)
def View (a : A) (env : Env) (k : D → Prop) : Prop := match a with
  | .va d => () = () ∧ k d
  | .bor a i p => match getP i p env with
    | some (.lst a' ds) => a' = a ∧ k (.list ds)
    | some (.dic a' kvs) => a' = a ∧ k (.dict (kvs.map fun p => (kD p.1, p.2)))
    | some (.fdc a' kvs) => a' = a ∧ k (.dict (kvs.map fun p => (kD p.1, p.2)))
    | _ => False
theorem View.vw {v : V} {a : A} {k : D → Prop} (h : View a env k) (o : OwE F H O σ env) (st : StA F v a) : ∃ d, Vw F H v d ∧ k d := by
  cases a with
  | va d => exact ⟨d, .pure st, h.2⟩
  | bor a i p =>
    unfold View at h
    simp only at h
    cases hg : getP i p env with
    | none => rw [hg] at h; exact h.elim
    | some u =>
      rw [hg] at h
      obtain ⟨w, ⟨Oj, O', h1, _, _⟩, _⟩ := o.focus hg
      have st : v = .ref a := st
      subst st
      cases h1 with
      | va r => exact h.elim
      | lst h1 r => obtain ⟨rfl, h⟩ := h; exact ⟨_, .lst h1 r, h⟩
      | dic h1 r => obtain ⟨rfl, h⟩ := h; exact ⟨_, .dic h1 r.rpk, h⟩
      | fdc h1 r => obtain ⟨rfl, h⟩ := h; exact ⟨_, .pure (.dic (.inr ⟨_, h1⟩) r.rpk), h⟩
      | ins h1 h2 r => exact h.elim
      | hole => exact h.elim
      | ob h1 st => exact h.elim

/-! ### something new is made; all that was there stays -/
def NewV (F H : Hp) (k : T → Prop) : VK := fun v H' => ∃ F' O' t, Same F F' ∧ Same H H' ∧ Same F' H' ∧ (∀ a, F' a ≠ none → F a ≠ none ∨ H a = none) ∧ O'.Nodup ∧ (∀ a ∈ O', H a = none ∧ F' a = none) ∧ Ow F' H' O' v t ∧ k t
theorem NewV.val {k : T → Prop} {v : V} {d : D} (b : Same F H) (r : Rp F v d) (h : k (.va d)) : NewV F H k v H :=
  ⟨F, [], _, Same.refl _, Same.refl _, b, fun _ z => .inl z, List.nodup_nil, fun _ z => (nomatch z), .va r, h⟩
theorem same_new {H : Hp} {p : Addr} {o : HO} (h : H p = none) : Same H (upd H p o) := fun b x e => by rw [upd_ne (ne_of_none e h)]; exact e
theorem Same.freeF {F H : Hp} (s : Same F H) {p : Addr} (h : H p = none) : F p = none := s.free h
theorem same_upd2 {F H : Hp} (s : Same F H) {p : Addr} {o : HO} : Same (upd F p o) (upd H p o) := fun b x e => by
  by_cases h : b = p
  · subst h; rw [upd_same] at e ⊢; exact e
  · rw [upd_ne h] at e ⊢; exact s b x e
theorem NewV.lst {k : T → Prop} {p : Addr} {xs : List V} {ds : List D} (b : Same F H) (r : RpA F xs ds) (n : H p = none) (h : k (.lst p ds)) : NewV F H k (.ref p) (upd H p (.lst xs)) := by
  refine ⟨F, [p], .lst p ds, Same.refl _, same_new n, b.trans (same_new n), fun _ z => .inl z, List.nodup_cons.mpr ⟨fun z => (nomatch z), List.nodup_nil⟩, fun a ha => ?_, .lst upd_same r, h⟩
  rw [List.mem_singleton.mp ha]
  exact ⟨n, b.free n⟩
theorem NewV.tup {k : T → Prop} {p : Addr} {xs : List V} {ds : List D} (b : Same F H) (r : RpA F xs ds) (n : H p = none) (h : k (.va (.tuple ds))) : NewV F H k (.ref p) (upd H p (.tup xs)) := by
  have nf : F p = none := b.free n
  refine ⟨upd F p (.tup xs), [], .va (.tuple ds), same_new nf, same_new n, same_upd2 b, fun a z => ?_, List.nodup_nil, fun _ z => (nomatch z), .va (.tup upd_same (r.mono (same_new nf))), h⟩
  by_cases e : a = p
  · subst e; exact .inr n
  · rw [upd_ne e] at z; exact .inl z
theorem NewV.post {k : T → Prop} {v : V} {H' : Hp} {P : R → Env → Prop} (h : NewV F H k v H') (b : Bas Z F H O) (o : OwE F H O σ env) (hp : ∀ t, k t → P (.t t) env) : Post Z σ H F O P v H' := by
  obtain ⟨F', O', t, s1, s2, s3, nf, nd, no, ow, p⟩ := h
  have keep : ∀ a ∈ O, H' a = H a := fun a ha => by
    cases q : H a with
    | none => exact absurd q (o.there a ha)
    | some x => exact s2 a x q
  have fr : Frm Tq H F O H' F' (O ++ O') := ⟨s1, fun a x e _ _ => s2 a x e, (fun a e => by
      cases q : H a with
      | none => exact absurd q e
      | some x => rw [s2 a x q]; exact fun z => nomatch z), fun a e => (nf a e).imp_right .inl, fun a ha => (List.mem_append.mp ha).imp_right fun z => (no a z).1, tab_same s2⟩
  refine ⟨F', O ++ O', .t t, env, ⟨s3, List.nodup_append.mpr ⟨b.nd, nd, fun x hx y hy e => ?_⟩, fun a ha => ?_, b.abs.trans fr⟩, ⟨O, O', rfl, o.stay s1 keep, ow⟩, fr, hp t p⟩
  · subst e; exact o.there x hx (no x hy).1
  · rcases List.mem_append.mp ha with ha | ha
    · cases q : F' a with
      | none => rfl
      | some x =>
        rcases nf a (by rw [q]; exact fun z => nomatch z) with z | z
        · exact absurd (b.dis a ha) z
        · exact absurd z (o.there a ha)
    · exact (no a ha).2
end
end QL

/-! QC: rules of expressions. -/
namespace QL
open PySem PySem.Spec PyProof.Rows L2

/-! ### lists of data -/
section
variable {F H : Hp}
theorem RpA.len : ∀ {vs : List V} {ds : List D}, RpA F vs ds → vs.length = ds.length
  | _, _, .nil => rfl
  | _, _, .cons _ r => congrArg (· + 1) r.len
theorem RpA.app : ∀ {vs us : List V} {ds es : List D}, RpA F vs ds → RpA F us es → RpA F (vs ++ us) (ds ++ es)
  | _, _, _, _, .nil, r => r
  | _, _, _, _, .cons h r, r' => .cons h (r.app r')
theorem RpA.get : ∀ {vs : List V} {ds : List D} {i : Nat} {v : V}, RpA F vs ds → vs[i]? = some v → ∃ d, ds[i]? = some d ∧ Rp F v d
  | _, _, _, _, .nil, e => nomatch e
  | _, _, 0, _, .cons h r, e => by cases e; exact ⟨_, rfl, h⟩
  | _, _, i + 1, _, .cons h r, e => r.get (i := i) e
theorem RpA.get' : ∀ {vs : List V} {ds : List D} {i : Nat} {d : D}, RpA F vs ds → ds[i]? = some d → ∃ v, vs[i]? = some v ∧ Rp F v d
  | _, _, _, _, .nil, e => nomatch e
  | _, _, 0, _, .cons h r, e => by cases e; exact ⟨_, rfl, h⟩
  | _, _, i + 1, _, .cons h r, e => r.get' (i := i) e
theorem RpA.take : ∀ {vs : List V} {ds : List D} (n : Nat), RpA F vs ds → RpA F (vs.take n) (ds.take n)
  | _, _, 0, _ => .nil
  | _, _, _ + 1, .nil => .nil
  | _, _, n + 1, .cons h r => .cons h (r.take n)
theorem RpA.drop : ∀ {vs : List V} {ds : List D} (n : Nat), RpA F vs ds → RpA F (vs.drop n) (ds.drop n)
  | _, _, 0, r => r
  | _, _, _ + 1, .nil => .nil
  | _, _, n + 1, .cons _ r => r.drop n
theorem RpA.set {v : V} {d : D} (h : Rp F v d) : ∀ {vs : List V} {ds : List D} (i : Nat), RpA F vs ds → RpA F (vs.set i v) (ds.set i d)
  | _, _, _, .nil => .nil
  | _, _, 0, .cons _ r => .cons h r
  | _, _, i + 1, .cons q r => .cons q (r.set h i)
theorem RpA.rep {vs : List V} {ds : List D} (r : RpA F vs ds) : ∀ k : Nat, RpA F (List.replicate k vs).flatten (List.replicate k ds).flatten
  | 0 => .nil
  | k + 1 => by rw [List.replicate_succ, List.replicate_succ, List.flatten_cons, List.flatten_cons]; exact r.app (r.rep k)
theorem RpA.rev {vs : List V} {ds : List D} (r : RpA F vs ds) : RpA F vs.reverse ds.reverse := by
  induction vs generalizing ds with
  | nil => cases r; exact .nil
  | cons v vs ih => cases r with
    | cons h r => rw [List.reverse_cons, List.reverse_cons]; exact (ih r).app (.cons h .nil)
theorem RpA.ints : ∀ {ns : List Int} {vs : List V}, RpA F vs (ns.map PyData.int) → vs = ns.map V.int
  | [], _, .nil => rfl
  | n :: ns, _, .cons h r => by cases h; rw [r.ints]; rfl
theorem RpA.of_ints : ∀ (ns : List Int), RpA F (ns.map V.int) (ns.map PyData.int)
  | [] => .nil
  | n :: ns => .cons (.int n) (RpA.of_ints ns)
theorem RpA.bls : ∀ {ns : List Bool} {vs : List V}, RpA F vs (ns.map PyData.bool) → vs = ns.map V.bl
  | [], _, .nil => rfl
  | n :: ns, _, .cons h r => by cases h; rw [r.bls]; rfl
theorem RpA.strs : ∀ {ns : List Str} {vs : List V}, RpA F vs (ns.map PyData.str) → vs = ns.map V.str
  | [], _, .nil => rfl
  | n :: ns, _, .cons h r => by cases h; rw [r.strs]; rfl

theorem Vw.int {v : V} {i : Int} (h : Vw F H v (.int i)) : v = .int i := by cases h with | pure r => cases r; rfl
theorem Vw.str {v : V} {i : Str} (h : Vw F H v (.str i)) : v = .str i := by cases h with | pure r => cases r; rfl
theorem Vw.bl {v : V} {i : Bool} (h : Vw F H v (.bool i)) : v = .bl i := by cases h with | pure r => cases r; rfl
theorem Vw.non {v : V} (h : Vw F H v .none) : v = .non := by cases h with | pure r => cases r; rfl
theorem Vw.tup {v : V} {ds : List D} (h : Vw F H v (.tuple ds)) : ∃ a xs, v = .ref a ∧ F a = some (.tup xs) ∧ RpA F xs ds := by
  cases h with | pure r => cases r with | tup h r => exact ⟨_, _, rfl, h, r⟩
theorem Vw.lst' {v : V} {ds : List D} (h : Vw F H v (.list ds)) (s : Same F H) : ∃ a xs, v = .ref a ∧ H a = some (.lst xs) ∧ RpA F xs ds := by
  cases h with
  | pure r => cases r with | lst h r => exact ⟨_, _, rfl, s _ _ h, r⟩
  | lst h r => exact ⟨_, _, rfl, h, r⟩
end

/-! ### names, constants, displays -/
section
variable {Tq : List (Addr × Str)} {Z : Zb Tq} {X : Cx} {e a b c : Expr} {es : List Expr} {env : Env} {pos : Pos} {P : R → Env → Prop}

def varR (env : Env) (i : Nat) (k : R → Prop) : Prop := match env[i]? with
  | some (some (.va d)) => k (.t (.va d))
  | some (some t) => match t.addr with
    | some a => k (.bor a i [])
    | none => False
  | _ => False
theorem w_var (i : Nat) {x : Str} (h : varR env i fun r => P r env) (hN : X.N[i]? = some x := by rfl) (hv : Vis X.env.scope x := by first | exact Or.inl rfl | exact Or.inr (Or.inl rfl) | exact Or.inr (Or.inr rfl))
    (hd : (x == ("__debug__" : Str)) = false := by decide) (hcd : (x == ("__classdict__" : Str)) = false := by decide) : WE Z X (.Name x pos) env P := we_of (pe_var hN hv hd hcd) fun σ H F O b o => by
  unfold varR at h
  cases hi : env[i]? with
  | none => rw [hi] at h; exact h.elim
  | some q =>
    cases q with
    | none => rw [hi] at h; exact h.elim
    | some t =>
      rw [hi] at h
      obtain ⟨w, hw, Oj, O', h1, h2, h3⟩ := o.focusI hi
      refine ⟨w, hw, ?_⟩
      have owned : ∀ a, t.addr = some a → P (.bor a i []) env → Post Z σ H F O P w H := fun a ha p => ⟨F, O, .bor a i [], env, b, ⟨o, h1.ref ha⟩, Frm.refl _ _ _, p⟩
      cases t with
      | va d =>
        cases h1 with
        | va r => exact ⟨F, O, .t _, env, b, ⟨O, [], (List.append_nil O).symm, o, .va r⟩, Frm.refl _ _ _, h⟩
      | lst a ds => exact owned a rfl h
      | dic a ds => exact owned a rfl h
      | fdc a ds => exact owned a rfl h
      | ins a C fs => exact owned a rfl h
      | hole a => exact owned a rfl h
      | ob a φ =>
        cases a with
        | none => exact h.elim
        | some a => exact owned a rfl h
theorem post_val {σ : L2.St} {H F : Hp} {O : List Addr} {v : V} {d : D} (b : Bas Z F H O) (o : OwE F H O σ env) (r : Rp F v d) (h : P (.t (.va d)) env) : Post Z σ H F O P v H :=
  ⟨F, O, .t _, env, b, ⟨O, [], (List.append_nil O).symm, o, .va r⟩, Frm.refl _ _ _, h⟩
theorem w_int {i : Int} {j : Nat} (h : P (.t (.va (.int i))) env) : WE Z X (.Constant (.int i) j pos) env P := we_of pe_int fun σ H F O b o => post_val b o (.int i) h
theorem w_bl {i : Bool} {j : Nat} (h : P (.t (.va (.bool i))) env) : WE Z X (.Constant (.bool i) j pos) env P := we_of pe_bl fun σ H F O b o => post_val b o (.bl i) h
theorem w_str {i : Str} {j : Nat} (h : P (.t (.va (.str i))) env) : WE Z X (.Constant (.str i) j pos) env P := we_of pe_str fun σ H F O b o => post_val b o (.str i) h
theorem w_non {j : Nat} (h : P (.t (.va .none)) env) : WE Z X (.Constant .none j pos) env P := we_of pe_non fun σ H F O b o => post_val b o .non h
/-- a module's constant -/
theorem w_glob {x : Str} {v : V} {u : Value} {d : D} (hm : X.mg x = some u) (r : RelV v u) (q : ∀ F : Hp, Rp F v d) (h : P (.t (.va d)) env) (hg : Gl X x := by rfl) (hd : (x == ("__debug__" : Str)) = false := by decide) : WE Z X (.Name x pos) env P :=
  we_of (pe_glob hg hm r hd) fun σ H F O b o => post_val b o (q F) h

/-- what stands in a display: what a name held is from then on frozen there -/
def absorb : List A → Env → (List D → Env → Prop) → Prop
  | [], env, k => k [] env
  | .va d :: as, env, k => absorb as env fun ds env' => k (d :: ds) env'
  | .bor a i p :: as, env, k => match getP i p env with
    | some t => t.addr = some a ∧ match frzT t with
      | some d => absorb as (setP i p (.va d) env) fun ds env' => k (d :: ds) env'
      | none => False
    | none => False
theorem absorb_ok {Tq : List (Addr × Str)} {Z : Zb Tq} {σ : L2.St} {H : Hp} : ∀ {as : List A} {vs : List V} {F : Hp} {O : List Addr} {env : Env} {k : List D → Env → Prop}, StAs F vs as → Bas Z F H O → OwE F H O σ env → absorb as env k →
    ∃ F' O' ds env', Bas Z F' H O' ∧ OwE F' H O' σ env' ∧ RpA F' vs ds ∧ Frm Tq H F O H F' O' ∧ k ds env'
  | [], _, F, O, env, k, .nil, b, o, h => ⟨F, O, [], env, b, o, .nil, Frm.refl _ _ _, h⟩
  | .va d :: as, _, F, O, env, k, .cons st r, b, o, h => by
    obtain ⟨F', O', ds, env', b', o', r', fr, q⟩ := absorb_ok r b o h
    exact ⟨F', O', d :: ds, env', b', o', .cons (Rp.mono fr.fz st) r', fr, q⟩
  | .bor a i p :: as, _, F, O, env, k, .cons st r, b, o, h => by
    unfold absorb at h
    cases hg : getP i p env with
    | none => rw [hg] at h; exact h.elim
    | some t =>
      rw [hg] at h
      obtain ⟨ha, h⟩ := h
      cases hf : frzT t with
      | none => rw [hf] at h; exact h.elim
      | some d =>
        rw [hf] at h
        obtain ⟨w, ⟨Oj, O', h1, h2, h3⟩, _⟩ := o.focus hg
        have hw := h1.ref ha
        have st : _ = V.ref a := st
        subst st hw
        have b2 : Bas Z F H (O' ++ Oj) := b.perm (h2.trans List.perm_append_comm)
        obtain ⟨b3, s3, k3, fr3⟩ := b2.freeze
        have rp := h1.frz s3 k3 hf
        obtain ⟨O'', q1, q2⟩ := h3 _ H [] (.va d) s3 (fun _ _ => rfl) (.va rp)
        have b4 : Bas Z (frzF F H Oj) H O'' := b3.perm q2.symm
        have fr4 : Frm Tq H F O H (frzF F H Oj) O'' := fr3.perm (fun c => (h2.trans List.perm_append_comm).symm.mem_iff) fun c hc => q2.mem_iff.mp hc
        obtain ⟨F5, O5, ds, env5, b5, o5, r5, fr5, q5⟩ := absorb_ok (r.mono s3) b4 q1 h
        exact ⟨F5, O5, d :: ds, env5, b5, o5, .cons (rp.mono fr5.fz) r5, fr4.trans fr5, q5⟩
theorem w_tup {x1 : _} (h : WAs Z X es env fun as env1 => absorb as env1 fun ds env2 => ds.length ≤ sizeLine ∧ P (.t (.va (.tuple ds))) env2) : WE Z X (.Tuple es x1 pos) env P :=
  we_of (pe_tup pa_As) fun σ H F O b o => ⟨env, F, O, _, b, o, h, fun vs H1 ⟨F1, O1, as, env1, b1, o1, st1, fr1, h1⟩ => by
    obtain ⟨F2, O2, ds, env2, b2, o2, r2, fr2, z, q⟩ := absorb_ok st1 b1 o1 h1
    refine ⟨by rw [r2.len]; exact z, fun p hp => ?_⟩
    exact ((NewV.tup b2.sub r2 hp (k := fun t => t = .va (.tuple ds)) rfl).post b2 o2 (fun t e => by subst e; exact q)).from (fr1.trans fr2)⟩
theorem w_lst (h : WAs Z X es env fun as env1 => absorb as env1 fun ds env2 => ds.length ≤ sizeLine ∧ ∀ p, P (.t (.lst p ds)) env2) : WE Z X (.List es pos) env P :=
  we_of (pe_lst pa_As) fun σ H F O b o => ⟨env, F, O, _, b, o, h, fun vs H1 ⟨F1, O1, as, env1, b1, o1, st1, fr1, h1⟩ => by
    obtain ⟨F2, O2, ds, env2, b2, o2, r2, fr2, z, q⟩ := absorb_ok st1 b1 o1 h1
    refine ⟨by rw [r2.len]; exact z, fun p hp => ?_⟩
    exact ((NewV.lst b2.sub r2 hp (k := fun t => t = .lst p ds) rfl).post b2 o2 (fun t e => by subst e; exact q p)).from (fr1.trans fr2)⟩

/-! ### operators -/
def DOp (X : Cx) (f : Value → Value → Sem Value) (g : D → D → (T → Prop) → Prop) : Prop :=
  ∀ (pins : List (Addr × Obj)) (s : Shared) (σ : L2.St) (H F : Hp) (v1 v2 : V) (u1 u2 : Value) (d1 d2 : D) (k : T → Prop), Inv X pins σ H s → Same F H → Vw F H v1 d1 → Vw F H v2 d2 → RelV v1 u1 → RelV v2 u2 → g d1 d2 k →
    wpAny (model X.prog X.w) X.A (f u1 u2) (EP X pins σ (NewV F H k)) X.xe s
def rD (g : D → D → (T → Prop) → Prop) : R2 := fun x y H Q => ∃ F d1 d2 k, Same F H ∧ Vw F H x d1 ∧ Vw F H y d2 ∧ g d1 d2 k ∧ ∀ v H', NewV F H k v H' → Q v H'
theorem DOp.r {f : Value → Value → Sem Value} {g : D → D → (T → Prop) → Prop} (h : DOp X f g) : OpR X f (rD g) := fun pins s σ H x y v u Q I rx ry ⟨F, d1, d2, k, sF, h1, h2, hg, q⟩ =>
  thn (h pins s σ H F x y v u d1 d2 k I sF h1 h2 rx ry hg) (EP.imp q)
/-- two arguments, then an operation by values -/
def W2 {Tq : List (Addr × Str)} (Z : Zb Tq) (X : Cx) (a b : Expr) (env : Env) (k : D → D → Env → Prop) : Prop := WA Z X a env fun a1 e1 => WA Z X b e1 fun a2 e2 => View a1 e2 fun d1 => View a2 e2 fun d2 => k d1 d2 e2
theorem w2_run {g : D → D → (T → Prop) → Prop} {σ : L2.St} {H F : Hp} {O : List Addr} (b0 : Bas Z F H O) (o : OwE F H O σ env) (h : W2 Z X a b env fun d1 d2 e2 => g d1 d2 fun t => P (.t t) e2) :
    tOp (rD g) (tA Z X a) (tA Z X b) σ H (Post Z σ H F O P) := by
  refine ⟨env, F, O, _, b0, o, h, fun v1 H1 ⟨F1, O1, a1, env1, b1, o1, st1, fr1, h1⟩ => ?_⟩
  refine ⟨env1, F1, O1, _, b1, o1, h1, fun v2 H2 ⟨F2, O2, a2, env2, b2, o2, st2, fr2, h2⟩ => ?_⟩
  obtain ⟨d1, w1, h3⟩ := View.vw h2 o2 (st1.mono fr2.fz)
  obtain ⟨d2, w2, h4⟩ := View.vw h3 o2 st2
  exact ⟨F2, d1, d2, _, b2.sub, w1, w2, h4, fun v H' n => (n.post b2 o2 fun t q => q).from (fr1.trans fr2)⟩
theorem w_bin {op : Operator} {g : D → D → (T → Prop) → Prop} (ho : DOp X (binaryOp op) g) (h : W2 Z X a b env fun d1 d2 e2 => g d1 d2 fun t => P (.t t) e2) : WE Z X (.BinOp a op b pos) env P :=
  we_of (pe_op ho.r pe_A pe_A) fun σ H F O b0 o => w2_run b0 o h
theorem w_cmp {op : CmpOp} {g : D → D → (T → Prop) → Prop} (ho : DOp X (compareOp op) g) (h : W2 Z X a b env fun d1 d2 e2 => g d1 d2 fun t => P (.t t) e2) (hm : behindInMarks op b = false := by first | exact nomark _ | rfl) :
    WE Z X (.Compare a [op] [b] pos) env P := we_of (pe_cmpR ho.r pe_A pe_A hm) fun σ H F O b0 o => w2_run b0 o h
theorem post_bool {σ : L2.St} {H F0 H0 : Hp} {O0 : List Addr} {K : Bool → Env → Prop} {v : V} (h : Post Z σ H0 F0 O0 (fun r e1 => ∃ k, r = .t (.va (.bool k)) ∧ K k e1) v H) : ∃ k F O env, v = .bl k ∧ Bas Z F H O ∧ OwE F H O σ env ∧ Frm Tq H0 F0 O0 H F O ∧ K k env := by
  obtain ⟨F1, O1, r, env1, b1, st, fr1, k, e1, h1⟩ := h
  subst e1
  obtain ⟨O1', O2, rfl, o1, ow⟩ := st
  cases ow with
  | va r =>
    cases r with
    | bl k =>
      rw [List.append_nil] at b1 fr1
      exact ⟨k, F1, O1', env1, rfl, b1, o1, fr1, h1⟩
theorem wt_cmp {op : CmpOp} {g : D → D → (T → Prop) → Prop} {P : Bool → Env → Prop} (ho : DOp X (compareOp op) g) (h : W2 Z X a b env fun d1 d2 e2 => g d1 d2 fun t => ∃ k, t = .va (.bool k) ∧ P k e2) (hm : behindInMarks op b = false := by first | exact nomark _ | rfl) :
    WT Z X (.Compare a [op] [b] pos) env P := wt_of (pt_cmpR ho.r pe_A pe_A hm) fun σ H F O b0 o => by
  refine ⟨env, F, O, _, b0, o, h, fun v1 H1 ⟨F1, O1, a1, env1, b1, o1, st1, fr1, h1⟩ => ?_⟩
  refine ⟨env1, F1, O1, _, b1, o1, h1, fun v2 H2 ⟨F2, O2, a2, env2, b2, o2, st2, fr2, h2⟩ => ?_⟩
  obtain ⟨d1, w1, h3⟩ := View.vw h2 o2 (st1.mono fr2.fz)
  obtain ⟨d2, w2, h4⟩ := View.vw h3 o2 st2
  refine ⟨F2, d1, d2, _, b2.sub, w1, w2, h4, fun v H' n => ?_⟩
  obtain ⟨k, F3, O3, env3, rfl, b3, o3, fr3, p⟩ := post_bool (K := P) (n.post b2 o2 (P := fun r e1 => ∃ k, r = .t (.va (.bool k)) ∧ P k e1) fun t ⟨k, e, q⟩ => ⟨k, by rw [e], q⟩)
  exact ⟨k, rfl, F3, O3, env3, b3, o3, (fr1.trans fr2).trans fr3, p⟩

/-! #### the operations -/
def intD (C : Int → Int → Prop) (f : Int → Int → Int) (d1 d2 : D) (k : T → Prop) : Prop := match d1, d2 with
  | .int i, .int j => C i j ∧ k (.va (.int (f i j)))
  | _, _ => False
theorem dop_int {f : Value → Value → Sem Value} {C : Int → Int → Prop} {g : Int → Int → Int} (h : OpR X f (rI C fun i j => .int (g i j))) : DOp X f (intD C g) := by
  intro pins s σ H F v1 v2 u1 u2 d1 d2 k I sF w1 w2 r1 r2 hg
  cases d1 with
  | int i =>
    cases d2 with
    | int j =>
      cases w1.int
      cases w2.int
      exact h pins s σ H _ _ u1 u2 _ I r1 r2 ⟨i, j, rfl, rfl, hg.1, NewV.val sF (.int _) hg.2⟩
    | _ => exact hg.elim
  | _ => exact hg.elim
def subD : D → D → (T → Prop) → Prop := fun d1 d2 k => match d1, d2 with
  | .int i, .int j => k (.va (.int (i - j)))
  | _, _ => False
theorem dop_sub : DOp X (binaryOp .Sub) subD := by
  intro pins s σ H F v1 v2 u1 u2 d1 d2 k I sF w1 w2 r1 r2 hg
  cases d1 with
  | int i =>
    cases d2 with
    | int j =>
      cases w1.int
      cases w2.int
      exact op_sub pins s σ H _ _ u1 u2 _ I r1 r2 ⟨i, j, rfl, rfl, NewV.val sF (.int _) hg⟩
    | _ => exact hg.elim
  | _ => exact hg.elim
def addD : D → D → (T → Prop) → Prop := fun d1 d2 k => match d1, d2 with
  | .int i, .int j => k (.va (.int (i + j)))
  | .int i, .bool j => k (.va (.int (i + b2i j)))
  | .str x, .str y => x.length + y.length ≤ sizeLine ∧ k (.va (.str (x ++ y)))
  | .tuple xs, .tuple ys => xs.length + ys.length ≤ sizeLine ∧ k (.va (.tuple (xs ++ ys)))
  | .list xs, .list ys => xs.length + ys.length ≤ sizeLine ∧ ∀ p, k (.lst p (xs ++ ys))
  | _, _ => False
theorem dop_add : DOp X (binaryOp .Add) addD := by
  intro pins s σ H F v1 v2 u1 u2 d1 d2 k I sF w1 w2 r1 r2 hg
  cases d1 with
  | int i =>
    cases d2 with
    | int j =>
      cases w1.int
      cases w2.int
      exact op_add pins s σ H _ _ u1 u2 _ I r1 r2 ⟨i, j, rfl, rfl, NewV.val sF (.int _) hg⟩
    | bool j =>
      cases w1.int
      cases w2.bl
      exact op_add_ib pins s σ H _ _ u1 u2 _ I r1 r2 ⟨i, j, rfl, rfl, NewV.val sF (.int _) hg⟩
    | _ => exact hg.elim
  | str i =>
    cases d2 with
    | str j =>
      cases w1.str
      cases w2.str
      exact op_add_str pins s σ H _ _ u1 u2 _ I r1 r2 ⟨i, j, rfl, rfl, hg.1, NewV.val sF (.str _) hg.2⟩
    | _ => exact hg.elim
  | tuple xs =>
    cases d2 with
    | tuple ys =>
      obtain ⟨a, vs, rfl, h1, q1⟩ := w1.tup
      obtain ⟨b, us, rfl, h2, q2⟩ := w2.tup
      refine op_catA pins s σ H _ _ u1 u2 _ I r1 r2 ⟨a, b, vs, us, rfl, rfl, SqT.of (sF _ _ h1), SqT.of (sF _ _ h2), by rw [q1.len, q2.len]; exact hg.1, fun e => ?_, fun _ e => ?_, fun _ _ p hp => ?_⟩
      · subst e
        cases q1
        exact NewV.val sF (.tup h2 q2) hg.2
      · subst e
        cases q2
        refine NewV.val sF (.tup h1 ?_) hg.2
        rw [List.append_nil]
        exact q1
      · exact NewV.tup sF (q1.app q2) hp hg.2
    | _ => exact hg.elim
  | list xs =>
    cases d2 with
    | list ys =>
      obtain ⟨a, vs, rfl, h1, q1⟩ := w1.lst' sF
      obtain ⟨b, us, rfl, h2, q2⟩ := w2.lst' sF
      exact op_cat pins s σ H _ _ u1 u2 _ I r1 r2 ⟨a, b, vs, us, rfl, rfl, h1, h2, by rw [q1.len, q2.len]; exact hg.1, fun p hp => NewV.lst sF (q1.app q2) hp (hg.2 p)⟩
    | _ => exact hg.elim
  | _ => exact hg.elim
/-- * : one factor below 2^64, or both small enough -/
def CMulQ (i j : Int) : Prop := CMul i j ∨ CMulW i j
theorem CMulQ.ok {i j : Int} (h : CMulQ i j) : IntMulOk i j := h.elim CMul.ok CMulW.ok
theorem cmul_l {i j : Int} (h1 : -18446744073709551616 < i) (h2 : i < 18446744073709551616) : CMulQ i j := .inl (.inl ⟨h1, h2⟩)
theorem cmul_r {i j : Int} (h1 : -18446744073709551616 < j) (h2 : j < 18446744073709551616) : CMulQ i j := .inl (.inr ⟨h1, h2⟩)
def mulD : D → D → (T → Prop) → Prop := fun d1 d2 k => match d1, d2 with
  | .int i, .int j => CMulQ i j ∧ k (.va (.int (i * j)))
  | .list xs, .int n => (-(2 ^ 63) ≤ n ∧ n < 2 ^ 63 ∧ xs.length * n.toNat ≤ sizeLine) ∧ ∀ p, k (.lst p (List.replicate n.toNat xs).flatten)
  | _, _ => False
theorem dop_mul : DOp X (binaryOp .Mult) mulD := by
  intro pins s σ H F v1 v2 u1 u2 d1 d2 k I sF w1 w2 r1 r2 hg
  cases d1 with
  | int i =>
    cases d2 with
    | int j =>
      cases w1.int
      cases w2.int
      exact (opI (C := CMulQ) (g := fun i j => i * j) fun _ _ _ _ _ _ _ hc q => mul_int q hc.ok) pins s σ H _ _ u1 u2 _ I r1 r2 ⟨i, j, rfl, rfl, hg.1, NewV.val sF (.int _) hg.2⟩
    | _ => exact hg.elim
  | list xs =>
    cases d2 with
    | int n =>
      cases w2.int
      obtain ⟨a, vs, rfl, h1, q1⟩ := w1.lst' sF
      exact op_rep pins s σ H _ _ u1 u2 _ I r1 r2 ⟨a, n, vs, rfl, rfl, h1, hg.1.1, hg.1.2.1, by rw [q1.len]; exact hg.1.2.2, fun p hp => NewV.lst sF (q1.rep _) hp (hg.2 p)⟩
    | _ => exact hg.elim
  | _ => exact hg.elim
def CPowQ (i j : Int) : Prop := CPow i j ∨ (0 ≤ j ∧ (Builtin.Int.intBits i : Int) * j ≤ 2 ^ 27)
theorem dop_pow : DOp X (binaryOp .Pow) (intD CPowQ fun i j => i ^ j.toNat) := dop_int (opI fun i j _ _ _ _ _ hc q => hc.elim (fun h => pow_int_small h.1 h.2.1 h.2.2 q) fun h => pow_int h.1 h.2 q)
theorem dop_mod : DOp X (binaryOp .Mod) (intD (fun _ j => 0 < j) fun i j => i % j) := dop_int op_mod
def CDivQ (_ j : Int) : Prop := 0 < j ∧ j < 18446744073709551616
theorem cdivq {i j : Int} (h : CDivQ i j) : CDivW i j := wide_div (b := 64) h.1 (by have := h.1; have := h.2; omega) (by decide) (by decide)
theorem dop_fdiv : DOp X (binaryOp .FloorDiv) (intD CDivQ fun i j => i / j) := dop_int (opI fun i j _ _ _ _ _ hc q => by
  have h1 : (0 : Int) < j := hc.1
  exact floordiv_int (by omega) (by rw [Int.fdiv_eq_ediv_of_nonneg i (by omega)]; exact q) (.inl (PyProof.noPylong_of_log2 (cdivq hc).2)))

/-! #### comparisons -/
def cmpI (f : Int → Int → Bool) : D → D → (T → Prop) → Prop := fun d1 d2 k => match d1, d2 with
  | .int i, .int j => k (.va (.bool (f i j)))
  | _, _ => False
theorem dop_cmpI {op : Value → Value → Sem Value} {f : Int → Int → Bool} (h : OpR X op (rI0 fun i j => .bl (f i j))) : DOp X op (cmpI f) := by
  intro pins s σ H F v1 v2 u1 u2 d1 d2 k I sF w1 w2 r1 r2 hg
  cases d1 with
  | int i =>
    cases d2 with
    | int j =>
      cases w1.int
      cases w2.int
      exact h pins s σ H _ _ u1 u2 _ I r1 r2 ⟨i, j, rfl, rfl, NewV.val sF (.bl _) hg⟩
    | _ => exact hg.elim
  | _ => exact hg.elim
theorem dop_lt : DOp X (compareOp .Lt) (cmpI fun i j => decide (i < j)) := dop_cmpI op_lt
theorem dop_le : DOp X (compareOp .LtE) (cmpI fun i j => decide (i ≤ j)) := dop_cmpI op_le
theorem dop_gt : DOp X (compareOp .Gt) (cmpI fun i j => decide (j < i)) := dop_cmpI op_gt
theorem dop_ge : DOp X (compareOp .GtE) (cmpI fun i j => decide (j ≤ i)) := dop_cmpI op_ge
/-- == of data without dicts -/
def eqD : D → D → (T → Prop) → Prop := fun d1 d2 k => match d1, d2 with
  | .int i, .int j => k (.va (.bool (decide (i = j))))
  | .str i, .str j => k (.va (.bool (decide (i = j))))
  | d1, d2 => SeqAt.shaped d1 = true ∧ SeqAt.shaped d2 = true ∧ k (.va (.bool (PyData.eqv d1 d2)))
def neD : D → D → (T → Prop) → Prop := fun d1 d2 k => match d1, d2 with
  | .int i, .int j => k (.va (.bool (!decide (i = j))))
  | .str i, .str j => k (.va (.bool (!decide (i = j))))
  | d1, d2 => SeqAt.shaped d1 = true ∧ SeqAt.shaped d2 = true ∧ k (.va (.bool (!PyData.eqv d1 d2)))
mutual
theorem Rp.reads {pins : List (Addr × Obj)} {σ : L2.St} {H : Hp} {s : Shared} (I : Inv X pins σ H s) : ∀ {v : V} {d : D} {u : Value}, Rp H v d → RelV v u → d.hasDict = false → ∃ as, Reads s.heap u d as
  | _, _, _, .non, r, _ => by cases r; exact ⟨_, .none⟩
  | _, _, _, .bl b, r, _ => by cases r; exact ⟨_, .bool b⟩
  | _, _, _, .int i, r, _ => by obtain ⟨t, rfl⟩ := r; exact ⟨_, .int i t⟩
  | _, _, _, .str i, r, _ => by obtain ⟨t, rfl⟩ := r; exact ⟨_, .str i t⟩
  | _, _, _, .lst h q, r, hd => by
    cases r
    obtain ⟨its, rv, ⟨o, n, ho, hc, _, hs⟩, _⟩ := I.list (SqL.of h)
    obtain ⟨as, hr⟩ := RpA.reads I q rv (by simpa [PyData.hasDict] using hd)
    exact ⟨_, .list ho hc hs hr⟩
  | _, _, _, .tup h q, r, hd => by
    cases r
    obtain ⟨its, rv, ⟨o, ho, hc, n, hs⟩, _⟩ := I.tuple (SqT.of h)
    obtain ⟨as, hr⟩ := RpA.reads I q rv (by simpa [PyData.hasDict] using hd)
    exact ⟨_, .tuple ho hc hs hr⟩
  | _, _, _, .dic h q, r, hd => by simp [PyData.hasDict] at hd
theorem RpA.reads {pins : List (Addr × Obj)} {σ : L2.St} {H : Hp} {s : Shared} (I : Inv X pins σ H s) : ∀ {vs : List V} {ds : List D} {us : List Value}, RpA H vs ds → Vals vs us → PyData.hasDictAll ds = false → ∃ as, ReadsAll s.heap us ds as
  | _, _, _, .nil, r, _ => by cases r; exact ⟨_, .nil⟩
  | _, _, _, .cons h q, r, hd => by
    cases r with
    | cons r1 r2 =>
      rw [PyData.hasDictAll, Bool.or_eq_false_iff] at hd
      obtain ⟨as, q1⟩ := Rp.reads I h r1 hd.1
      obtain ⟨bs, q2⟩ := RpA.reads I q r2 hd.2
      exact ⟨_, .cons q1 q2⟩
end
theorem shaped_noDict {d : D} (h : SeqAt.shaped d = true) : d.hasDict = false := by
  unfold SeqAt.shaped at h
  rw [Bool.and_eq_true] at h
  exact PyData.hasDict_of_canLay d h.1
theorem eqD_gen {F : Hp} (hu : X.A.units + 64 < cLine) {pins : List (Addr × Obj)} {s : Shared} {σ : L2.St} {H : Hp} {v1 v2 : V} {u1 u2 : Value} {d1 d2 : D} {k : T → Prop} (I : Inv X pins σ H s) (sF : Same F H) (w1 : Vw F H v1 d1) (w2 : Vw F H v2 d2)
    (r1 : RelV v1 u1) (r2 : RelV v2 u2) (h1 : SeqAt.shaped d1 = true) (h2 : SeqAt.shaped d2 = true) (q : k (.va (.bool (PyData.eqv d1 d2)))) : wpAny (model X.prog X.w) X.A (compareOp .Eq u1 u2) (EP X pins σ (NewV F H k)) X.xe s := by
  obtain ⟨as, q1⟩ := (w1.rp sF).reads I r1 (shaped_noDict h1)
  obtain ⟨bs, q2⟩ := (w2.rp sF).reads I r2 (shaped_noDict h2)
  exact SeqAt.compareEq_shaped q1 q2 h1 h2 hu ⟨.bl _, H, I, rfl, NewV.val sF (.bl _) q⟩
theorem neD_gen {F : Hp} (hu : X.A.units + 64 < cLine) {pins : List (Addr × Obj)} {s : Shared} {σ : L2.St} {H : Hp} {v1 v2 : V} {u1 u2 : Value} {d1 d2 : D} {k : T → Prop} (I : Inv X pins σ H s) (sF : Same F H) (w1 : Vw F H v1 d1) (w2 : Vw F H v2 d2)
    (r1 : RelV v1 u1) (r2 : RelV v2 u2) (h1 : SeqAt.shaped d1 = true) (h2 : SeqAt.shaped d2 = true) (q : k (.va (.bool (!PyData.eqv d1 d2)))) : wpAny (model X.prog X.w) X.A (compareOp .NotEq u1 u2) (EP X pins σ (NewV F H k)) X.xe s := by
  obtain ⟨as, q1⟩ := (w1.rp sF).reads I r1 (shaped_noDict h1)
  obtain ⟨bs, q2⟩ := (w2.rp sF).reads I r2 (shaped_noDict h2)
  exact SeqAt.compareNe_shaped q1 q2 h1 h2 hu ⟨.bl _, H, I, rfl, NewV.val sF (.bl _) q⟩
theorem scal_ii {i j : Int} : scal (.int i) (.int j) = true := rfl
theorem scal_ss {i j : Str} : scal (.str i) (.str j) = true := rfl
theorem dop_eq (hu : X.A.units + 64 < cLine) : DOp X (compareOp .Eq) eqD := by
  intro pins s σ H F v1 v2 u1 u2 d1 d2 k I sF w1 w2 r1 r2 hg
  unfold eqD at hg
  split at hg
  · cases w1.int
    cases w2.int
    refine op_eq pins s σ H _ _ u1 u2 _ I r1 r2 ⟨rfl, NewV.val sF (.bl _) ?_⟩
    rw [dec_int, ← Bool.beq_eq_decide_eq] at *
    exact hg
  · cases w1.str
    cases w2.str
    refine op_eq pins s σ H _ _ u1 u2 _ I r1 r2 ⟨rfl, NewV.val sF (.bl _) ?_⟩
    rw [dec_str, ← Bool.beq_eq_decide_eq] at *
    exact hg
  · exact eqD_gen hu I sF w1 w2 r1 r2 hg.1 hg.2.1 hg.2.2
theorem dop_ne (hu : X.A.units + 64 < cLine) : DOp X (compareOp .NotEq) neD := by
  intro pins s σ H F v1 v2 u1 u2 d1 d2 k I sF w1 w2 r1 r2 hg
  unfold neD at hg
  split at hg
  · cases w1.int
    cases w2.int
    refine op_ne pins s σ H _ _ u1 u2 _ I r1 r2 ⟨rfl, NewV.val sF (.bl _) ?_⟩
    rw [dec_int, ← Bool.beq_eq_decide_eq] at *
    exact hg
  · cases w1.str
    cases w2.str
    refine op_ne pins s σ H _ _ u1 u2 _ I r1 r2 ⟨rfl, NewV.val sF (.bl _) ?_⟩
    rw [dec_str, ← Bool.beq_eq_decide_eq] at *
    exact hg
  · exact neD_gen hu I sF w1 w2 r1 r2 hg.1 hg.2.1 hg.2.2
/-- is None, is not None -/
def isN (neg : Bool) : D → D → (T → Prop) → Prop := fun d1 d2 k => match d2 with
  | .none => k (.va (.bool (match d1 with | .none => !neg | _ => neg)))
  | _ => False
theorem vnon {F H : Hp} {v : V} {d : D} (w : Vw F H v d) : decide (v = V.non) = (match d with | .none => true | _ => false) := by
  cases w with
  | pure r => cases r <;> rfl
  | lst h r => rfl
  | dic h r => rfl
theorem dop_isN : DOp X (compareOp .Is) (isN false) := by
  intro pins s σ H F v1 v2 u1 u2 d1 d2 k I sF w1 w2 r1 r2 hg
  cases d2 with
  | none =>
    cases w2.non
    refine op_isN pins s σ H _ _ u1 u2 _ I r1 r2 ⟨rfl, NewV.val sF (.bl _) ?_⟩
    rw [vnon w1]
    cases d1 <;> exact hg
  | _ => exact hg.elim
theorem dop_notN : DOp X (compareOp .IsNot) (isN true) := by
  intro pins s σ H F v1 v2 u1 u2 d1 d2 k I sF w1 w2 r1 r2 hg
  cases d2 with
  | none =>
    cases w2.non
    refine op_notN pins s σ H _ _ u1 u2 _ I r1 r2 ⟨rfl, NewV.val sF (.bl _) ?_⟩
    rw [vnon w1]
    cases d1 <;> exact hg
  | _ => exact hg.elim
/-- -a -/
def W1 {Tq : List (Addr × Str)} (Z : Zb Tq) (X : Cx) (a : Expr) (env : Env) (k : D → Env → Prop) : Prop := WA Z X a env fun a1 e1 => View a1 e1 fun d1 => k d1 e1
def negD (d : D) (k : T → Prop) : Prop := match d with
  | .int i => k (.va (.int (-i)))
  | _ => False
theorem w_neg (h : W1 Z X a env fun d e => negD d fun t => P (.t t) e) : WE Z X (.UnaryOp .USub a pos) env P :=
  we_of (pe_un un_neg pe_A) fun σ H F O b0 o => ⟨env, F, O, _, b0, o, h, fun v1 H1 ⟨F1, O1, a1, env1, b1, o1, st1, fr1, h1⟩ => by
    obtain ⟨d1, w1, h3⟩ := View.vw h1 o1 st1
    cases d1 with
    | int i =>
      cases w1.int
      exact ⟨i, rfl, (post_val b1 o1 (.int _) h3).from fr1⟩
    | _ => exact h3.elim⟩

/-! ### tests: and, or, not; conditional expressions -/
variable {PT : Bool → Env → Prop} {rest : List Expr}
theorem ww_and1 (h : WT Z X a env PT) : WW Z X (.BoolOp .And [a] pos) env PT := fun wh pins s σ H F O I b0 o => (pw_and1 (pt_T (e := a))).run wh pins s σ H _ I ⟨env, F, O, _, b0, o, h, fun _ _ q => q⟩
theorem ww_or1 (h : WT Z X a env PT) : WW Z X (.BoolOp .Or [a] pos) env PT := fun wh pins s σ H F O I b0 o => (pw_or1 (pt_T (e := a))).run wh pins s σ H _ I ⟨env, F, O, _, b0, o, h, fun _ _ q => q⟩
theorem pw_W {e : Expr} : PW X e (fun σ H Q => ∃ env F O P, Bas Z F H O ∧ OwE F H O σ env ∧ WW Z X e env P ∧ ∀ v H', PostT Z σ H F O P v H' → Q v H') :=
  ⟨fun wh pins s σ H Q I ⟨env, F, O, P, b, o, w, q⟩ => thn (w wh pins s σ H F O I b o) fun _ _ ⟨H', I', p⟩ => ⟨H', I', q _ _ p⟩⟩
theorem ww_and (h : WT Z X a env fun k e1 => (k = true → WW Z X (.BoolOp .And (b :: rest) pos) e1 PT) ∧ (k = false → PT false e1)) : WW Z X (.BoolOp .And (a :: b :: rest) pos) env PT := fun wh pins s σ H F O I b0 o =>
  (pw_and (pt_T (e := a)) pw_W).run wh pins s σ H _ I ⟨env, F, O, _, b0, o, h, fun k H1 ⟨F1, O1, env1, b1, o1, fr1, h1⟩ => by
    cases k with
    | true => exact iteT ⟨env1, F1, O1, _, b1, o1, h1.1 rfl, fun _ _ q => q.from fr1⟩
    | false => exact iteF ⟨F1, O1, env1, b1, o1, fr1, h1.2 rfl⟩⟩
theorem ww_or (h : WT Z X a env fun k e1 => (k = false → WW Z X (.BoolOp .Or (b :: rest) pos) e1 PT) ∧ (k = true → PT true e1)) : WW Z X (.BoolOp .Or (a :: b :: rest) pos) env PT := fun wh pins s σ H F O I b0 o =>
  (pw_or (pt_T (e := a)) pw_W).run wh pins s σ H _ I ⟨env, F, O, _, b0, o, h, fun k H1 ⟨F1, O1, env1, b1, o1, fr1, h1⟩ => by
    cases k with
    | false => exact iteF ⟨env1, F1, O1, _, b1, o1, h1.1 rfl, fun _ _ q => q.from fr1⟩
    | true => exact iteT ⟨F1, O1, env1, b1, o1, fr1, h1.2 rfl⟩⟩
theorem wt_not (h : WT Z X a env fun k e1 => PT (!k) e1) : WT Z X (.UnaryOp .Not a pos) env PT := wt_of (pt_not (pt_T (e := a))) fun σ H F O b0 o => ⟨env, F, O, _, b0, o, h, fun _ _ q => q⟩
/-- a value that is a bool, as a test -/
theorem wt_val (h : WE Z X e env fun r e1 => ∃ k, r = .t (.va (.bool k)) ∧ PT k e1) (he : ∀ whole, isTrue e X.env whole = (do let v ← whole; standAt e.pos; holding [v] (truthy v)) := by intro _; rfl) : WT Z X e env PT :=
  wt_of (pt_val (pe_E (e := e)) he) fun σ H F O b0 o => ⟨env, F, O, _, b0, o, h, fun v H1 ⟨F1, O1, r, env1, b1, st, fr1, k, e1, h1⟩ => by
    subst e1
    obtain ⟨O1', O2, rfl, o1, ow⟩ := st
    cases ow with
    | va r =>
      cases r with
      | bl k =>
        rw [List.append_nil] at b1 fr1
        exact ⟨k, rfl, F1, O1', env1, b1, o1, fr1, h1⟩⟩
theorem w_ifExp (h : WT Z X c env fun k e1 => (k = true → WE Z X a e1 P) ∧ (k = false → WE Z X b e1 P)) : WE Z X (.IfExp c a b pos) env P :=
  we_of (pe_ifExp (pt_T (e := c)) (pe_E (e := a)) (pe_E (e := b))) fun σ H F O b0 o => ⟨env, F, O, _, b0, o, h, fun k H1 ⟨F1, O1, env1, b1, o1, fr1, h1⟩ => by
    cases k with
    | true => exact iteT ⟨env1, F1, O1, _, b1, o1, h1.1 rfl, fun _ _ q => q.from fr1⟩
    | false => exact iteF ⟨env1, F1, O1, _, b1, o1, h1.2 rfl, fun _ _ q => q.from fr1⟩⟩
/-- and, or, not of bools as values -/
theorem w_one {op : _} (h : WE Z X a env P) : WE Z X (.BoolOp op [a] pos) env P := we_of (pe_one (pe_E (e := a))) fun σ H F O b0 o => ⟨env, F, O, _, b0, o, h, fun _ _ q => q⟩
theorem w_and (h : WE Z X a env fun r e1 => ∃ k, r = .t (.va (.bool k)) ∧ (k = true → WE Z X (.BoolOp .And (b :: rest) pos) e1 P) ∧ (k = false → P (.t (.va (.bool false))) e1)) : WE Z X (.BoolOp .And (a :: b :: rest) pos) env P :=
  we_of (pe_and (pe_E (e := a)) (pe_E (e := .BoolOp .And (b :: rest) pos))) fun σ H F O b0 o => ⟨env, F, O, _, b0, o, h, fun v H1 q => by
    obtain ⟨k, F1, O1, env1, rfl, b1, o1, fr1, h1⟩ := post_bool q
    refine ⟨k, rfl, ?_⟩
    cases k with
    | true => exact iteT ⟨env1, F1, O1, _, b1, o1, h1.1 rfl, fun _ _ q => q.from fr1⟩
    | false => exact iteF ((post_val b1 o1 (.bl _) (h1.2 rfl)).from fr1)⟩
theorem w_or (h : WE Z X a env fun r e1 => ∃ k, r = .t (.va (.bool k)) ∧ (k = false → WE Z X (.BoolOp .Or (b :: rest) pos) e1 P) ∧ (k = true → P (.t (.va (.bool true))) e1)) : WE Z X (.BoolOp .Or (a :: b :: rest) pos) env P :=
  we_of (pe_or (pe_E (e := a)) (pe_E (e := .BoolOp .Or (b :: rest) pos))) fun σ H F O b0 o => ⟨env, F, O, _, b0, o, h, fun v H1 q => by
    obtain ⟨k, F1, O1, env1, rfl, b1, o1, fr1, h1⟩ := post_bool q
    refine ⟨k, rfl, ?_⟩
    cases k with
    | false => exact iteF ⟨env1, F1, O1, _, b1, o1, h1.1 rfl, fun _ _ q => q.from fr1⟩
    | true => exact iteT ((post_val b1 o1 (.bl _) (h1.2 rfl)).from fr1)⟩
theorem w_not (h : WE Z X a env fun r e1 => ∃ k, r = .t (.va (.bool k)) ∧ P (.t (.va (.bool (!k)))) e1) : WE Z X (.UnaryOp .Not a pos) env P :=
  we_of (pe_not (pe_E (e := a))) fun σ H F O b0 o => ⟨env, F, O, _, b0, o, h, fun v H1 q => by
    obtain ⟨k, F1, O1, env1, rfl, b1, o1, fr1, h1⟩ := post_bool q
    exact ⟨k, rfl, (post_val b1 o1 (.bl _) h1).from fr1⟩⟩

end
end QL

/-! QD: statements; defs. -/
namespace QL
open PySem PySem.Spec PyProof.Rows L2

/-! ### slots stored -/
theorem OwE.set {F H : Hp} : ∀ {O : List Addr} {σ : L2.St} {e : Env} {O2 : List Addr} {v : V} {t : T} (i : Nat), OwE F H O σ e → Ow F H O2 v t → i < e.length →
    ∃ O' Od, OwE F H O' (σ.set i (some v)) (e.set i (some t)) ∧ (O2 ++ O).Perm (O' ++ Od)
  | _, _, _, _, _, _, _, .nil, _, h => nomatch h
  | _, _, _, O2, v, t, 0, .un (O := O) r, w, _ => ⟨O2 ++ O, [], .so w r, by rw [List.append_nil]⟩
  | _, _, _, O2, v, t, i + 1, .un (O := O) r, w, h => by
    obtain ⟨O', Od, h1, h2⟩ := OwE.set i r w (Nat.lt_of_succ_lt_succ h)
    exact ⟨O', Od, .un h1, h2⟩
  | _, _, _, O2, v, t, 0, .so (O1 := Oa) (O2 := Ob) _ r, w, _ => ⟨O2 ++ Ob, Oa, .so w r, by rw [List.append_assoc]; exact (List.perm_append_comm (l₁ := Oa) (l₂ := Ob)).append_left O2⟩
  | _, _, _, O2, v, t, i + 1, .so (O1 := Oa) (O2 := Ob) q r, w, h => by
    obtain ⟨O', Od, h1, h2⟩ := OwE.set i r w (Nat.lt_of_succ_lt_succ h)
    refine ⟨Oa ++ O', Od, .so q h1, ?_⟩
    rw [List.append_assoc]
    refine List.Perm.trans ?_ (h2.append_left Oa)
    rw [← List.append_assoc, ← List.append_assoc]
    exact List.perm_append_comm.append_right Ob
theorem OwE.drop {F H : Hp} : ∀ {O : List Addr} {σ : L2.St} {e : Env} (i : Nat), OwE F H O σ e → ∃ O' Od, OwE F H O' σ (e.set i none) ∧ O.Perm (O' ++ Od)
  | _, _, _, _, .nil => ⟨[], [], .nil, List.Perm.refl _⟩
  | _, _, _, 0, .un (O := O) r => ⟨O, [], .un r, by rw [List.append_nil]⟩
  | _, _, _, i + 1, .un r => by
    obtain ⟨O', Od, h1, h2⟩ := OwE.drop i r
    exact ⟨O', Od, .un h1, h2⟩
  | _, _, _, 0, .so (O1 := Oa) (O2 := Ob) _ r => ⟨Ob, Oa, .un r, List.perm_append_comm⟩
  | _, _, _, i + 1, .so (O1 := Oa) (O2 := Ob) q r => by
    obtain ⟨O', Od, h1, h2⟩ := OwE.drop i r
    exact ⟨Oa ++ O', Od, .so q h1, by rw [List.append_assoc]; exact h2.append_left Oa⟩
theorem Bas.dropP {Tq : List (Addr × Str)} {Z : Zb Tq} {F H : Hp} {O O' Od : List Addr} (b : Bas Z F H O) (p : O.Perm (O' ++ Od)) : Bas Z F H O' ∧ Frm Tq H F O H F O' :=
  ⟨(b.perm p).left, (Frm.refl H F O).perm (fun _ => Iff.rfl) fun c hc => p.mem_iff.mpr (List.mem_append_left _ hc)⟩

/-! ### statements -/
inductive Out
  | nx (e : Env)
  | ret (t : T) (e : Env)
  | bk (e : Env)
  | ct (e : Env)
def endsOf {Tq : List (Addr × Str)} (Z : Zb Tq) (H0 F0 : Hp) (O0 : List Addr) (P : Out → Prop) : Ends where
  nx := fun σ H => ∃ F O env, Bas Z F H O ∧ OwE F H O σ env ∧ Frm Tq H0 F0 O0 H F O ∧ P (.nx env)
  rt := fun v H => ∃ F O1 O2 σ t env, Bas Z F H (O1 ++ O2) ∧ OwE F H O1 σ env ∧ Ow F H O2 v t ∧ Frm Tq H0 F0 O0 H F (O1 ++ O2) ∧ P (.ret t env)
  bk := fun σ H => ∃ F O env, Bas Z F H O ∧ OwE F H O σ env ∧ Frm Tq H0 F0 O0 H F O ∧ P (.bk env)
  ct := fun σ H => ∃ F O env, Bas Z F H O ∧ OwE F H O σ env ∧ Frm Tq H0 F0 O0 H F O ∧ P (.ct env)
def WS {Tq : List (Addr × Str)} (Z : Zb Tq) (X : Cx) (st : Stmt) (env : Env) (P : Out → Prop) : Prop :=
  ∀ (pins : List (Addr × Obj)) (s : Shared) (σ : L2.St) (H F : Hp) (O : List Addr), Inv X pins σ H s → Bas Z F H O → OwE F H O σ env →
    wpAny (model X.prog X.w) X.A (exec st X.env) (SP X pins (endsOf Z H F O P)) X.xe s
def WSs {Tq : List (Addr × Str)} (Z : Zb Tq) (X : Cx) (st : List Stmt) (env : Env) (P : Out → Prop) : Prop :=
  ∀ (pins : List (Addr × Obj)) (s : Shared) (σ : L2.St) (H F : Hp) (O : List Addr), Inv X pins σ H s → Bas Z F H O → OwE F H O σ env →
    wpAny (model X.prog X.w) X.A (execs st X.env) (SP X pins (endsOf Z H F O P)) X.xe s
/-- what is wanted, weaker -/
structure EndsLe (D D' : Ends) : Prop where
  nx : ∀ σ H, D.nx σ H → D'.nx σ H
  rt : ∀ v H, D.rt v H → D'.rt v H
  bk : ∀ σ H, D.bk σ H → D'.bk σ H
  ct : ∀ σ H, D.ct σ H → D'.ct σ H
theorem EndsLe.refl (D : Ends) : EndsLe D D := ⟨fun _ _ h => h, fun _ _ h => h, fun _ _ h => h, fun _ _ h => h⟩
theorem SP.le {X : Cx} {pins : List (Addr × Obj)} {D D' : Ends} (l : EndsLe D D') : ∀ f s', SP X pins D f s' → SP X pins D' f s'
  | .next, _, ⟨σ, H, I, q⟩ => ⟨σ, H, I, l.nx _ _ q⟩
  | .brk, _, ⟨σ, H, I, q⟩ => ⟨σ, H, I, l.bk _ _ q⟩
  | .cont, _, ⟨σ, H, I, q⟩ => ⟨σ, H, I, l.ct _ _ q⟩
  | .ret _, _, ⟨v, σ, H, I, r, q⟩ => ⟨v, σ, H, I, r, l.rt _ _ q⟩
theorem endsOf.from {Tq : List (Addr × Str)} {Z : Zb Tq} {H0 F0 H1 F1 : Hp} {O0 O1 : List Addr} {P P' : Out → Prop} (fr : Frm Tq H0 F0 O0 H1 F1 O1) (hp : ∀ o, P o → P' o) : EndsLe (endsOf Z H1 F1 O1 P) (endsOf Z H0 F0 O0 P') :=
  ⟨fun _ _ ⟨F, O, env, b, o, f, p⟩ => ⟨F, O, env, b, o, fr.trans f, hp _ p⟩, fun _ _ ⟨F, O, O2, σ, t, env, b, o, w, f, p⟩ => ⟨F, O, O2, σ, t, env, b, o, w, fr.trans f, hp _ p⟩,
    fun _ _ ⟨F, O, env, b, o, f, p⟩ => ⟨F, O, env, b, o, fr.trans f, hp _ p⟩, fun _ _ ⟨F, O, env, b, o, f, p⟩ => ⟨F, O, env, b, o, fr.trans f, hp _ p⟩⟩
def tS {Tq : List (Addr × Str)} (Z : Zb Tq) (X : Cx) (st : Stmt) : TS := fun D σ H => ∃ env F O P, Bas Z F H O ∧ OwE F H O σ env ∧ WS Z X st env P ∧ EndsLe (endsOf Z H F O P) D
def tSs {Tq : List (Addr × Str)} (Z : Zb Tq) (X : Cx) (st : List Stmt) : TS := fun D σ H => ∃ env F O P, Bas Z F H O ∧ OwE F H O σ env ∧ WSs Z X st env P ∧ EndsLe (endsOf Z H F O P) D
section
variable {Tq : List (Addr × Str)} {Z : Zb Tq} {X : Cx} {e a b c : Expr} {es : List Expr} {env : Env} {pos : Pos} {P : Out → Prop} {st : Stmt} {rest body els : List Stmt}
theorem ps_S : PS X st (tS Z X st) := ⟨fun pins s σ H D I ⟨env, F, O, P, b, o, w, l⟩ => thn (w pins s σ H F O I b o) (SP.le l)⟩
theorem pss_S : PSs X rest (tSs Z X rest) := ⟨fun pins s σ H D I ⟨env, F, O, P, b, o, w, l⟩ => thn (w pins s σ H F O I b o) (SP.le l)⟩
theorem ws_of {t : TS} (h : PS X st t) (w : ∀ σ H F O, Bas Z F H O → OwE F H O σ env → t (endsOf Z H F O P) σ H) : WS Z X st env P := fun pins s σ H F O I b o => h.run pins s σ H _ I (w σ H F O b o)
theorem WS.imp {P' : Out → Prop} (h : WS Z X st env P) (hp : ∀ o, P o → P' o) : WS Z X st env P' := fun pins s σ H F O I b o => thn (h pins s σ H F O I b o) (SP.le (endsOf.from (Frm.refl _ _ _) hp))
theorem WSs.imp {P' : Out → Prop} (h : WSs Z X rest env P) (hp : ∀ o, P o → P' o) : WSs Z X rest env P' := fun pins s σ H F O I b o => thn (h pins s σ H F O I b o) (SP.le (endsOf.from (Frm.refl _ _ _) hp))
theorem wss_nil (h : P (.nx env)) : WSs Z X [] env P := fun pins s σ H F O I b o => pss_nil.run pins s σ H _ I ⟨F, O, env, b, o, Frm.refl _ _ _, h⟩
/-- a statement, then the rest -/
def seqP {Tq : List (Addr × Str)} (Z : Zb Tq) (X : Cx) (rest : List Stmt) (P : Out → Prop) : Out → Prop
  | .nx e => WSs Z X rest e P
  | .ret t e => P (.ret t e)
  | .bk e => P (.bk e)
  | .ct e => P (.ct e)
theorem wss_cons (h : WS Z X st env (seqP Z X rest P)) : WSs Z X (st :: rest) env P := fun pins s σ H F O I b o =>
  (pss_cons (ps_S (Z := Z)) (pss_S (Z := Z))).run pins s σ H _ I ⟨env, F, O, _, b, o, h, ⟨fun σ' H' ⟨F', O', e', b', o', f', p⟩ => ⟨e', F', O', P, b', o', p, endsOf.from f' fun _ q => q⟩, fun _ _ q => q, fun _ _ q => q, fun _ _ q => q⟩⟩
theorem wss_one (h : WS Z X st env P) : WSs Z X [st] env P := fun pins s σ H F O I b o => (pss_one (ps_S (Z := Z))).run pins s σ H _ I ⟨env, F, O, _, b, o, h, EndsLe.refl _⟩
theorem ws_pass (h : P (.nx env)) : WS Z X (.Pass pos) env P := ws_of ps_pass fun σ H F O b o => ⟨F, O, env, b, o, Frm.refl _ _ _, h⟩
theorem ws_break (h : P (.bk env)) : WS Z X (.Break pos) env P := ws_of ps_break fun σ H F O b o => ⟨F, O, env, b, o, Frm.refl _ _ _, h⟩
theorem ws_continue (h : P (.ct env)) : WS Z X (.Continue pos) env P := ws_of ps_continue fun σ H F O b o => ⟨F, O, env, b, o, Frm.refl _ _ _, h⟩
theorem ws_expr (h : WE Z X e env fun _ e1 => P (.nx e1)) (hs : swapsWith e none pos.line X.env = pure false := by rfl) : WS Z X (.Expr e pos) env P := ws_of (ps_expr (pe_E (Z := Z)) hs) fun σ H F O b o =>
  ⟨env, F, O, _, b, o, h, fun v H1 ⟨F1, O1, r, e1, b1, st, fr, p⟩ => by
    cases r with
    | bor a i q => exact ⟨F1, O1, e1, b1, st.1, fr, p⟩
    | t t =>
      obtain ⟨O2, O3, rfl, o2, _⟩ := st
      exact ⟨F1, O2, e1, b1.left, o2, fr.perm (fun _ => Iff.rfl) fun c hc => List.mem_append_left _ hc, p⟩⟩
/-- what is handed back: a thing of its own; what a name alone holds goes away with it -/
def retR (r : R) (env : Env) (k : T → Env → Prop) : Prop := match r with
  | .t t => k t env
  | .bor a i [] => match env[i]? with
    | some (some t) => t.addr = some a ∧ k t (env.set i none)
    | _ => False
  | .bor a i p => match getP i p env with
    | some t => t.addr = some a ∧ match frzT t with
      | some d => k (.va d) (setP i p (.va d) env)
      | none => False
    | none => False
theorem OwE.takeI {F H : Hp} : ∀ {O : List Addr} {σ : L2.St} {e : Env} {i : Nat} {t : T}, OwE F H O σ e → e[i]? = some (some t) → ∃ w O1 O2, OwE F H O1 σ (e.set i none) ∧ Ow F H O2 w t ∧ O.Perm (O1 ++ O2)
  | _, _, _, _, _, .nil, h => nomatch h
  | _, _, _, 0, t, .un r, h => by cases h
  | _, _, _, i + 1, t, .un (O := O) r, h => by
    obtain ⟨w, O1, O2, h1, h2, h3⟩ := OwE.takeI (i := i) r h
    exact ⟨w, O1, O2, .un h1, h2, h3⟩
  | _, _, _, 0, t, .so (O1 := Oa) (O2 := Ob) q r, h => by
    cases h
    exact ⟨_, Ob, Oa, .un r, q, List.perm_append_comm⟩
  | _, _, _, i + 1, t, .so (O1 := Oa) (O2 := Ob) q r, h => by
    obtain ⟨w, O1, O2, h1, h2, h3⟩ := OwE.takeI (i := i) r h
    exact ⟨w, Oa ++ O1, O2, .so q h1, h2, by rw [List.append_assoc]; exact h3.append_left Oa⟩
theorem retR_ok {σ : L2.St} {F H : Hp} {O : List Addr} {v : V} {r : R} {k : T → Env → Prop} (b : Bas Z F H O) (s : StR F H O σ env v r) (h : retR r env k) :
    ∃ F' O1 O2 t e', Bas Z F' H (O1 ++ O2) ∧ OwE F' H O1 σ e' ∧ Ow F' H O2 v t ∧ Frm Tq H F O H F' (O1 ++ O2) ∧ k t e' := by
  cases r with
  | t t =>
    obtain ⟨O1, O2, rfl, o, w⟩ := s
    exact ⟨F, O1, O2, t, env, b, o, w, Frm.refl _ _ _, h⟩
  | bor a i p =>
    obtain ⟨o, rfl⟩ := s
    cases p with
    | nil =>
      unfold retR at h
      simp only at h
      split at h
      · rename_i t e
        obtain ⟨w, O1, O2, h1, h2, h3⟩ := o.takeI e
        have hw := h2.ref h.1
        subst hw
        exact ⟨F, O1, O2, t, _, b.perm h3, h1, h2, (Frm.refl H F O).perm (fun _ => Iff.rfl) fun c hc => h3.mem_iff.mpr hc, h.2⟩
      · exact h.elim
    | cons f p =>
      unfold retR at h
      simp only at h
      cases hg : getP i (f :: p) env with
      | none => rw [hg] at h; exact h.elim
      | some t =>
        rw [hg] at h
        obtain ⟨ha, h⟩ := h
        cases hf : frzT t with
        | none => rw [hf] at h; exact h.elim
        | some d =>
          rw [hf] at h
          obtain ⟨F', O', ds, e', b', o', r', fr, q⟩ := absorb_ok (k := fun ds e' => ∃ d, ds = [d] ∧ k (.va d) e') (.cons (a := .bor a i (f :: p)) rfl .nil) b o (by
            unfold absorb; simp only [hg, hf]; exact ⟨ha, d, rfl, h⟩)
          obtain ⟨d, rfl, q⟩ := q
          cases r' with
          | cons r1 _ => exact ⟨F', O', [], .va d, e', by rw [List.append_nil]; exact b', o', .va r1, by rw [List.append_nil]; exact fr, q⟩
theorem ws_ret (h : WE Z X e env fun r e1 => retR r e1 fun t e2 => P (.ret t e2)) : WS Z X (.Return (some e) pos) env P := ws_of (ps_ret (pe_E (Z := Z))) fun σ H F O b o =>
  ⟨env, F, O, _, b, o, h, fun v H1 ⟨F1, O1, r, e1, b1, st, fr, p⟩ => by
    obtain ⟨F2, O2, O3, t, e2, b2, o2, w2, fr2, q⟩ := retR_ok b1 st p
    exact ⟨F2, O2, O3, σ, t, e2, b2, o2, w2, fr.trans fr2, q⟩⟩
theorem ws_retN (h : P (.ret (.va .none) env)) : WS Z X (.Return none pos) env P := ws_of ps_retN fun σ H F O b o => ⟨F, O, [], σ, _, env, by rw [List.append_nil]; exact b, o, .va .non, by rw [List.append_nil]; exact Frm.refl _ _ _, h⟩
theorem ws_if (h : WT Z X c env fun k e1 => (k = true → WSs Z X body e1 P) ∧ (k = false → WSs Z X els e1 P)) : WS Z X (.If c body els pos) env P :=
  ws_of (ps_if (pt_T (Z := Z)) (pss_S (Z := Z)) (pss_S (Z := Z))) fun σ H F O b o => ⟨env, F, O, _, b, o, h, fun k H1 ⟨F1, O1, e1, b1, o1, fr, p⟩ => by
    cases k with
    | true => exact iteT ⟨e1, F1, O1, P, b1, o1, p.1 rfl, endsOf.from fr fun _ q => q⟩
    | false => exact iteF ⟨e1, F1, O1, P, b1, o1, p.2 rfl, endsOf.from fr fun _ q => q⟩⟩
/-- x = e: a thing of its own, or what is frozen from then on -/
def storeR (r : R) (i : Nat) (env : Env) (k : Env → Prop) : Prop := i < env.length ∧ match r with
  | .t t => k (env.set i (some t))
  | .bor a j p => absorb [.bor a j p] env fun ds e => match ds with
    | [d] => i < e.length ∧ k (e.set i (some (.va d)))
    | _ => False
theorem storeR_ok {σ : L2.St} {F H : Hp} {O : List Addr} {v : V} {r : R} {i : Nat} {k : Env → Prop} (b : Bas Z F H O) (s : StR F H O σ env v r) (h : storeR r i env k) :
    ∃ F' O' e', Bas Z F' H O' ∧ OwE F' H O' (σ.set i (some v)) e' ∧ Frm Tq H F O H F' O' ∧ k e' := by
  obtain ⟨hi, h⟩ := h
  cases r with
  | t t =>
    obtain ⟨O1, O2, rfl, o, w⟩ := s
    obtain ⟨O', Od, h1, h2⟩ := o.set i w hi
    obtain ⟨b', fr⟩ := b.dropP (List.perm_append_comm.trans h2)
    exact ⟨F, O', _, b', h1, fr, h⟩
  | bor a j p =>
    obtain ⟨o, rfl⟩ := s
    obtain ⟨F', O1, ds, e1, b1, o1, r1, fr1, q⟩ := absorb_ok (.cons (a := .bor a j p) rfl .nil) b o h
    cases r1 with
    | cons r1 r2 =>
      cases r2
      obtain ⟨hi', q⟩ := q
      obtain ⟨O', Od, h1, h2⟩ := o1.set i (.va r1) hi'
      obtain ⟨b', fr⟩ := b1.dropP h2
      exact ⟨F', O', _, b', h1, fr1.trans fr, q⟩
theorem ws_set (i : Nat) {x : Str} {pos' : Pos} (h : WE Z X e env fun r e1 => storeR r i e1 fun e2 => P (.nx e2)) (hN : X.N.Nodup) (hi : X.N[i]? = some x := by rfl) (hx : Loc X.env.scope x := by first | exact Or.inl rfl | exact Or.inr rfl) (hs : swapsWith e (some (.Name x pos')) pos.line X.env = pure false := by rfl)
    (hf : X.fn x = true ∨ X.env.scope.names.lookup x = some .local := by first | exact .inl rfl | exact .inr rfl) : WS Z X (.Assign [.Name x pos'] e pos) env P :=
  ws_of (ps_set hN hi hx (pe_E (Z := Z)) hs hf) fun σ H F O b o => ⟨env, F, O, _, b, o, h, fun v H1 ⟨F1, O1, r, e1, b1, st, fr, p⟩ => by
    obtain ⟨F2, O2, e2, b2, o2, fr2, q⟩ := storeR_ok b1 st p
    exact ⟨F2, O2, e2, b2, o2, fr.trans fr2, q⟩⟩
/-- x op= e -/
theorem ws_aug (i : Nat) {x : Str} {pos' : Pos} {op : Operator} {g : D → D → (T → Prop) → Prop} (ho : DOp X (inplaceOp op) g)
    (h : ∃ d0, env[i]? = some (some (.va d0)) ∧ WA Z X e env fun a2 e2 => View a2 e2 fun d2 => i < e2.length ∧ g d0 d2 fun t => P (.nx (e2.set i (some t)))) (hN : X.N.Nodup) (hi : X.N[i]? = some x := by rfl) (hx : Loc X.env.scope x := by first | exact Or.inl rfl | exact Or.inr rfl)
    (hf : X.fn x = true ∨ X.env.scope.names.lookup x = some .local := by first | exact .inl rfl | exact .inr rfl) : WS Z X (.AugAssign (.Name x pos') op e pos) env P := by
  obtain ⟨d0, e0, h⟩ := h
  have hp : PIp X op (rD g) := fun pins s σ H x y v u Q I r1 r2 q => ho.r pins s σ H x y v u Q I r1 r2 q
  refine ws_of (ps_aug hN hi hx (pe_A (Z := Z)) hp hf) fun σ H F O b o => ?_
  obtain ⟨w, hw, Oj, O', h1, h2, h3⟩ := o.focusI e0
  cases h1 with
  | va r0 =>
    refine ⟨w, hw, env, F, O, _, b, o, h, fun v2 H2 ⟨F2, O2, a2, e2, b2, o2, st2, fr2, p⟩ => ?_⟩
    obtain ⟨d2, w2, hl, hg⟩ := View.vw p o2 st2
    refine ⟨F2, d0, d2, _, b2.sub, .pure (r0.mono fr2.fz), w2, hg, fun v3 H3 n => ?_⟩
    obtain ⟨F3, O3, r3, e3, b3, st3, fr3, t, er, e3e, q⟩ := n.post b2 o2 (P := fun r e => ∃ t, r = .t t ∧ e = e2 ∧ P (.nx (e2.set i (some t)))) fun t q => ⟨t, rfl, rfl, q⟩
    subst er e3e
    obtain ⟨F4, O4, e4, b4, o4, fr4, q4⟩ := storeR_ok (i := i) (k := fun e => P (.nx e)) b3 st3 ⟨hl, q⟩
    exact ⟨F4, O4, e4, b4, o4, (fr2.trans fr3).trans fr4, q4⟩

/-! ### while -/
def loopP (P : Out → Prop) (N : Env → Prop) : Out → Prop
  | .nx e => N e
  | .ct e => N e
  | .bk e => P (.nx e)
  | .ret t e => P (.ret t e)
theorem loop_le {H0 F0 H1 F1 : Hp} {O0 O1 : List Addr} (fr : Frm Tq H0 F0 O0 H1 F1 O1) {N : Env → Prop} {Nh : L2.St → Hp → Prop} (hn : ∀ σ H F O env, Bas Z F H O → OwE F H O σ env → Frm Tq H1 F1 O1 H F O → N env → Nh σ H) :
    EndsLe (endsOf Z H1 F1 O1 (loopP P N)) { endsOf Z H0 F0 O0 P with nx := Nh, ct := Nh, bk := (endsOf Z H0 F0 O0 P).nx } :=
  ⟨fun _ _ ⟨F, O, env, b, o, f, p⟩ => hn _ _ F O env b o f p, fun _ _ ⟨F, O, O2, σ, t, env, b, o, w, f, p⟩ => ⟨F, O, O2, σ, t, env, b, o, w, fr.trans f, p⟩,
    fun _ _ ⟨F, O, env, b, o, f, p⟩ => ⟨F, O, env, b, o, fr.trans f, p⟩, fun _ _ ⟨F, O, env, b, o, f, p⟩ => hn _ _ F O env b o f p⟩
theorem ws_while (I : Nat → Env → Prop) (m : Nat) (h0 : I m env) (hs : ∀ m env, I m env → WT Z X c env fun k e1 => (k = true → WSs Z X body e1 (loopP P fun e => ∃ m', m' < m ∧ I m' e)) ∧ (k = false → P (.nx e1)))
    (hp : PassesOwn (model X.prog X.w) X.A X.env X.xe) : WS Z X (.While c body [] pos) env P :=
  ws_of (ps_while hp (pt_T (Z := Z)) (pss_S (Z := Z))) fun σ0 H0 F0 O0 b0 o0 => by
    refine ⟨fun m σ H => ∃ F O env, Bas Z F H O ∧ OwE F H O σ env ∧ Frm Tq H0 F0 O0 H F O ∧ I m env, ⟨m, F0, O0, env, b0, o0, Frm.refl _ _ _, h0⟩, ?_⟩
    rintro m σ H ⟨F, O, env, b, o, fr, hI⟩
    refine ⟨env, F, O, _, b, o, hs m env hI, fun k H1 ⟨F1, O1, e1, b1, o1, fr1, p⟩ => ?_⟩
    cases k with
    | true =>
      refine iteT ⟨fun σ' H' => ∃ m', m' < m ∧ ∃ F O env, Bas Z F H' O ∧ OwE F H' O σ' env ∧ Frm Tq H0 F0 O0 H' F O ∧ I m' env, fun σ' H' ⟨m', hm, q⟩ => ⟨m', hm, q⟩, e1, F1, O1, _, b1, o1, p.1 rfl, ?_⟩
      refine loop_le (fr.trans fr1) ?_
      rintro σ2 H2 F2 O2 e2 b2 o2 f2 ⟨m', hm, q⟩
      exact ⟨m', hm, F2, O2, e2, b2, o2, (fr.trans fr1).trans f2, q⟩
    | false => exact iteF ⟨F1, O1, e1, b1, o1, fr.trans fr1, p.2 rfl⟩
end
end QL

/-! QE: targets, for, comprehensions. -/
namespace QL
open PySem PySem.Spec PyProof.Rows L2

theorem Bas.grow {Tq : List (Addr × Str)} {Z : Zb Tq} {F H F' H' : Hp} {O : List Addr} {σ : L2.St} {env : Env} (b : Bas Z F H O) (o : OwE F H O σ env) (s1 : Same F F') (s2 : Same H H') (s3 : Same F' H') (nf : ∀ a, F' a ≠ none → F a ≠ none ∨ H a = none) :
    Bas Z F' H' O ∧ OwE F' H' O σ env ∧ Frm Tq H F O H' F' O := by
  have keep : ∀ a ∈ O, H' a = H a := fun a ha => by
    cases q : H a with
    | none => exact absurd q (o.there a ha)
    | some x => exact s2 a x q
  have fr : Frm Tq H F O H' F' O := ⟨s1, fun a x e _ _ => s2 a x e, (fun a e => by
      cases q : H a with
      | none => exact absurd q e
      | some x => rw [s2 a x q]; exact fun z => nomatch z), fun a e => (nf a e).imp_right .inl, fun a ha => .inl ha, tab_same s2⟩
  refine ⟨⟨s3, b.nd, fun a ha => ?_, b.abs.trans fr⟩, o.stay s1 keep, fr⟩
  cases q : F' a with
  | none => rfl
  | some x =>
    rcases nf a (by rw [q]; exact fun z => nomatch z) with z | z
    · exact absurd (b.dis a ha) z
    · exact absurd z (o.there a ha)

/-! ### targets -/
theorem wipe_get {σ : L2.St} {i : Nat} : ∀ {vs : List Nat}, (wipe σ vs)[i]? = if i ∈ vs then (if i < σ.length then some none else none) else σ[i]?
  | [] => by simp [wipe]
  | v :: vs => by
    unfold wipe
    rw [List.getElem?_set, wipe_length, wipe_get (vs := vs)]
    by_cases e : v = i
    · subst e; simp
    · rw [if_neg e]
      have : (i ∈ v :: vs) ↔ i ∈ vs := by simp [Ne.symm e]
      simp only [this]
theorem wipe_set {σ : L2.St} {i : Nat} {x : Option V} {vs : List Nat} (h : i ∈ vs) : wipe (σ.set i x) vs = wipe σ vs := by
  apply List.ext_getElem?
  intro j
  rw [wipe_get, wipe_get, List.length_set]
  by_cases e : j ∈ vs
  · rw [if_pos e, if_pos e]
  · rw [if_neg e, if_neg e, List.getElem?_set_ne (fun z => e (by rw [← z]; exact h))]
theorem wipe_wipe {σ : L2.St} {vs : List Nat} : wipe (wipe σ vs) vs = wipe σ vs := by
  apply List.ext_getElem?
  intro j
  rw [wipe_get, wipe_get, wipe_length]
  by_cases e : j ∈ vs
  · rw [if_pos e, if_pos e]
  · rw [if_neg e, if_neg e]
def wipeE (env : Env) : List Nat → Env
  | [] => env
  | v :: vs => (wipeE env vs).set v none
theorem OwE.none_any {F H : Hp} : ∀ {O : List Addr} {σ σ' : L2.St} {e : Env}, OwE F H O σ e → σ'.length = σ.length → (∀ i : Nat, e[i]? ≠ some none → σ'[i]? = σ[i]?) → OwE F H O σ' e
  | _, _, [], _, .nil, _, _ => .nil
  | _, _, _ :: _, _, .nil, l, _ => nomatch l
  | _, _, [], _, .un r, l, _ => nomatch l
  | _, _, x :: σ', _, .un r, l, h => .un (r.none_any (Nat.succ.inj l) fun i hi => h (i + 1) hi)
  | _, _, [], _, .so q r, l, _ => nomatch l
  | _, _, x :: σ', _, .so q r, l, h => by
    have e : x = some _ := Option.some.inj (h 0 fun z => nomatch z)
    subst e
    exact .so q (r.none_any (Nat.succ.inj l) fun i hi => h (i + 1) hi)
theorem OwE.wipeO {F H : Hp} {O : List Addr} {σ : L2.St} {e : Env} (o : OwE F H O σ e) : ∀ vs : List Nat, ∃ O' Od, OwE F H O' σ (wipeE e vs) ∧ O.Perm (O' ++ Od)
  | [] => ⟨O, [], o, by rw [List.append_nil]⟩
  | v :: vs => by
    obtain ⟨O1, Od1, h1, h2⟩ := o.wipeO vs
    obtain ⟨O2, Od2, h3, h4⟩ := h1.drop v
    exact ⟨O2, Od2 ++ Od1, h3, by rw [← List.append_assoc]; exact h2.trans (h4.append_right Od1)⟩
theorem wipeE_get {env : Env} {i : Nat} : ∀ {vs : List Nat}, (wipeE env vs)[i]? = if i ∈ vs then (if i < env.length then some none else none) else env[i]?
  | [] => by simp [wipeE]
  | v :: vs => by
    have hl : ∀ ws : List Nat, (wipeE env ws).length = env.length := fun ws => by
      induction ws with
      | nil => rfl
      | cons w ws ih => unfold wipeE; rw [List.length_set, ih]
    unfold wipeE
    rw [List.getElem?_set, hl, wipeE_get (vs := vs)]
    by_cases e : v = i
    · subst e; simp
    · rw [if_neg e]
      have : (i ∈ v :: vs) ↔ i ∈ vs := by simp [Ne.symm e]
      simp only [this]
/-- the slots of a block's names: what stands there does not matter -/
theorem OwE.wiped {F H : Hp} {O : List Addr} {σ σ' : L2.St} {e : Env} {vs : List Nat} (o : OwE F H O σ (wipeE e vs)) (h : wipe σ' vs = wipe σ vs) : OwE F H O σ' (wipeE e vs) := by
  have hl : σ'.length = σ.length := by have := congrArg List.length h; rw [wipe_length, wipe_length] at this; exact this
  have hw : (wipeE e vs).length = e.length := by
    clear o h hl
    induction vs with
    | nil => rfl
    | cons w ws ih => unfold wipeE; rw [List.length_set, ih]
  refine o.none_any hl fun i hi => ?_
  have g := congrArg (fun l => l[i]?) h
  simp only [wipe_get] at g
  by_cases z : i ∈ vs
  · rw [wipeE_get, if_pos z] at hi
    by_cases y : i < e.length
    · rw [if_pos y] at hi; exact absurd rfl hi
    · have q := o.len
      rw [hw] at q
      rw [List.getElem?_eq_none (by omega), List.getElem?_eq_none (by omega)]
  · rw [if_neg z, if_neg z] at g
    exact g

abbrev TF := D → Env → (Env → Prop) → Prop
abbrev TFs := List D → Env → (Env → Prop) → Prop
/-- a target's store, over data; ix: its names' slots -/
def GOk {Tq : List (Addr × Str)} (Z : Zb Tq) (g : TG) (f : TF) (ix : List Nat) : Prop := ∀ (v : V) (d : D) (σ : L2.St) (H F : Hp) (O : List Addr) (env : Env) (k : Env → Prop) (Q : L2.St → Hp → Prop), Bas Z F H O → OwE F H O σ env → Rp F v d → f d env k →
  (∀ σ' O' e', Bas Z F H O' → OwE F H O' σ' e' → (∀ a ∈ O', a ∈ O) → (∀ vs : List Nat, (∀ i ∈ ix, i ∈ vs) → wipe σ' vs = wipe σ vs) → k e' → Q σ' H) → g v σ H Q
def GsOk {Tq : List (Addr × Str)} (Z : Zb Tq) (g : TGs) (f : TFs) (ix : List Nat) : Prop := ∀ (v : List V) (d : List D) (σ : L2.St) (H F : Hp) (O : List Addr) (env : Env) (k : Env → Prop) (Q : L2.St → Hp → Prop), Bas Z F H O → OwE F H O σ env → RpA F v d → f d env k →
  (∀ σ' O' e', Bas Z F H O' → OwE F H O' σ' e' → (∀ a ∈ O', a ∈ O) → (∀ vs : List Nat, (∀ i ∈ ix, i ∈ vs) → wipe σ' vs = wipe σ vs) → k e' → Q σ' H) → g v σ H Q
def fName (i : Nat) : TF := fun d env k => i < env.length ∧ k (env.set i (some (.va d)))
def fNil : TFs := fun ds env k => ds = [] ∧ k env
def fCons (f : TF) (fs : TFs) : TFs := fun ds env k => match ds with
  | d :: r => f d env fun e => fs r e k
  | [] => False
def fTup (n : Nat) (fs : TFs) : TF := fun d env k => match d with
  | .tuple ds => ds.length = n ∧ fs ds env k
  | _ => False
theorem gok_name {Tq : List (Addr × Str)} {Z : Zb Tq} (i : Nat) : GOk Z (gName i) (fName i) [i] := fun v d σ H F O env k Q b o r h q => by
  obtain ⟨O', Od, h1, h2⟩ := o.set i (.va r) h.1
  obtain ⟨b', fr⟩ := b.dropP h2
  exact q _ O' _ b' h1 (fun a ha => h2.mem_iff.mpr (List.mem_append_left _ ha)) (fun vs hv => wipe_set (hv i (List.mem_singleton.mpr rfl))) h.2
theorem gsok_nil {Tq : List (Addr × Str)} {Z : Zb Tq} : GsOk Z gNil fNil [] := fun v d σ H F O env k Q b o r h q => by
  obtain ⟨rfl, h⟩ := h
  cases r
  exact ⟨rfl, q σ O env b o (fun _ z => z) (fun _ _ => rfl) h⟩
theorem gsok_cons {Tq : List (Addr × Str)} {Z : Zb Tq} {g : TG} {gs : TGs} {f : TF} {fs : TFs} {ix ixs : List Nat} (h1 : GOk Z g f ix) (h2 : GsOk Z gs fs ixs) : GsOk Z (gCons g gs) (fCons f fs) (ix ++ ixs) := fun v d σ H F O env k Q b o r h q => by
  cases r with
  | nil => exact h.elim
  | cons r1 r2 =>
    refine ⟨_, _, rfl, h1 _ _ σ H F O env _ _ b o r1 h fun σ1 O1 e1 b1 o1 s1 w1 h => ?_⟩
    refine h2 _ _ σ1 H F O1 e1 k _ b1 o1 r2 h fun σ2 O2 e2 b2 o2 s2 w2 h => ?_
    exact q σ2 O2 e2 b2 o2 (fun a ha => s1 a (s2 a ha)) (fun vs hv => (w2 vs fun i hi => hv i (List.mem_append_right _ hi)).trans (w1 vs fun i hi => hv i (List.mem_append_left _ hi))) h
theorem gok_tup {Tq : List (Addr × Str)} {Z : Zb Tq} {K : PySem.W.Frag} {n : Nat} {gs : TGs} {fs : TFs} {ix : List Nat} (h1 : GsOk Z gs fs ix) : GOk Z (gTup K n gs) (fTup n fs) ix := fun v d σ H F O env k Q b o r h q => by
  cases d with
  | tuple ds =>
    cases r with
    | tup hF r =>
      exact ⟨_, _, rfl, SqT.of (b.sub _ _ hF), by rw [r.len]; exact h.1, h1 _ _ σ H F O env k Q b o r h.2 q⟩
  | _ => exact h.elim

section
variable {Tq : List (Addr × Str)} {Z : Zb Tq} {X : Cx} {e a b c tg iter elt : Expr} {es : List Expr} {env : Env} {pos : Pos} {P : Out → Prop} {PR : R → Env → Prop} {body : List Stmt}

/-- target = e, e a tuple -/
theorem ws_asg {g : TG} {f : TF} {ix : List Nat} (hg : PG X tg g) (gk : GOk Z g f ix) (h : WE Z X e env fun r e1 => ∃ d, r = .t (.va d) ∧ f d e1 fun e2 => P (.nx e2)) (hs : swapsWithSole [tg] e pos.line X.env = pure false := by rfl) (hw : swappedStores [tg] e X.env = pure none := by rfl)
    (h1 : (assignEach [tg] X.env).map (·.2) = [assign tg X.env] := by rfl) : WS Z X (.Assign [tg] e pos) env P :=
  ws_of (ps_asg (pe_E (Z := Z)) hg hs hw h1) fun σ H F O b o => ⟨env, F, O, _, b, o, h, fun v H1 ⟨F1, O1, r, e1, b1, st, fr, d, er, p⟩ => by
    subst er
    obtain ⟨O2, O3, rfl, o1, w⟩ := st
    cases w with
    | va r =>
      rw [List.append_nil] at b1 fr
      refine gk v d σ H1 F1 O2 e1 _ _ b1 o1 r p fun σ2 O4 e2 b2 o2 s2 _ q => ⟨F1, O4, e2, b2, o2, fr.perm (fun _ => Iff.rfl) s2, q⟩⟩

/-! ### what is walked -/
def Gives (J : It) (ds : List D) (F1 : Hp) : Prop := ∀ (F' H' : Hp), Same F1 F' → Same F' H' → ∀ i : Nat,
  (∀ d, ds[i]? = some d → J.go i H' ∧ ∀ x H'', J.yld i H' x H'' → ∃ F'', Rp F'' x d ∧ Same F' F'' ∧ Same H' H'' ∧ Same F'' H'' ∧ ∀ a, F'' a ≠ none → F' a ≠ none ∨ H' a = none) ∧ (ds[i]? = none → J.stop i H')
def WI {Tq : List (Addr × Str)} (Z : Zb Tq) (X : Cx) (tg iter : Expr) (env : Env) (P : List D → Env → Prop) : Prop :=
  ∀ (pins : List (Addr × Obj)) (s : Shared) (σ : L2.St) (H F : Hp) (O : List Addr), Inv X pins σ H s → Bas Z F H O → OwE F H O σ env →
    wpAny (model X.prog X.w) X.A (eval iter X.env) (fun v s1 => wpAny (model X.prog X.w) X.A (pyIter v) (PIE X pins σ tg fun J H1 => ∃ F1 O1 ds e1, Bas Z F1 H1 O1 ∧ OwE F1 H1 O1 σ e1 ∧ Frm Tq H F O H1 F1 O1 ∧ Gives J ds F1 ∧ P ds e1) X.xe s1) X.xe s
def tI {Tq : List (Addr × Str)} (Z : Zb Tq) (X : Cx) (tg iter : Expr) : TI := fun σ H Rr => ∃ env F O P, Bas Z F H O ∧ OwE F H O σ env ∧ WI Z X tg iter env P ∧
  ∀ J H1 F1 O1 ds e1, Bas Z F1 H1 O1 → OwE F1 H1 O1 σ e1 → Frm Tq H F O H1 F1 O1 → Gives J ds F1 → P ds e1 → Rr J H1
theorem PIE.imp {pins : List (Addr × Obj)} {σ : L2.St} {R1 R2 : It → Hp → Prop} (h : ∀ J H1, R1 J H1 → R2 J H1) : ∀ v s, PIE X pins σ tg R1 v s → PIE X pins σ tg R2 v s := fun _ _ ⟨it, fp, tn, J, H', e, I, T, t0, f, q⟩ => ⟨it, fp, tn, J, H', e, I, T, t0, f, h _ _ q⟩
theorem pi_I : PI X tg iter (tI Z X tg iter) := ⟨fun pins s σ H Rr I ⟨env, F, O, P, b, o, w, q⟩ =>
  thn (w pins s σ H F O I b o) fun v s1 h => thn h (PIE.imp fun J H1 ⟨F1, O1, ds, e1, b1, o1, fr, g, p⟩ => q J H1 F1 O1 ds e1 b1 o1 fr g p)⟩
theorem wi_of {wi : TI} {P : List D → Env → Prop} (h : PI X tg iter wi) (w : ∀ σ H F O, Bas Z F H O → OwE F H O σ env → wi σ H fun J H1 => ∃ F1 O1 ds e1, Bas Z F1 H1 O1 ∧ OwE F1 H1 O1 σ e1 ∧ Frm Tq H F O H1 F1 O1 ∧ Gives J ds F1 ∧ P ds e1) : WI Z X tg iter env P :=
  fun pins s σ H F O I b o => h.run pins s σ H _ I (w σ H F O b o)
theorem gives_list {K : PySem.W.Frag} {a : Addr} {xs : List V} {ds : List D} {F : Hp} (h : F a = some (.lst xs)) (r : RpA F xs ds) : Gives (Itl K a) ds F := fun F' H' s1 s2 i => by
  have hq : SqL K H' a xs := SqL.of (s2 _ _ (s1 _ _ h))
  refine ⟨fun d hd => ?_, fun hn => ?_⟩
  · obtain ⟨v, hv, rv⟩ := r.get' hd
    refine ⟨⟨xs, v, hq, hv⟩, fun x H'' ⟨e, q⟩ => ?_⟩
    subst e
    have := (q xs hq).symm.trans hv
    cases this
    exact ⟨F', rv.mono s1, Same.refl _, Same.refl _, s2, fun _ z => .inl z⟩
  · exact ⟨xs, hq, by rw [r.len]; exact List.getElem?_eq_none_iff.mp hn⟩
theorem gives_tup {K : PySem.W.Frag} {a : Addr} {xs : List V} {ds : List D} {F : Hp} (h : F a = some (.tup xs)) (r : RpA F xs ds) : Gives (Itt K a) ds F := fun F' H' s1 s2 i => by
  have hq : SqT K H' a xs := SqT.of (s2 _ _ (s1 _ _ h))
  refine ⟨fun d hd => ?_, fun hn => ?_⟩
  · obtain ⟨v, hv, rv⟩ := r.get' hd
    refine ⟨⟨xs, v, hq, hv⟩, fun x H'' ⟨e, q⟩ => ?_⟩
    subst e
    have := (q xs hq).symm.trans hv
    cases this
    exact ⟨F', rv.mono s1, Same.refl _, Same.refl _, s2, fun _ z => .inl z⟩
  · exact ⟨xs, hq, by rw [r.len]; exact List.getElem?_eq_none_iff.mp hn⟩
def tupOf (ds : List D) (k : List D → Prop) : Prop := match ds with
  | [.tuple xs] => k xs
  | _ => False
def lstOf (ds : List D) (k : List D → Prop) : Prop := match ds with
  | [.list xs] => k xs
  | _ => False
/-- for x in a tuple -/
theorem wi_tup {P : List D → Env → Prop} (h : WA Z X iter env fun a e1 => absorb [a] e1 fun ds e2 => tupOf ds fun xs => P xs e2) : WI Z X tg iter env P :=
  wi_of (pi_tup (pe_A (Z := Z))) fun σ H F O b o => ⟨env, F, O, _, b, o, h, fun v H1 ⟨F1, O1, a, e1, b1, o1, st, fr, p⟩ => by
    obtain ⟨F2, O2, ds, e2, b2, o2, r2, fr2, q⟩ := absorb_ok (.cons st .nil) b1 o1 p
    cases r2 with
    | cons r rr =>
      cases rr
      unfold tupOf at q
      split at q
      · rename_i xs e
        cases e
        cases r with
        | tup h1 r1 => exact ⟨_, rfl, ⟨_, SqT.of (b2.sub _ _ h1)⟩, F2, O2, xs, e2, b2, o2, fr.trans fr2, gives_tup h1 r1, q⟩
      · exact q.elim⟩
/-- for x in a list -/
theorem wi_list {P : List D → Env → Prop} (h : WA Z X iter env fun a e1 => absorb [a] e1 fun ds e2 => lstOf ds fun xs => P xs e2) : WI Z X tg iter env P :=
  wi_of (pi_list (pe_A (Z := Z))) fun σ H F O b o => ⟨env, F, O, _, b, o, h, fun v H1 ⟨F1, O1, a, e1, b1, o1, st, fr, p⟩ => by
    obtain ⟨F2, O2, ds, e2, b2, o2, r2, fr2, q⟩ := absorb_ok (.cons st .nil) b1 o1 p
    cases r2 with
    | cons r rr =>
      cases rr
      unfold lstOf at q
      split at q
      · rename_i xs e
        cases e
        cases r with
        | lst h1 r1 => exact ⟨_, rfl, ⟨_, SqL.of (b2.sub _ _ h1)⟩, F2, O2, xs, e2, b2, o2, fr.trans fr2, gives_list h1 r1, q⟩
      · exact q.elim⟩
/-- range -/
def rangeD (lo : Int) (n : Nat) : List D := (List.range n).map fun (k : Nat) => PyData.int (lo + (k : Int))
theorem gives_range {lo : Int} {n : Nat} {F : Hp} : Gives (Itr lo n) (rangeD lo n) F := fun F' H' s1 s2 i => by
  refine ⟨fun d hd => ?_, fun hn => ?_⟩
  · unfold rangeD at hd
    rw [List.getElem?_map] at hd
    by_cases hi : i < n
    · rw [List.getElem?_range hi] at hd
      cases hd
      refine ⟨hi, fun x H'' ⟨e, q⟩ => ?_⟩
      subst e q
      exact ⟨F', .int _, Same.refl _, Same.refl _, s2, fun _ z => .inl z⟩
    · rw [List.getElem?_eq_none (by simpa using hi)] at hd
      cases hd
  · unfold rangeD at hn
    rw [List.getElem?_eq_none_iff, List.length_map, List.length_range] at hn
    exact hn
/-- several arguments, as they are seen at the end -/
def Views (as : List A) (env : Env) (k : List D → Prop) : Prop := match as with
  | [] => k []
  | a :: as => View a env fun d => Views as env fun ds => k (d :: ds)
inductive Vws (F H : Hp) : List V → List D → Prop
  | nil : Vws F H [] []
  | cons {v : V} {vs : List V} {d : D} {ds : List D} : Vw F H v d → Vws F H vs ds → Vws F H (v :: vs) (d :: ds)
theorem Views.vws {σ : L2.St} {F H : Hp} {O : List Addr} (o : OwE F H O σ env) : ∀ {as : List A} {vs : List V} {k : List D → Prop}, StAs F vs as → Views as env k → ∃ ds, Vws F H vs ds ∧ k ds
  | [], _, k, .nil, h => ⟨[], .nil, h⟩
  | a :: as, _, k, .cons st r, h => by
    obtain ⟨d, w, h⟩ := View.vw h o st
    obtain ⟨ds, ws, h⟩ := Views.vws o r h
    exact ⟨d :: ds, .cons w ws, h⟩
def rng1 (ds : List D) (k : List D → Prop) : Prop := match ds with
  | [.int j] => (-4611686018427387904 ≤ j ∧ j < 4611686018427387904) ∧ k (rangeD 0 j.toNat)
  | _ => False
theorem wi_range1 {P : List D → Env → Prop} {p : Pos} (hm : X.mg "range" = none) (h : WAs Z X [a] env fun as e1 => Views as e1 fun ds => rng1 ds fun xs => P xs e1) (hg : Gl X "range" := by rfl) : WI Z X tg (.Call (.Name "range" p) [a] [] pos) env P :=
  wi_of (pi_range1 hg hm (pa_As (Z := Z)) h.1) fun σ H F O b o => ⟨env, F, O, _, b, o, h, fun vs H1 ⟨F1, O1, as, e1, b1, o1, st, fr, p⟩ => by
    obtain ⟨ds, ws, q⟩ := Views.vws o1 st p
    unfold rng1 at q
    split at q
    · cases ws with
      | cons w ws =>
        cases ws
        cases w.int
        exact ⟨_, rfl, q.1.1, q.1.2, F1, O1, _, e1, b1, o1, fr, gives_range, q.2⟩
    · exact q.elim⟩
def rng2 (ds : List D) (k : List D → Prop) : Prop := match ds with
  | [.int i, .int j] => (-4611686018427387904 ≤ i ∧ i < 4611686018427387904 ∧ -4611686018427387904 ≤ j ∧ j < 4611686018427387904) ∧ k (rangeD i (j - i).toNat)
  | _ => False
theorem wi_range2 {P : List D → Env → Prop} {p : Pos} (hm : X.mg "range" = none) (h : WAs Z X [a, b] env fun as e1 => Views as e1 fun ds => rng2 ds fun xs => P xs e1) (hg : Gl X "range" := by rfl) (hs : starEach [a, b] X.env = [(false, eval a X.env), (false, eval b X.env)] := by rfl) (hs2 : starEach [b] X.env = [(false, eval b X.env)] := by rfl) : WI Z X tg (.Call (.Name "range" p) [a, b] [] pos) env P :=
  wi_of (pi_range2 hg hm (pa_As (Z := Z)) hs hs2) fun σ H F O b o => ⟨env, F, O, _, b, o, h, fun vs H1 ⟨F1, O1, as, e1, b1, o1, st, fr, p⟩ => by
    obtain ⟨ds, ws, q⟩ := Views.vws o1 st p
    unfold rng2 at q
    split at q
    · cases ws with
      | cons w ws =>
        cases ws with
        | cons w' ws =>
          cases ws
          cases w.int
          cases w'.int
          exact ⟨_, _, rfl, q.1, F1, O1, _, e1, b1, o1, fr, gives_range, q.2⟩
    · exact q.elim⟩

/-! ### for -/
def ForI {Tq : List (Addr × Str)} (Z : Zb Tq) (X : Cx) (f : TF) (body : List Stmt) (P : Out → Prop) (ds : List D) (e1 : Env) : Prop :=
  ∃ I : Nat → Env → Prop, I 0 e1 ∧ (∀ k d e, ds[k]? = some d → I k e → f d e fun e' => WSs Z X body e' (loopP P (I (k + 1)))) ∧ ∀ e, I ds.length e → P (.nx e)
theorem ws_for {g : TG} {f : TF} {ix : List Nat} (hp : PassesOwn (model X.prog X.w) X.A X.env X.xe) (hc : X.calm = true) (hg : PG X tg g) (gk : GOk Z g f ix) (h : WI Z X tg iter env (ForI Z X f body P)) (hs : ∀ x, foldedSetIterable iter X.env x = pure x := by intro _; rfl) :
    WS Z X (.For tg iter body [] pos) env P :=
  ws_of (ps_for hp hc (pi_I (Z := Z)) hg (pss_S (Z := Z)) hs) fun σ0 H0 F0 O0 b0 o0 => ⟨env, F0, O0, _, b0, o0, h, fun J H1 F1 O1 ds e1 b1 o1 fr1 gv ⟨I, i0, step, done⟩ => by
    refine ⟨fun i m σ H => m = ds.length - i ∧ i ≤ ds.length ∧ ∃ F O e, Bas Z F H O ∧ OwE F H O σ e ∧ Frm Tq H1 F1 O1 H F O ∧ I i e, ⟨_, rfl, Nat.zero_le _, F1, O1, e1, b1, o1, Frm.refl _ _ _, i0⟩, ?_⟩
    rintro i m σ H ⟨rfl, hi, F, O, e, b, o, fr, hI⟩
    obtain ⟨g1, g2⟩ := gv F H fr.fz b.sub i
    by_cases hlt : i < ds.length
    · obtain ⟨go, yl⟩ := g1 ds[i] (List.getElem?_eq_getElem hlt)
      refine .inr ⟨go, fun σ' H' => ∃ F O e, Bas Z F H' O ∧ OwE F H' O σ' e ∧ Frm Tq H1 F1 O1 H' F O ∧ I (i + 1) e, fun σ' H' q => ⟨ds.length - (i + 1), by omega, rfl, hlt, q⟩, fun x H' y => ?_⟩
      obtain ⟨F', rx, s1, s2, s3, nf⟩ := yl x H' y
      obtain ⟨b2, o2, fr2⟩ := b.grow o s1 s2 s3 nf
      refine gk x _ σ H' F' O e _ _ b2 o2 rx (step i _ e (List.getElem?_eq_getElem hlt) hI) fun σ3 O3 e3 b3 o3 s3 _ h3 => ?_
      have fr3 : Frm Tq H1 F1 O1 H' F' O3 := (fr.trans fr2).perm (fun _ => Iff.rfl) s3
      refine ⟨e3, F', O3, _, b3, o3, h3, loop_le (fr1.trans fr3) ?_⟩
      exact fun σ4 H4 F4 O4 e4 b4 o4 f4 q => ⟨F4, O4, e4, b4, o4, fr3.trans f4, q⟩
    · have e' : i = ds.length := by omega
      subst e'
      exact .inl ⟨g2 (List.getElem?_eq_none (Nat.le_refl _)), F, O, e, b, o, fr1.trans fr, done e hI⟩⟩

/-! ### comprehensions -/
/-- the contexts in which a comprehension's block may run -/
abbrev Blk (X : Cx) (scope : Scope) (k : Cx → Prop) : Prop := ∀ (s : Shared) (H : Hp) (C : Addr) (cl : List (Str × Addr)) (fp : List Addr), k (X.blk s H scope (compEnvC scope cl C X.env) fp)
def tAB {Tq : List (Addr × Str)} (Z : Zb Tq) (X : Cx) (scope : Scope) (e : Expr) : TE := fun σ H Q => ∃ env F O P, Bas Z F H O ∧ OwE F H O σ env ∧ (Blk X scope fun X' => WA Z X' e env P) ∧ ∀ v H', PostA Z σ H F O P v H' → Q v H'
def tTB {Tq : List (Addr × Str)} (Z : Zb Tq) (X : Cx) (scope : Scope) (e : Expr) : TT := fun σ H Q => ∃ env F O P, Bas Z F H O ∧ OwE F H O σ env ∧ (Blk X scope fun X' => WT Z X' e env P) ∧ ∀ v H', PostT Z σ H F O P v H' → Q v H'
theorem pe_AB {scope : Scope} (s : Shared) (H : Hp) (C : Addr) (cl : List (Str × Addr)) (fp : List Addr) : PE (X.blk s H scope (compEnvC scope cl C X.env) fp) elt (tAB Z X scope elt) :=
  ⟨fun pins s' σ H' Q I ⟨env, F, O, P, b, o, w, q⟩ => thn ((w s H C cl fp).run I b o) (EP.imp q)⟩
theorem pt_TB {scope : Scope} (s : Shared) (H : Hp) (C : Addr) (cl : List (Str × Addr)) (fp : List Addr) : PT (X.blk s H scope (compEnvC scope cl C X.env) fp) c (tTB Z X scope c) :=
  ⟨fun pins s' σ H' Q I ⟨env, F, O, P, b, o, w, q⟩ => thn (w s H C cl fp pins s' σ H' F O I b o) fun _ _ ⟨H2, I2, p⟩ => ⟨H2, I2, q _ _ p⟩⟩
/-- one turn's element -/
def ElI {Tq : List (Addr × Str)} (Z : Zb Tq) (X : Cx) (scope : Scope) (elt : Expr) (vs : List Nat) (I : List D → Env → Prop) (acc : List D) (e2 : Env) : Prop :=
  Blk X scope fun X' => WA Z X' elt e2 fun a e3 => absorb [a] e3 fun ds e4 => match ds with
    | [y] => acc.length < sizeLine ∧ I (acc ++ [y]) (wipeE e4 vs)
    | _ => False
structure LcI {Tq : List (Addr × Str)} (Z : Zb Tq) (X : Cx) (scope : Scope) (f : TF) (elt : Expr) (vs : List Nat) (T : Env → (Bool → Env → Prop) → Prop) (P : R → Env → Prop) (ds : List D) (e1 : Env) : Prop where
  ex : ∃ I : Nat → List D → Env → Prop, I 0 [] (wipeE e1 vs) ∧ (∀ k d acc e, ds[k]? = some d → I k acc e → f d e fun e' => T e' fun bb e2 => (bb = true → ElI Z X scope elt vs (I (k + 1)) acc e2) ∧ (bb = false → I (k + 1) acc (wipeE e2 vs))) ∧
    ∀ acc e, I ds.length acc e → ∀ p, P (.t (.lst p acc)) e
theorem lc_read {g : TG} {f : TF} {ix : List Nat} {scope : Scope} {vs : List Nat} {tt : TT} {T : Env → (Bool → Env → Prop) → Prop} (gk : GOk Z g f ix) (hix : ∀ i ∈ ix, i ∈ vs)
    (tk : ∀ σ H F O env k (Q : Bool → Hp → Prop), Bas Z F H O → OwE F H O σ env → T env k → (∀ bb H' F' O' e', Bas Z F' H' O' → OwE F' H' O' σ e' → Frm Tq H F O H' F' O' → k bb e' → Q bb H') → tt σ H Q)
    {σ0 : L2.St} {H0 F0 : Hp} {O0 : List Addr} (b0 : Bas Z F0 H0 O0) (o0 : OwE F0 H0 O0 σ0 env) (h : WI Z X tg iter env (LcI Z X scope f elt vs T PR)) :
    tLc (tI Z X tg iter) g tt (tAB Z X scope elt) vs σ0 H0 (Post Z σ0 H0 F0 O0 PR) := by
  refine ⟨env, F0, O0, _, b0, o0, h, fun J H1 F1 O1 ds e1 b1 o1 fr1 gv ⟨I, i0, step, done⟩ D hD => ?_⟩
  have fD : F1 D = none := b1.sub.free hD
  refine ⟨fun i m H => m = ds.length - i ∧ i ≤ ds.length ∧ ∃ F O e e0 acc accV, Bas Z F H (O ++ [D]) ∧ OwE F H O (wipe σ0 vs) e ∧ e = wipeE e0 vs ∧ H D = some (.lst accV) ∧ RpA F accV acc ∧ Frm Tq H1 F1 O1 H F (O ++ [D]) ∧ I i acc e, ⟨_, rfl, Nat.zero_le _, ?_⟩, ?_⟩
  · -- the start
    obtain ⟨O2, Od, h2, h3⟩ := o1.wipeO vs
    have hn : ∀ a ∈ O1, a ≠ D := fun a ha z => by subst z; exact o1.there a ha hD
    have fr : Frm Tq H1 F1 O1 (upd H1 D (.lst [])) F1 (O2 ++ [D]) := ⟨Same.refl _, fun a o e _ _ => same_new hD a o e, fun a e => by
      by_cases z : a = D
      · subst z; rw [upd_same]; exact fun z => nomatch z
      · rw [upd_ne z]; exact e, fun a e => .inl e, fun a ha => (List.mem_append.mp ha).elim (fun z => .inl (h3.mem_iff.mpr (List.mem_append_left _ z))) fun z => .inr (by rw [List.mem_singleton.mp z]; exact hD), tab_new hD⟩
    have b2 := (b1.dropP h3).1
    refine ⟨F1, O2, wipeE e1 vs, e1, [], [], ⟨b1.sub.trans (same_new hD), List.nodup_append.mpr ⟨b2.nd, List.nodup_cons.mpr ⟨fun z => (nomatch z), List.nodup_nil⟩, fun a ha c hc z => ?_⟩, fun a ha => ?_, b1.abs.trans fr⟩, ?_, rfl, upd_same, .nil, fr, i0⟩
    · rw [List.mem_singleton.mp hc] at z
      exact hn a (h3.mem_iff.mpr (List.mem_append_left _ ha)) z
    · rcases List.mem_append.mp ha with ha | ha
      · exact b2.dis a ha
      · rw [List.mem_singleton.mp ha]; exact fD
    · have o3 : OwE F1 (upd H1 D (.lst [])) O2 σ0 (wipeE e1 vs) := h2.stay (Same.refl _) fun a ha => upd_ne (hn a (h3.mem_iff.mpr (List.mem_append_left _ ha)))
      exact o3.wiped wipe_wipe
  · rintro i m H ⟨rfl, hi, F, O, e, e0, acc, accV, b, o, he0, hDl, rA, fr, hI⟩
    obtain ⟨g1, g2⟩ := gv F H fr.fz b.sub i
    by_cases hlt : i < ds.length
    · obtain ⟨go, yl⟩ := g1 ds[i] (List.getElem?_eq_getElem hlt)
      refine .inr ⟨go, fun H' => ∃ F O e e0 acc accV, Bas Z F H' (O ++ [D]) ∧ OwE F H' O (wipe σ0 vs) e ∧ e = wipeE e0 vs ∧ H' D = some (.lst accV) ∧ RpA F accV acc ∧ Frm Tq H1 F1 O1 H' F (O ++ [D]) ∧ I (i + 1) acc e, fun H' q => ⟨ds.length - (i + 1), by omega, rfl, hlt, q⟩, fun x H' y => ?_⟩
      obtain ⟨F', rx, s1, s2, s3, nf⟩ := yl x H' y
      have dD : ∀ a ∈ [D], Held H a := fun a ha => by rw [List.mem_singleton.mp ha]; exact ⟨_, hDl, fun _ z => nomatch z⟩
      have bL := b.left
      obtain ⟨b2, o2, fr2⟩ := bL.grow o s1 s2 s3 nf
      have b2D : Bas Z F' H' (O ++ [D]) := Bas.frame fr2 b b2 dD
      refine gk x _ (wipe σ0 vs) H' F' O e _ _ b2 o2 rx (step i _ acc e (List.getElem?_eq_getElem hlt) hI) fun σ3 O3 e3 b3 o3 s3' w3 h3 => ?_
      have hw : wipe σ3 vs = wipe (wipe σ0 vs) vs := w3 vs hix
      rw [wipe_wipe] at hw
      refine ⟨hw, ?_⟩
      have hD3 : H' D = some (.lst accV) := s2 _ _ hDl
      have dD3 : ∀ a ∈ [D], Held H' a := fun a ha => by rw [List.mem_singleton.mp ha]; exact ⟨_, hD3, fun _ z => nomatch z⟩
      have fr23 : Frm Tq H F O H' F' O3 := fr2.perm (fun _ => Iff.rfl) s3'
      have b3D : Bas Z F' H' (O3 ++ [D]) := Bas.frame fr23 b b3 dD
      have frD : Frm Tq H1 F1 O1 H' F' (O3 ++ [D]) := fr.trans fr23.frame
      refine tk σ3 H' F' O3 e3 _ _ b3 o3 h3 fun bb H4 F4 O4 e4 b4 o4 fr4 h4 => ?_
      have hD4 : H4 D = some (.lst accV) := fr4.out D _ hD3 (fun _ z => nomatch z) fun z => (List.nodup_append.mp b3D.nd).2.2 D z D (List.mem_singleton.mpr rfl) rfl
      have b4D : Bas Z F4 H4 (O4 ++ [D]) := Bas.frame fr4 b3D b4 dD3
      have frD4 : Frm Tq H1 F1 O1 H4 F4 (O4 ++ [D]) := frD.trans fr4.frame
      have dD4 : ∀ a ∈ [D], Held H4 a := fun a ha => by rw [List.mem_singleton.mp ha]; exact ⟨_, hD4, fun _ z => nomatch z⟩
      -- a turn's end
      have fin : ∀ {H5 F5 : Hp} {O5 : List Addr} {e5 : Env} {acc5 : List PyData} {accV5 : List V}, Bas Z F5 H5 (O5 ++ [D]) → OwE F5 H5 O5 σ3 e5 → H5 D = some (.lst accV5) → RpA F5 accV5 acc5 → Frm Tq H1 F1 O1 H5 F5 (O5 ++ [D]) → I (i + 1) acc5 (wipeE e5 vs) →
          ∃ F O e e0 acc accV, Bas Z F H5 (O ++ [D]) ∧ OwE F H5 O (wipe σ0 vs) e ∧ e = wipeE e0 vs ∧ H5 D = some (.lst accV) ∧ RpA F accV acc ∧ Frm Tq H1 F1 O1 H5 F (O ++ [D]) ∧ I (i + 1) acc e := fun {H5 F5 O5 e5 acc5 accV5} b5 o5 hD5 r5 fr5 hI5 => by
        obtain ⟨O6, Od6, h6, p6⟩ := o5.wipeO vs
        have p6' : (O5 ++ [D]).Perm ((O6 ++ [D]) ++ Od6) := (p6.append_right [D]).trans (by
          rw [List.append_assoc, List.append_assoc]
          exact List.perm_append_comm.append_left O6)
        refine ⟨F5, O6, wipeE e5 vs, e5, acc5, accV5, (b5.perm p6').left, h6.wiped ?_, rfl, hD5, r5, fr5.perm (fun _ => Iff.rfl) fun c hc => p6'.mem_iff.mpr (List.mem_append_left _ hc), hI5⟩
        rw [wipe_wipe]
        exact hw.symm
      cases bb with
      | false => exact iteF (fin b4D o4 hD4 (rA.mono (s1.trans fr4.fz)) frD4 (h4.2 rfl))
      | true =>
        refine iteT ⟨e4, F4, O4, _, b4, o4, h4.1 rfl, fun y H5 ⟨F5, O5, a5, e5, b5, o5, st5, fr5, p5⟩ => ?_⟩
        obtain ⟨F6, O6, ds6, e6, b6, o6, r6, fr6, q6⟩ := absorb_ok (.cons st5 .nil) b5 o5 p5
        have fr56 := fr5.trans fr6
        cases r6 with
        | cons r7 rr =>
          cases rr
          obtain ⟨hz, q7⟩ := q6
          have hD5 : H5 D = some (.lst accV) := fr5.out D _ hD4 (fun _ z => nomatch z) fun z => (List.nodup_append.mp b4D.nd).2.2 D z D (List.mem_singleton.mpr rfl) rfl
          have b6D : Bas Z F6 H5 (O6 ++ [D]) := Bas.frame fr56 b4D b6 dD4
          have frD6 : Frm Tq H1 F1 O1 H5 F6 (O6 ++ [D]) := frD4.trans fr56.frame
          have nD : ∀ a ∈ O6, a ≠ D := fun a ha z => (List.nodup_append.mp b6D.nd).2.2 a ha D (List.mem_singleton.mpr rfl) z
          have fD6 : F6 D = none := b6D.dis D (List.mem_append_right _ (List.mem_singleton.mpr rfl))
          have rA6 : RpA F6 accV acc := rA.mono (s1.trans (fr4.fz.trans fr56.fz))
          refine ⟨accV, hD5, by rw [rA6.len]; exact hz, ?_⟩
          have hs : Same F6 (upd H5 D (.lst (accV ++ [y]))) := fun a x ha => by
            have z : a ≠ D := fun z => by subst z; rw [fD6] at ha; cases ha
            rw [upd_ne z]; exact b6D.sub a x ha
          have fr7 : Frm Tq H5 F6 (O6 ++ [D]) (upd H5 D (.lst (accV ++ [y]))) F6 (O6 ++ [D]) := ⟨Same.refl _, fun a x ha _ hn => by
            rw [upd_ne fun z => hn (by rw [z]; exact List.mem_append_right _ (List.mem_singleton.mpr rfl))]; exact ha, fun a ha => by
            by_cases z : a = D
            · subst z; rw [upd_same]; exact fun z => nomatch z
            · rw [upd_ne z]; exact ha, fun a ha => .inl ha, fun a ha => .inl ha, tab_upd fun o e => by rw [hD5] at e; cases e; exact ⟨(fun _ z => nomatch z), (fun _ z => nomatch z)⟩⟩
          exact fin ⟨hs, b6D.nd, b6D.dis, b6D.abs.trans fr7⟩ (o6.stay (Same.refl _) fun a ha => upd_ne (nD a ha)) upd_same (rA6.app (.cons r7 .nil)) (frD6.trans fr7) q7
    · have e' : i = ds.length := by omega
      subst e'
      refine .inl ⟨g2 (List.getElem?_eq_none (Nat.le_refl _)), F, O ++ [D], .t (.lst D acc), e, b, ⟨O, [D], rfl, ?_, .lst hDl rA⟩, fr1.trans fr, done acc e hI D⟩
      subst he0
      exact o.wiped wipe_wipe.symm
theorem w_lc {g : TG} {f : TF} {ix : List Nat} {scope : Scope} {own : List (Str × Nat)} (hc : X.calm = true) (hN : X.N.Nodup) (ok : BlkOk X.N X.env.scope scope own) (hg : Blk X scope fun X' => PG X' tg g) (gk : GOk Z g f ix) (hix : ∀ i ∈ ix, i ∈ own.map (·.2))
    (h : WI Z X tg iter env (LcI Z X scope f elt (own.map (·.2)) (fun e k => k true e) PR)) (hs : ∀ x, foldedSetIterable iter X.env x = pure x := by intro _; rfl) : WE Z X (.ListComp elt [⟨tg, iter, [], 0⟩] scope pos) env PR :=
  we_of (pe_lc (own := own) hc hN (pi_I (Z := Z)) ok hg (fun _ _ _ _ _ => pts_nil) (pe_AB (Z := Z)) hs) fun σ H F O b o => lc_read gk hix (fun σ H F O env k Q b o t q => q true H F O env b o (Frm.refl _ _ _) t) b o h
theorem w_lcIf {g : TG} {f : TF} {ix : List Nat} {scope : Scope} {own : List (Str × Nat)} (hc : X.calm = true) (hN : X.N.Nodup) (ok : BlkOk X.N X.env.scope scope own) (hg : Blk X scope fun X' => PG X' tg g) (gk : GOk Z g f ix) (hix : ∀ i ∈ ix, i ∈ own.map (·.2))
    (h : WI Z X tg iter env (LcI Z X scope f elt (own.map (·.2)) (fun e k => Blk X scope fun X' => WT Z X' c e k) PR)) (hs : ∀ x, foldedSetIterable iter X.env x = pure x := by intro _; rfl) : WE Z X (.ListComp elt [⟨tg, iter, [c], 0⟩] scope pos) env PR :=
  we_of (pe_lc (own := own) hc hN (pi_I (Z := Z)) ok hg (fun s H C cl fp => pts_one (pt_TB (Z := Z) s H C cl fp)) (pe_AB (Z := Z)) hs) fun σ H F O b o =>
    lc_read gk hix (fun σ H F O env k Q b o t q => ⟨env, F, O, k, b, o, t, fun v H' ⟨F1, O1, e1, b1, o1, fr1, p⟩ => q v H' F1 O1 e1 b1 o1 fr1 p⟩) b o h
end
end QL

/-! QF: what a def promises, over data; its body; its calls. -/
namespace QL
open PySem PySem.Spec PyProof.Rows L2

inductive StV (F H : Hp) : List Addr → List V → List T → Prop
  | nil : StV F H [] [] []
  | cons {O1 O2 : List Addr} {v : V} {t : T} {vs : List V} {ts : List T} : Ow F H O1 v t → StV F H O2 vs ts → StV F H (O1 ++ O2) (v :: vs) (t :: ts)
inductive StVO (F H : Hp) : List Addr → List V → List (Option T) → Prop
  | nil : StVO F H [] [] []
  | un {O2 : List Addr} {v : V} {vs : List V} {ts : List (Option T)} : StVO F H O2 vs ts → StVO F H O2 (v :: vs) (none :: ts)
  | cons {O1 O2 : List Addr} {v : V} {t : T} {vs : List V} {ts : List (Option T)} : Ow F H O1 v t → StVO F H O2 vs ts → StVO F H (O1 ++ O2) (v :: vs) (some t :: ts)
theorem StV.len {F H : Hp} : ∀ {O : List Addr} {vs : List V} {ts : List T}, StV F H O vs ts → vs.length = ts.length
  | _, _, _, .nil => rfl
  | _, _, _, .cons _ r => congrArg (· + 1) r.len

/-- an error: its class, its fields -/
structure Ex where
  C : Addr
  fs : List (Str × D)
inductive RpF (F : Hp) : List (Str × V) → List (Str × D) → Prop
  | nil : RpF F [] []
  | cons {n : Str} {v : V} {d : D} {vs : List (Str × V)} {ds : List (Str × D)} : Rp F v d → RpF F vs ds → RpF F ((n, v) :: vs) ((n, d) :: ds)
theorem RpF.mono {F F' : Hp} (s : Same F F') : ∀ {v : List (Str × V)} {d : List (Str × D)}, RpF F v d → RpF F' v d
  | _, _, .nil => .nil
  | _, _, .cons h r => .cons (h.mono s) (RpF.mono s r)
def ExAt (F : Hp) (ex : Ex) (cls : Value) (d : Option Addr) : Prop := cls = .ref ex.C ∧ ((d = none ∧ ex.fs = []) ∨ ∃ dd vfs, d = some dd ∧ F dd = some (.xd vfs) ∧ RpF F vfs ex.fs)

/-- what a def promises: its arguments; what is wanted of its answer and of what the arguments hold then; of an error -/
abbrev Spc := List T → (T → List (Option T) → Prop) → (Ex → List (Option T) → Prop) → Prop
structure FnG (P : Program) (w : World) (K : PySem.W.Frag) (mg : Str → Option Value) (base : Heap) (Tq : List (Addr × Str)) (k : Nat) (f : Addr) (fd : FuncData) (ps : List Str) (sp : Spc) : Prop where
  len : ∀ ts Q E, sp ts Q E → ts.length = ps.length
  run : ∀ (A : Around) (outer : List PySem.Env) (s : Shared) (H : Hp) (args : Args) (us : List Value) (vs : List V) (F : Hp) (O : List Addr) (ts : List T) (QT : T → List (Option T) → Prop) (ET : Ex → List (Option T) → Prop) (E : XK) (tbs : TabZ Tq H F O),
    Room k A → A.guards = some [] → Env0 P w K mg base A outer s H → BindsTo s fd args (ps.zip us) → Vals vs us → Bas ⟨H, F, O, tbs⟩ F H O → StV F H O vs ts → sp ts QT ET →
    (∀ ex ts' cls d H' F' O', Bas ⟨H, F, O, tbs⟩ F' H' O' → StVO F' H' O' vs ts' → ExAt F' ex cls d → ET ex ts' → E cls d H') →
    codeAny (model P w) A (.call (.ref f) args) (CR (L2.CX P w) outer P w H s (fun v H' => ∃ F' O1 O2 t ts', Bas ⟨H, F, O, tbs⟩ F' H' (O1 ++ O2) ∧ StVO F' H' O1 vs ts' ∧ Ow F' H' O2 v t ∧ QT t ts') E) s
theorem FnG.mono {P : Program} {w : World} {K : PySem.W.Frag} {mg : Str → Option Value} {base : Heap} {Tq : List (Addr × Str)} {j k : Nat} {f : Addr} {fd : FuncData} {ps : List Str} {sp : Spc} (G : FnG P w K mg base Tq j f fd ps sp) (h : j ≤ k) : FnG P w K mg base Tq k f fd ps sp :=
  ⟨G.len, fun A outer s H args us vs F O ts QT ET E tbs hr => G.run A outer s H args us vs F O ts QT ET E tbs (hr.mono h)⟩

/-! ### the arguments taken, and put back -/
def deref : List A → Env → (List T → Env → Prop) → Prop
  | [], env, k => k [] env
  | .va d :: as, env, k => deref as env fun ts e => k (.va d :: ts) e
  | .bor a i p :: as, env, k => match getP i p env with
    | some t => t.addr = some a ∧ deref as (setP i p (.hole a) env) fun ts e => k (t :: ts) e
    | none => False
def putb : List A → List (Option T) → Env → (Env → Prop) → Prop
  | [], _, env, k => k env
  | .va _ :: as, _ :: ts, env, k => putb as ts env k
  | .bor a i p :: as, some t :: ts, env, k => getP i p env = some (.hole a) ∧ t.addr = some a ∧ putb as ts (setP i p t env) k
  | _, _, _, _ => False
theorem deref_ok {σ : L2.St} {F H : Hp} : ∀ {as : List A} {vs : List V} {O : List Addr} {env : Env} {k : List T → Env → Prop}, StAs F vs as → OwE F H O σ env → deref as env k →
    ∃ ts e Oc Or, O.Perm (Oc ++ Or) ∧ StV F H Oc vs ts ∧ OwE F H Or σ e ∧ k ts e
  | [], _, O, env, k, .nil, o, h => ⟨[], env, [], O, List.Perm.refl _, .nil, o, h⟩
  | .va d :: as, _, O, env, k, .cons st r, o, h => by
    obtain ⟨ts, e, Oc, Or, p, s, o', q⟩ := deref_ok r o h
    exact ⟨.va d :: ts, e, [] ++ Oc, Or, p, .cons (.va st) s, o', q⟩
  | .bor a i p :: as, _, O, env, k, .cons st r, o, h => by
    unfold deref at h
    cases hg : getP i p env with
    | none => rw [hg] at h; exact h.elim
    | some t =>
      rw [hg] at h
      obtain ⟨w, ⟨Oj, O', h1, h2, h3⟩, _⟩ := o.focus hg
      have hw := h1.ref h.1
      have st : _ = V.ref a := st
      subst st hw
      obtain ⟨O'', q1, q2⟩ := h3 F H [] (.hole a) (Same.refl _) (fun _ _ => rfl) .hole
      obtain ⟨ts, e, Oc, Or, p', s, o', q⟩ := deref_ok r q1 h.2
      refine ⟨t :: ts, e, Oj ++ Oc, Or, ?_, .cons h1 s, o', q⟩
      rw [List.append_assoc]
      exact h2.trans ((q2.symm.trans p').append_left Oj)
theorem putb_ok {σ : L2.St} {F F0 H : Hp} : ∀ {as : List A} {vs : List V} {ts : List (Option T)} {Oc Or : List Addr} {env : Env} {k : Env → Prop}, StAs F0 vs as → StVO F H Oc vs ts → OwE F H Or σ env → putb as ts env k →
    ∃ e O3 Od, OwE F H O3 σ e ∧ (Oc ++ Or).Perm (O3 ++ Od) ∧ k e
  | [], _, _, _, Or, env, k, .nil, .nil, o, h => ⟨env, Or, [], o, by rw [List.append_nil]; exact List.Perm.refl _, h⟩
  | .va d :: as, _, _, _, Or, env, k, .cons _ r, .un s, o, h => by
    obtain ⟨e, O3, Od, o', p, q⟩ := putb_ok r s o h
    exact ⟨e, O3, Od, o', p, q⟩
  | .va d :: as, _, _, _, Or, env, k, .cons _ r, .cons (O1 := O1) (O2 := O2) _ s, o, h => by
    obtain ⟨e, O3, Od, o', p, q⟩ := putb_ok r s o h
    refine ⟨e, O3, O1 ++ Od, o', ?_, q⟩
    rw [List.append_assoc, ← List.append_assoc O3]
    exact (p.append_left O1).trans (by rw [← List.append_assoc]; exact List.perm_append_comm.append_right Od)
  | .bor a i p :: as, _, _, _, Or, env, k, .cons st r, .un s, o, h => h.elim
  | .bor a i p :: as, _, _, _, Or, env, k, .cons st r, .cons (O1 := O1) (O2 := O2) w s, o, h => by
    obtain ⟨hg, ha, h⟩ := h
    obtain ⟨w', ⟨Oj, O', h1, h2, h3⟩, _⟩ := o.focus hg
    have st : _ = V.ref a := st
    subst st
    cases h1
    obtain ⟨O'', q1, q2⟩ := h3 F H O1 _ (Same.refl _) (fun _ _ => rfl) w
    obtain ⟨e, O3, Od, o', p', q⟩ := putb_ok r s q1 h
    refine ⟨e, O3, Od, o', ?_, q⟩
    refine List.Perm.trans ?_ p'
    have e1 : (O2 ++ O'').Perm (O2 ++ (O1 ++ Or)) := (q2.trans (h2.symm.append_left O1 |>.trans (List.Perm.refl _))).append_left O2
    refine List.Perm.trans ?_ e1.symm
    rw [← List.append_assoc]
    exact List.perm_append_comm.append_right Or
def callD (sp : Spc) (as : List A) (env : Env) (PT : T → Env → Prop) (ET : Ex → Env → Prop) : Prop :=
  deref as env fun ts e2 => sp ts (fun t ts' => putb as ts' e2 fun e3 => PT t e3) (fun ex ts' => putb as ts' e2 fun e3 => ET ex e3)
/-- what is wanted of an error, with the slots -/
def wxOf {Tq : List (Addr × Str)} (Z : Zb Tq) (ET : Ex → Env → Prop) : WX := fun cls d σ H => ∃ F O env ex, Bas Z F H O ∧ OwE F H O σ env ∧ ExAt F ex cls d ∧ ET ex env

section
variable {Tq : List (Addr × Str)} {Z : Zb Tq} {X : Cx} {env : Env} {P : R → Env → Prop} {ET : Ex → Env → Prop}
theorem call_g {k : Nat} {f : Addr} {fd : FuncData} {ps : List Str} {sp : Spc} {as : List A} {vs : List V} {us us0 : List Value} {kw : List (Str × Value)} {pins : List (Addr × Obj)} {s : Shared} {σ : L2.St} {H F : Hp} {O : List Addr}
    (G : FnG X.prog X.w X.K X.mg X.base Tq k f fd ps sp) (hr : Room k X.A) (hg : X.A.guards = some []) (tk : Takes X (wxOf Z ET)) (hb : BindsTo s fd ⟨us0, kw⟩ (ps.zip us)) (I : Inv X pins σ H s) (b : Bas Z F H O) (o : OwE F H O σ env)
    (st : StAs F vs as) (r : Vals vs us) (h : callD sp as env (fun t e => P (.t t) e) ET) : wpAny (model X.prog X.w) X.A (call (.ref f) us0 kw) (EP X pins σ (Post Z σ H F O P)) X.xe s := by
  obtain ⟨ts, e2, Oc, Or, pm, sv, o2, h⟩ := deref_ok st o h
  have bc := (b.perm pm).left.entry
  have ex : ∀ c ∈ Or, Held H c := o2.held
  refine wpAny_call (codeAny_mono (G.run X.A X.stack s H ⟨us0, kw⟩ us vs F Oc ts _ _ (fun cls d H' => ∃ e ts' F' O', Bas ⟨H, F, Oc, (b.perm pm).left.tabs⟩ F' H' O' ∧ StVO F' H' O' vs ts' ∧ ExAt F' e cls d ∧ putb as ts' e2 fun e3 => ET e e3) (b.perm pm).left.tabs hr hg I.env0 hb r bc sv h
    fun e ts' cls d H' F' O' b' s' x' q => ⟨e, ts', F', O', b', s', x', q⟩) fun rs s' hq => ?_)
  have back : ∀ {F' H' : Hp} {O1 O2 : List Addr} {ts' : List (Option T)} {kk : Env → Prop}, Bas ⟨H, F, Oc, (b.perm pm).left.tabs⟩ F' H' (O1 ++ O2) → StVO F' H' O1 vs ts' → putb as ts' e2 kk →
      ∃ e3 O3, OwE F' H' O3 σ e3 ∧ Bas Z F' H' (O3 ++ O2) ∧ Frm Tq H F O H' F' (O3 ++ O2) ∧ kk e3 := fun {F' H' O1 O2 ts' kk} b' s' q => by
    have fr := b'.abs
    have b3 := Bas.frame fr (b.perm pm) b' ex
    have keep := fr.rest (R := Or) (pm.nodup b.nd) ex
    obtain ⟨e3, O3, Od, o3, p3, q3⟩ := putb_ok st s' (o2.stay fr.fz keep) q
    have p4 : ((O1 ++ O2) ++ Or).Perm ((O3 ++ O2) ++ Od) := by
      have e1 : ((O1 ++ O2) ++ Or).Perm ((O1 ++ Or) ++ O2) := by
        rw [List.append_assoc, List.append_assoc]
        exact List.perm_append_comm.append_left O1
      have e2 : ((O3 ++ O2) ++ Od).Perm ((O3 ++ Od) ++ O2) := by
        rw [List.append_assoc, List.append_assoc]
        exact List.perm_append_comm.append_left O3
      exact e1.trans ((p3.append_right O2).trans e2.symm)
    exact ⟨e3, O3, o3, (b3.perm p4).left, (fr.frame (R := Or)).perm (fun c => pm.symm.mem_iff) (fun c hc => p4.mem_iff.mpr (List.mem_append_left _ hc)), q3⟩
  cases rs with
  | error e =>
    refine tk e s' (XE.of_call I (fun cls d H' hE => ?_) hq)
    obtain ⟨x, ts', F', O', b', sv', xa, q⟩ := hE
    obtain ⟨e3, O3, o3, b3, fr3, q3⟩ := back (O2 := []) (by rw [List.append_nil]; exact b') sv' q
    rw [List.append_nil] at b3 fr3
    exact ⟨F', O3, e3, x, b3, o3, xa, q3⟩
  | ok fl =>
    cases fl with
    | ret u =>
      refine EP.imp (fun v H' q => ?_) u s' (I.after hq)
      obtain ⟨F', O1, O2, t, ts', b', sv', w', q⟩ := q
      obtain ⟨e3, O3, o3, b3, fr3, q3⟩ := back b' sv' q
      exact ⟨F', O3 ++ O2, .t t, e3, b3, ⟨O3, O2, rfl, o3, w'⟩, fr3, q3⟩
    | next => exact hq.elim
    | brk => exact hq.elim
    | cont => exact hq.elim

/-! ### f(a, ..), f(a, .., k = b, ..) -/
/-- the parameters in their order, from what is written by place (us) and by name (ws, names ks): g and its twins over data -/
structure KwB (K : PySem.W.Frag) (fd : FuncData) (ps ks : List Str) (n m : Nat) (g : {α : Type} → List α → List α → (List α)) (ds : List Value) (dds : List D) : Prop where
  to : ∀ (s : Shared) (us ws : List Value), K.In s.heap → us.length = n → ws.length = m → BindsTo s fd ⟨us, ks.zip ws⟩ (ps.zip (g us ws ++ ds))
variable {x : Str} {p pos : Pos} {e : Expr} {es : List Expr}
def vaAll (ds : List D) : List A := ds.map A.va
theorem w_call {k : Nat} {f : Addr} {fd : FuncData} {ps : List Str} {sp : Spc} {ds : List Value} {vds : List V} {dds : List D} (G : FnG X.prog X.w X.K X.mg X.base Tq k f fd ps sp) (hr : Room k X.A) (hgd : X.A.guards = some []) (tk : Takes X (wxOf Z ET))
    (hm : X.mg x = some (.ref f)) (hk : PySem.W.keepIn X.K (.ref f) = true) (hb : Binds X.K fd ps ds) (hd : Vals vds ds) (hdd : ∀ F : Hp, StAs F vds (vaAll dds)) (h : WAs Z X (e :: es) env fun as e1 => callD sp (as ++ vaAll dds) e1 (fun t e => P (.t t) e) ET)
    (hg : Gl X x := by rfl) (hdb : (x == ("__debug__" : Str)) = false := by decide) (he : starEach (e :: es) X.env = (false, eval e X.env) :: starEach es X.env := by rfl) (hpl : (backTo pos (starEach es X.env)).any (·.1) = false := by rfl) :
    WE Z X (.Call (.Name x p) (e :: es) [] pos) env P := fun pins s σ H F O I b o => by
  refine wpAny_Call_Name_kw (ld_glob I hg hm ?_ hdb)
  refine PySem.W.callWith_K (h₀ := X.base) I.ok.mod.kin hk (thn ((pa_As (Z := Z)).run pos pins s σ H (PostAs Z σ H F O _) I ⟨env, F, O, _, b, o, h, fun _ _ q => q⟩) fun us s1 ⟨vs, H1, I1, r, F1, O1, as, e1, b1, o1, st, fr, q⟩ => ⟨I1.kIn, ?_⟩) he hpl
  have sapp : ∀ {vs : List V} {as : List A}, StAs F1 vs as → StAs F1 (vs ++ vds) (as ++ vaAll dds) := fun {vs as} z => by
    induction z with
    | nil => exact hdd F1
    | cons a _ ih => exact .cons a ih
  have r2 : Vals (vs ++ vds) (us ++ ds) := r.append hd
  have hl : (us ++ ds).length = ps.length := by
    obtain ⟨ts, e2, Oc, Or, pm, sv, o2, hh⟩ := deref_ok (sapp st) o1 q
    rw [← r2.length, sv.len, G.len _ _ _ hh]
  exact thn (call_g (us0 := us) (kw := []) (us := us ++ ds) G hr hgd tk (hb s1 us I1.kIn hl) I1 b1 o1 (sapp st) r2 q) (EP.imp fun v H' q => q.from fr)
theorem w_call0 {k : Nat} {f : Addr} {fd : FuncData} {ps : List Str} {sp : Spc} {ds : List Value} {vds : List V} {dds : List D} (G : FnG X.prog X.w X.K X.mg X.base Tq k f fd ps sp) (hr : Room k X.A) (hgd : X.A.guards = some []) (tk : Takes X (wxOf Z ET))
    (hm : X.mg x = some (.ref f)) (hk : PySem.W.keepIn X.K (.ref f) = true) (hb : Binds X.K fd ps ds) (hd : Vals vds ds) (hdd : ∀ F : Hp, StAs F vds (vaAll dds)) (h : callD sp (vaAll dds) env (fun t e => P (.t t) e) ET)
    (hg : Gl X x := by rfl) (hdb : (x == ("__debug__" : Str)) = false := by decide) : WE Z X (.Call (.Name x p) [] [] pos) env P := fun pins s σ H F O I b o => by
  refine wpAny_Call_Name_kw (ld_glob I hg hm ?_ hdb)
  have hl : ds.length = ps.length := by
    obtain ⟨ts, e2, Oc, Or, pm, sv, o2, hh⟩ := deref_ok (hdd F) o h
    rw [← hd.length, sv.len, G.len _ _ _ hh]
  exact PySem.W.callWith_K0 I.kIn hk (call_g (us0 := []) (kw := []) (us := ds) G hr hgd tk (hb s [] I.kIn hl) I b o (hdd F) hd h)
end

/-! ### a def's body -/
def startE (N : List Str) (ts : List T) : Env := ts.map some ++ List.replicate (N.length - ts.length) none
theorem StV.start {F H : Hp} {N : List Str} : ∀ {O : List Addr} {vs : List V} {ts : List T}, StV F H O vs ts → ∀ m, OwE F H O (vs.map some ++ List.replicate m none) (ts.map some ++ List.replicate m none)
  | _, _, _, .nil, m => by
    induction m with
    | zero => exact .nil
    | succ m ih => exact .un ih
  | _, _, _, .cons w r, m => .so w (r.start (N := N) m)
/-- what the parameters' slots hold at the end: what was handed in, as it is now -/
def back (ts : List T) (e : Env) (k : List (Option T) → Prop) : Prop := match ts, e with
  | t :: ts, u :: e => match t.addr with
    | none => back ts e fun r => k (none :: r)
    | some a => match u with
      | some u => u.addr = some a ∧ back ts e fun r => k (some u :: r)
      | none => False
  | _ :: _, [] => False
  | [], _ => k []
theorem back_ok {F F0 H0 H : Hp} : ∀ {O0 O : List Addr} {vs : List V} {ts : List T} {σ : L2.St} {e : Env} {k : List (Option T) → Prop}, StV F0 H0 O0 vs ts → OwE F H O σ e → back ts e k → ∃ O' Od ts', O.Perm (O' ++ Od) ∧ StVO F H O' vs ts' ∧ k ts'
  | _, O, _, _, _, _, k, .nil, o, h => ⟨[], O, [], List.Perm.refl _, .nil, by unfold back at h; exact h⟩
  | _, _, _, _, _, _, k, .cons w0 r0, .nil, h => h.elim
  | _, _, _, _, _, _, k, .cons (t := t0) w0 r0, .un r, h => by
    unfold back at h
    cases h0 : t0.addr with
    | none =>
      rw [h0] at h
      obtain ⟨O', Od, ts', p, s, q⟩ := back_ok r0 r h
      exact ⟨O', Od, _, p, .un s, q⟩
    | some a => rw [h0] at h; exact h.elim
  | _, _, _, _, _, _, k, .cons (t := t0) w0 r0, .so (O1 := O1) (t := t) w r, h => by
    unfold back at h
    cases h0 : t0.addr with
    | none =>
      rw [h0] at h
      obtain ⟨O', Od, ts', p, s, q⟩ := back_ok r0 r h
      refine ⟨O', O1 ++ Od, _, ?_, .un s, q⟩
      exact (p.append_left O1).trans (by rw [← List.append_assoc, ← List.append_assoc]; exact List.perm_append_comm.append_right Od)
    | some a =>
      rw [h0] at h
      obtain ⟨O', Od, ts', p, s, q⟩ := back_ok r0 r h.2
      have e1 := w0.ref h0
      have e2 := w.ref h.1
      subst e1 e2
      exact ⟨O1 ++ O', Od, _, by rw [List.append_assoc]; exact p.append_left O1, .cons w s, q⟩
def finP (QT : T → List (Option T) → Prop) (ts : List T) : Out → Prop
  | .ret t e => back ts e (QT t)
  | .nx e => back ts e (QT (.va .none))
  | _ => False
/-- the context of a def's body -/
abbrev BX (P : Program) (w : World) (K : PySem.W.Frag) (mg : Str → Option Value) (base : Heap) (N : List Str) (qual : Str) (st : Stmt) (f : Addr) (cdv : Value) (A : Around) (outer : List PySem.Env) (s : Shared) (H : Hp) (E : XK) : Cx :=
  cxOf (L2.CX P w) P w K mg base N qual (defScope st) f cdv A outer s H E
theorem fn_g {P : Program} {w : World} {K : PySem.W.Frag} {mg : Str → Option Value} {base : Heap} {Tq : List (Addr × Str)} {x qual : Str} {st : Stmt} {f : Addr} {fd : FuncData} {N ps : List Str} {k : Nat} {sp : Spc} (Fn : Fun K x qual st f fd) (S : FnScope N ps (defScope st)) (len : ∀ ts Q E, sp ts Q E → ts.length = ps.length)
    (hbody : ∀ (cdv : Value) (A : Around) (outer : List PySem.Env) (s : Shared) (H : Hp) (E : XK) (Z : Zb Tq) (ts : List T) (QT : T → List (Option T) → Prop) (ET : Ex → List (Option T) → Prop), Room k (BX P w K mg base N qual st f cdv A outer s H E).A → (BX P w K mg base N qual st f cdv A outer s H E).A.guards = some [] →
      PassesOwn (model P w) (BX P w K mg base N qual st f cdv A outer s H E).A (BX P w K mg base N qual st f cdv A outer s H E).env (BX P w K mg base N qual st f cdv A outer s H E).xe →
      Takes (BX P w K mg base N qual st f cdv A outer s H E) (wxOf Z fun ex e => back ts e (ET ex)) → sp ts QT ET → WSs Z (BX P w K mg base N qual st f cdv A outer s H E) (defBody st) (startE N ts) (finP QT ts)) : FnG P w K mg base Tq (k + 1) f fd ps sp := by
  obtain ⟨oc, od, kV, doc, pm, an, cdv, ct, osl, rfl, lk, hcd⟩ := Fn.ex
  refine ⟨len, fun A outer s H args us vs F O ts QT ET E tbs hr hg e0 hb r b sv hsp hE => ?_⟩
  have hl : vs.length = ps.length := sv.len.trans (len _ _ _ hsp)
  refine Att.call_fn (e0.mod.kin.keeps fun b o e => (e0.bs b o e).1) (e0.mod.nolimit.keeps fun b o e => (e0.bs b o e).1) lk hcd hr.depth hb ?_ (fun s1 ic => ?_) S.co S.gen S.kind
  · refine List.all_eq_true.mpr fun y hy => ?_
    rcases S.par y.1 (List.of_mem_zip hy).1 with q | q <;> rw [q] <;> rfl
  · have I : Inv (BX P w K mg base N qual st f cdv A outer s H E) [] (L2.start N vs) H s1 := inv_start S hr.hd e0 hl r ic
    have tk : Takes (BX P w K mg base N qual st f cdv A outer s H E) (wxOf ⟨H, F, O, tbs⟩ fun ex e => back ts e (ET ex)) := by
      refine (takes_of (X := BX P w K mg base N qual st f cdv A outer s H E) (E := E) rfl rfl rfl rfl).imp fun cls d σ H' ⟨F', O', env, ex, b', o', xa, q⟩ => ?_
      obtain ⟨O1, Od, ts', p1, s1, q⟩ := back_ok sv o' q
      exact hE ex _ cls d H' F' O1 (b'.perm p1).left s1 xa q
    have hgd : (BX P w K mg base N qual st f cdv A outer s H E).A.guards = some [] := hg
    have body := hbody cdv A outer s H E ⟨H, F, O, tbs⟩ ts QT ET (hr.deeper _) hgd (passes_of (X := BX P w K mg base N qual st f cdv A outer s H E) rfl) tk hsp
    have o0 : OwE F H O (L2.start N vs) (startE N ts) := by
      unfold L2.start startE
      rw [sv.len]
      exact sv.start (N := N) _
    refine wpAny_mono (body [] s1 (L2.start N vs) H F O I b o0) (fun fl s' hs => ?_) fun e s' hs => hs
    have fin : ∀ {σ' : L2.St} {H' F' : Hp} {O1 O2 : List Addr} {t : T} {e : Env} {v : V} {u : Value}, Inv (BX P w K mg base N qual st f cdv A outer s H E) [] σ' H' s' → RelV v u → Bas ⟨H, F, O, tbs⟩ F' H' (O1 ++ O2) → (∃ σ'', OwE F' H' O1 σ'' e) → Ow F' H' O2 v t → back ts e (QT t) →
        CE outer P w H s (fun v H' => ∃ F' O1 O2 t ts', Bas ⟨H, F, O, tbs⟩ F' H' (O1 ++ O2) ∧ StVO F' H' O1 vs ts' ∧ Ow F' H' O2 v t ∧ QT t ts') u s' := fun {σ' H' F' O1 O2 t e v u} J rv b' ⟨σ'', o'⟩ w' q => by
      obtain ⟨O3, Od, ts', p3, s3, q⟩ := back_ok sv o' q
      refine ⟨v, H', J.os, J.bare, J.base, J.hok, rv, F', O3, O2, t, _, ?_, s3, w', q⟩
      have p4 : (O1 ++ O2).Perm ((O3 ++ O2) ++ Od) := (p3.append_right O2).trans (by
        rw [List.append_assoc, List.append_assoc]
        exact List.perm_append_comm.append_left O3)
      exact (b'.perm p4).left
    cases fl with
    | ret u =>
      obtain ⟨v, σ', H', J, rv, F', O1, O2, σ'', t, e, b', o', w', _, q⟩ := hs
      exact fin J rv b' ⟨σ'', o'⟩ w' q
    | next =>
      obtain ⟨σ', H', J, F', O1, e, b', o', _, q⟩ := hs
      exact fin (v := V.non) (u := Value.none) (t := .va .none) (O2 := []) J rfl (by rw [List.append_nil]; exact b') ⟨_, o'⟩ (.va .non) q
    | brk =>
      obtain ⟨_, _, _, _, _, _, _, _, _, q⟩ := hs
      exact q.elim
    | cont =>
      obtain ⟨_, _, _, _, _, _, _, _, _, q⟩ := hs
      exact q.elim
end QL

/-! QG: subscripts, slices, items stored, pairs stored, calls of built-ins. -/
namespace QL
open PySem PySem.Spec PyProof.Rows L2

theorem mutL {Tq : List (Addr × Str)} {Z : Zb Tq} {F H : Hp} {O : List Addr} {σ : L2.St} {env : Env} {i : Nat} {p : List Str} {a : Addr} {ds : List D} (b : Bas Z F H O) (o : OwE F H O σ env) (hg : getP i p env = some (.lst a ds)) :
    ∃ xs, H a = some (.lst xs) ∧ RpA F xs ds ∧ ∀ ys es, RpA F ys es → ∃ O', Bas Z F (upd H a (.lst ys)) O' ∧ OwE F (upd H a (.lst ys)) O' σ (setP i p (.lst a es) env) ∧ Frm Tq H F O (upd H a (.lst ys)) F O' := by
  obtain ⟨w, ⟨Oj, O', h1, h2, h3⟩, _⟩ := o.focus hg
  cases h1 with
  | lst hH r =>
    refine ⟨_, hH, r, fun ys es r' => ?_⟩
    have nd := h2.nodup b.nd
    have ha : a ∈ O := h2.mem_iff.mpr (List.mem_append_left _ (List.mem_singleton.mpr rfl))
    have hn : ∀ c ∈ O', c ≠ a := fun c hc z => (List.nodup_append.mp nd).2.2 a (List.mem_singleton.mpr rfl) c hc z.symm
    obtain ⟨O'', q1, q2⟩ := h3 F (upd H a (.lst ys)) [a] (.lst a es) (Same.refl _) (fun c hc => upd_ne (hn c hc)) (.lst upd_same r')
    have pm : O.Perm O'' := h2.trans q2.symm
    have fr : Frm Tq H F O (upd H a (.lst ys)) F O'' := ⟨Same.refl _, fun c x e _ n => by rw [upd_ne fun z => n (by rw [z]; exact ha)]; exact e, fun c e => by
      by_cases z : c = a
      · subst z; rw [upd_same]; exact fun z => nomatch z
      · rw [upd_ne z]; exact e, fun c e => .inl e, fun c hc => .inl (pm.mem_iff.mpr hc), tab_own hH⟩
    have da := b.dis a ha
    refine ⟨O'', ⟨fun c x e => ?_, pm.nodup b.nd, fun c hc => b.dis c (pm.mem_iff.mpr hc), b.abs.trans fr⟩, q1, fr⟩
    rw [upd_ne fun z => by rw [z, da] at e; cases e]
    exact b.sub c x e

/-! ### subscripts -/
theorem RpA.at {F : Hp} {xs : List V} {ds : List D} {i : Int} {d : D} (r : RpA F xs ds) (h : atI ds i = some d) : ∃ v, atI xs i = some v ∧ Rp F v d := by
  unfold atI at h ⊢
  rw [r.len]
  cases hn : ixN ds.length i with
  | none => rw [hn] at h; cases h
  | some j => rw [hn] at h; exact r.get' h
def ixD (d1 d2 : D) (k : T → Prop) : Prop := match d1, d2 with
  | .list xs, .int i => ∃ d, atI xs i = some d ∧ k (.va d)
  | .tuple xs, .int i => ∃ d, atI xs i = some d ∧ k (.va d)
  | _, _ => False
section
variable {Tq : List (Addr × Str)} {Z : Zb Tq} {X : Cx} {e a b c o ix : Expr} {es : List Expr} {env : Env} {pos : Pos} {P : R → Env → Prop} {PO : Out → Prop}
theorem ixr : IxR X (rD ixD) := fun value slice pins s σ H x y v u Q I rx ry ⟨F, d1, d2, k, sF, w1, w2, hg, q⟩ hs => by
  refine ix_seq value slice pins s σ H x y v u Q I rx ry ?_ hs
  cases d1 with
  | list xs =>
    cases d2 with
    | int i =>
      obtain ⟨p, vs, rfl, h1, r1⟩ := w1.lst' sF
      cases w2.int
      obtain ⟨d, h3, h4⟩ := hg
      obtain ⟨z, h5, h6⟩ := r1.at h3
      exact .inl ⟨p, vs, i, z, rfl, rfl, SqL.of h1, h5, q _ _ (NewV.val sF h6 h4)⟩
    | _ => exact hg.elim
  | tuple xs =>
    cases d2 with
    | int i =>
      obtain ⟨p, vs, rfl, h1, r1⟩ := w1.tup
      cases w2.int
      obtain ⟨d, h3, h4⟩ := hg
      obtain ⟨z, h5, h6⟩ := r1.at h3
      exact .inr (.inl ⟨p, vs, i, z, rfl, rfl, SqT.of (sF _ _ h1), h5, q _ _ (NewV.val sF h6 h4)⟩)
    | _ => exact hg.elim
  | _ => exact hg.elim
theorem w_ix (h : W2 Z X a b env fun d1 d2 e2 => ixD d1 d2 fun t => P (.t t) e2) (hs : PlainIx b := by intro _ _; rfl) : WE Z X (.Subscript a b pos) env P :=
  we_of (pe_ix ixr pe_A pe_A hs) fun σ H F O b0 o => w2_run b0 o h
/-- a slice's part -/
def PostO {Tq : List (Addr × Str)} (Z : Zb Tq) (σ : L2.St) (H0 F0 : Hp) (O0 : List Addr) (P : Option Int → Env → Prop) : Option Int → Hp → Prop := fun k H => ∃ F O env, Bas Z F H O ∧ OwE F H O σ env ∧ Frm Tq H0 F0 O0 H F O ∧ P k env
def WO {Tq : List (Addr × Str)} (Z : Zb Tq) (X : Cx) : Option Expr → Env → (Option Int → Env → Prop) → Prop
  | none, env, k => k none env
  | some e, env, k => WE Z X e env fun r e1 => ∃ i, r = .t (.va (.int i)) ∧ k (some i) e1
def tO {Tq : List (Addr × Str)} (Z : Zb Tq) (X : Cx) (e : Option Expr) : TO := fun σ H Q => ∃ env F O P, Bas Z F H O ∧ OwE F H O σ env ∧ WO Z X e env P ∧ ∀ v H', PostO Z σ H F O P v H' → Q v H'
theorem post_int {σ : L2.St} {H F0 H0 : Hp} {O0 : List Addr} {K : Int → Env → Prop} {v : V} (h : Post Z σ H0 F0 O0 (fun r e1 => ∃ k, r = .t (.va (.int k)) ∧ K k e1) v H) :
    ∃ k F O env, v = .int k ∧ Bas Z F H O ∧ OwE F H O σ env ∧ Frm Tq H0 F0 O0 H F O ∧ K k env := by
  obtain ⟨F1, O1, r, env1, b1, st, fr1, k, e1, h1⟩ := h
  subst e1
  obtain ⟨O1', O2, rfl, o1, ow⟩ := st
  cases ow with
  | va r =>
    cases r with
    | int k =>
      rw [List.append_nil] at b1 fr1
      exact ⟨k, F1, O1', env1, rfl, b1, o1, fr1, h1⟩
theorem po_O : ∀ {e : Option Expr}, L2.PO X e (tO Z X e)
  | none => ⟨fun pins s σ H Q I ⟨env, F, O, P, b, o, w, q⟩ => po_none.run pins s σ H Q I (q _ _ ⟨F, O, env, b, o, Frm.refl _ _ _, w⟩)⟩
  | some e => ⟨fun pins s σ H Q I ⟨env, F, O, P, b, o, w, q⟩ => (po_some (pe_E (Z := Z))).run pins s σ H Q I ⟨env, F, O, _, b, o, w, fun v H1 h => by
      obtain ⟨k, F1, O1, e1, rfl, b1, o1, fr, p⟩ := post_int h
      exact ⟨k, rfl, q _ _ ⟨F1, O1, e1, b1, o1, fr, p⟩⟩⟩⟩
def cutD (xs : List D) (lo hi : Option Int) : List D := (xs.drop (HT.sIx xs.length 0 lo)).take (HT.sIx xs.length xs.length hi - HT.sIx xs.length 0 lo)
theorem RpA.cut {F : Hp} {vs : List V} {ds : List D} (r : RpA F vs ds) (lo hi : Option Int) : RpA F (cutV vs lo hi) (cutD ds lo hi) := by
  unfold cutV cutD
  rw [r.len]
  exact (r.drop _).take _
def slD (d : D) (lo hi : Option Int) (k : T → Prop) : Prop := match d with
  | .list xs => ∀ p, k (.lst p (cutD xs lo hi))
  | .tuple xs => k (.va (.tuple (cutD xs lo hi)))
  | _ => False
def rSlD : V → Option Int → Option Int → Hp → VK → Prop := fun x lo hi H Q => ∃ F d k, Same F H ∧ Vw F H x d ∧ slD d lo hi k ∧ ∀ v H', NewV F H k v H' → Q v H'
theorem slr : SlR X rSlD := fun pins s σ H x v vl vu lo hi sl Q I rx hs pl pu ⟨F, d, k, sF, w, hg, q⟩ => by
  cases d with
  | list xs =>
    obtain ⟨p, vs, rfl, h1, r1⟩ := w.lst' sF
    exact sl_list pins s σ H _ v vl vu lo hi sl Q I rx hs pl pu ⟨p, vs, rfl, SqL.of h1, fun p' hp' => q _ _ (NewV.lst sF (r1.cut lo hi) hp' (hg p'))⟩
  | tuple xs =>
    obtain ⟨p, vs, rfl, h1, r1⟩ := w.tup
    refine sl_tupA pins s σ H _ v vl vu lo hi sl Q I rx hs pl pu ⟨p, vs, rfl, SqT.of (sF _ _ h1), fun hw => ?_, fun _ p' hp' => q _ _ (NewV.tup sF (r1.cut lo hi) hp' hg)⟩
    have hx : cutD xs lo hi = xs := by
      unfold cutD
      rw [← r1.len, hw.1, hw.2, List.drop_zero, r1.len, Nat.sub_zero, List.take_length]
    unfold slD at hg
    simp only [hx] at hg
    exact q _ _ (NewV.val sF (.tup h1 r1) hg)
  | _ => exact hg.elim
theorem w_sl {lo hi : Option Expr} {p2 : Pos} (h : WA Z X a env fun a1 e1 => WO Z X lo e1 fun l e2 => WO Z X hi e2 fun u e3 => View a1 e3 fun d => slD d l u fun t => P (.t t) e3) : WE Z X (.Subscript a (.Slice lo hi none p2) pos) env P :=
  we_of (pe_slice slr pe_A po_O po_O) fun σ H F O b0 o => ⟨env, F, O, _, b0, o, h, fun v1 H1 ⟨F1, O1, a1, e1, b1, o1, st1, fr1, h1⟩ => ⟨e1, F1, O1, _, b1, o1, h1, fun l H2 ⟨F2, O2, e2, b2, o2, fr2, h2⟩ =>
    ⟨e2, F2, O2, _, b2, o2, h2, fun u H3 ⟨F3, O3, e3, b3, o3, fr3, h3⟩ => by
      obtain ⟨d, w, h4⟩ := View.vw h3 o3 (st1.mono (fr2.fz.trans fr3.fz))
      exact ⟨F3, d, _, b3.sub, w, h4, fun v H' n => (n.post b3 o3 fun t q => q).from ((fr1.trans fr2).trans fr3)⟩⟩⟩⟩

/-! ### an item stored -/
theorem ws_setix {sp : Pos} (h : WA Z X e env fun a1 e1 => WE Z X o e1 fun r e2 => ∃ a i p, r = .bor a i p ∧ WE Z X ix e2 fun r3 e3 => ∃ n, r3 = .t (.va (.int n)) ∧
      absorb [a1] e3 fun ds e4 => ∃ d ds0 j, ds = [d] ∧ getP i p e4 = some (.lst a ds0) ∧ ixN ds0.length n = some j ∧ PO (.nx (setP i p (.lst a (ds0.set j d)) e4)))
    (hs : swapsWithSole [.Subscript o ix sp] e pos.line X.env = pure false := by rfl) (hw : swappedStores [.Subscript o ix sp] e X.env = pure none := by rfl)
    (h1 : (assignEach [.Subscript o ix sp] X.env).map (·.2) = [assign (.Subscript o ix sp) X.env] := by rfl)
    (ha : ∀ v, assign (.Subscript o ix sp) X.env v = (do
      let ov ← holding [v] (eval o X.env)
      let iv ← holding [v, ov] (eval ix X.env)
      standAt sp
      holding [v, ov, iv] (setItem ov iv v)
      release [v, ov, iv] []) := by intro _; rfl) : WS Z X (.Assign [.Subscript o ix sp] e pos) env PO :=
  ws_of (ps_asg (pe_A (Z := Z)) (pg_sub (pe_E (Z := Z)) (pe_E (Z := Z)) set_list ha) hs hw h1) fun σ H F O b o => ⟨env, F, O, _, b, o, h, fun v H1 ⟨F1, O1, a1, e1, b1, o1, st1, fr1, p⟩ =>
    ⟨e1, F1, O1, _, b1, o1, p, fun ov H2 ⟨F2, O2, r, e2, b2, st2, fr2, a, i, q, er, p⟩ => by
      subst er
      obtain ⟨o2, eov⟩ := st2
      subst eov
      refine ⟨e2, F2, O2, _, b2, o2, p, fun iv H3 h3 => ?_⟩
      obtain ⟨n, F3, O3, e3, rfl, b3, o3, fr3, p⟩ := post_int h3
      obtain ⟨F4, O4, ds, e4, b4, o4, r4, fr4, d, ds0, j, hds, hg, hj, p⟩ := absorb_ok (.cons (st1.mono (fr2.fz.trans fr3.fz)) .nil) b3 o3 p
      subst hds
      cases r4 with
      | cons r4 rn =>
        obtain ⟨xs, hH, rx, upd'⟩ := mutL b4 o4 hg
        obtain ⟨O5, b5, o5, fr5⟩ := upd' (xs.set j v) (ds0.set j d) (rx.set r4 j)
        refine ⟨a, xs, n, j, rfl, rfl, hH, by rw [rx.len]; exact hj, ?_⟩
        exact ⟨F4, O5, _, b5, o5, (((fr1.trans fr2).trans fr3).trans fr4).trans fr5, p⟩⟩⟩

/-! ### x, y = e1, e2 -/
/-- two results, one after the other -/
def parP {Tq : List (Addr × Str)} (Z : Zb Tq) (X : Cx) (b : Expr) (i j : Nat) (k : Env → Prop) (r1 : R) (e1 : Env) : Prop := ∃ t1, r1 = .t t1 ∧ WE Z X b e1 fun r2 e2 => ∃ t2, r2 = .t t2 ∧ i < e2.length ∧ j < e2.length ∧ k ((e2.set i (some t1)).set j (some t2))
theorem ws_par (i j : Nat) {x y : Str} {px py pt : Pos} {kt k2 pt2} (hc : X.calm = true) (hN : X.N.Nodup) (h : WE Z X a env (parP Z X b i j fun e => PO (.nx e)))
    (hi : X.N[i]? = some x := by rfl) (hj : X.N[j]? = some y := by rfl) (hij : i ≠ j := by decide) (hx : X.env.scope.names.lookup x = some .local := by rfl) (hy : X.env.scope.names.lookup y = some .local := by rfl)
    (hw : swappedStores [.Tuple [.Name x px, .Name y py] kt pt] (.Tuple [a, b] k2 pt2) X.env = pure (some [x, y]) := by rfl)
    (hs : swapsWithSole [.Tuple [.Name x px, .Name y py] kt pt] (.Tuple [a, b] k2 pt2) pos.line X.env = pure false := by rfl) (hs1 : starEach [a, b] X.env = (false, eval a X.env) :: starEach [b] X.env := by rfl) (hs2 : starEach [b] X.env = (false, eval b X.env) :: starEach [] X.env := by rfl) :
    WS Z X (.Assign [.Tuple [.Name x px, .Name y py] kt pt] (.Tuple [a, b] k2 pt2) pos) env PO :=
  ws_of (ps_par hc hN hi hj hij hx hy (pa_cons (pe_E (Z := Z)) (pa_cons (pe_E (Z := Z)) pa_nil hs2) hs1) hw hs) fun σ H F O b0 o => by
    refine ⟨env, F, O, _, b0, o, h, fun v1 H1 ⟨F1, O1, r1, e1, b1, st1, fr1, t1, er1, p⟩ => ?_⟩
    subst er1
    obtain ⟨Oa, Ob, rfl, o1, w1⟩ := st1
    refine ⟨e1, F1, Oa, _, b1.left, o1, p, fun v2 H2 ⟨F2, O2, r2, e2, b2, st2, fr2, t2, er2, li, lj, p⟩ => ?_⟩
    subst er2
    obtain ⟨Oc, Od, rfl, o2, w2⟩ := st2
    have ex : ∀ c ∈ Ob, Held H1 c := w1.held
    have b3 := Bas.frame fr2 b1 b2 ex
    have w3 : Ow F2 H2 Ob v1 t1 := w1.stay fr2.fz (fr2.rest b1.nd ex)
    obtain ⟨O5, Oe, o5, p5⟩ := o2.set i w3 li
    obtain ⟨O6, Of, o6, p6⟩ := o5.set j w2 (by rw [List.length_set]; exact lj)
    have pm : ((Oc ++ Od) ++ Ob).Perm (O6 ++ (Of ++ Oe)) := by
      have z1 : ((Oc ++ Od) ++ Ob).Perm (Od ++ (Ob ++ Oc)) := by
        rw [List.append_assoc]
        refine (List.perm_append_comm (l₁ := Oc)).trans ?_
        rw [List.append_assoc]
      refine z1.trans ((p5.append_left Od).trans ?_)
      rw [← List.append_assoc, ← List.append_assoc]
      exact p6.append_right Oe
    have fr3 : Frm Tq H F O H2 F2 ((Oc ++ Od) ++ Ob) := fr1.trans fr2.frame
    refine ⟨v1, v2, rfl, F2, O6, _, (b3.perm pm).left, o6, fr3.perm (fun _ => Iff.rfl) fun c hc => pm.mem_iff.mpr (List.mem_append_left _ hc), p⟩

/-! ### built-in functions -/
def DCall (X : Cx) (f : Value) (g : List D → (T → Prop) → Prop) : Prop :=
  ∀ (pins : List (Addr × Obj)) (s : Shared) (σ : L2.St) (H F : Hp) (vs : List V) (us : List Value) (ds : List D) (k : T → Prop), Inv X pins σ H s → Same F H → Vws F H vs ds → Vals vs us → g ds k →
    wpAny (model X.prog X.w) X.A (call f us) (EP X pins σ (NewV F H k)) X.xe s
def rC (g : List D → (T → Prop) → Prop) : List V → Hp → VK → Prop := fun vs H Q => ∃ F ds k, Same F H ∧ Vws F H vs ds ∧ g ds k ∧ ∀ v H', NewV F H k v H' → Q v H'
theorem DCall.r {f : Value} {g : List D → (T → Prop) → Prop} (h : DCall X f g) : CallR X f (rC g) := fun pins s σ H vs us Q I r ⟨F, ds, k, sF, ws, hg, q⟩ => thn (h pins s σ H F vs us ds k I sF ws r hg) (EP.imp q)
theorem DCall.of {f : Value} {g : List D → (T → Prop) → Prop} {r : List V → Hp → VK → Prop} (hc : CallR X f r) (q : ∀ H F vs ds k, Same F H → Vws F H vs ds → g ds k → r vs H (NewV F H k)) : DCall X f g :=
  fun pins s σ H F vs us ds k I sF ws rv hg => hc pins s σ H vs us _ I rv (q H F vs ds k sF ws hg)
theorem callD_post {g : List D → (T → Prop) → Prop} {σ : L2.St} {H F : Hp} {O : List Addr} {t : TA} (b0 : Bas Z F H O) (o : OwE F H O σ env)
    (h : WAs Z X es env fun as e1 => Views as e1 fun ds => g ds fun t => P (.t t) e1) : tCB (rC g) (tAs Z X es) σ H (Post Z σ H F O P) :=
  ⟨env, F, O, _, b0, o, h, fun vs H1 ⟨F1, O1, as, e1, b1, o1, st, fr, p⟩ => by
    obtain ⟨ds, ws, q⟩ := Views.vws o1 st p
    exact ⟨F1, ds, _, b1.sub, ws, q, fun v H' n => (n.post b1 o1 fun t q => q).from fr⟩⟩
theorem w_callB {g : List D → (T → Prop) → Prop} {x : Str} {id : String} {p : Pos} (hc : DCall X (.builtin id) g) (hm : X.mg x = none) (hv : bootBuiltins x = some (.builtin id)) (h : WAs Z X (e :: es) env fun as e1 => Views as e1 fun ds => g ds fun t => P (.t t) e1)
    (hg : Gl X x := by rfl) (hn : x ≠ "__name__" := by decide) (hdb : (x == ("__debug__" : Str)) = false := by decide)
    (he : starEach (e :: es) X.env = (false, eval e X.env) :: starEach es X.env := by rfl) (hpl : (backTo pos (starEach es X.env)).any (·.1) = false := by rfl) : WE Z X (.Call (.Name x p) (e :: es) [] pos) env P :=
  we_of (pe_callB hc.r hg hm hv pa_As hn hdb he hpl) fun σ H F O b0 o => callD_post (t := tNil) b0 o h
theorem w_callTy {g : List D → (T → Prop) → Prop} {x : Str} {id : String} {p : Pos} (hc : DCall X (.type id) g) (hm : X.mg x = none) (hv : bootBuiltins x = some (.type id)) (h : WAs Z X (e :: es) env fun as e1 => Views as e1 fun ds => g ds fun t => P (.t t) e1)
    (hg : Gl X x := by rfl) (hn : x ≠ "__name__" := by decide) (hdb : (x == ("__debug__" : Str)) = false := by decide)
    (he : starEach (e :: es) X.env = (false, eval e X.env) :: starEach es X.env := by rfl) (hpl : (backTo pos (starEach es X.env)).any (·.1) = false := by rfl) : WE Z X (.Call (.Name x p) (e :: es) [] pos) env P :=
  we_of (pe_callTy hc.r hg hm hv pa_As hn hdb he hpl) fun σ H F O b0 o => callD_post (t := tNil) b0 o h

theorem Vws.one {F H : Hp} {vs : List V} {d : D} (h : Vws F H vs [d]) : ∃ v, vs = [v] ∧ Vw F H v d := by
  cases h with | cons w r => cases r; exact ⟨_, rfl, w⟩
theorem Vws.two {F H : Hp} {vs : List V} {d d' : D} (h : Vws F H vs [d, d']) : ∃ v v', vs = [v, v'] ∧ Vw F H v d ∧ Vw F H v' d' := by
  cases h with | cons w r => cases r with | cons w' r => cases r; exact ⟨_, _, rfl, w, w'⟩
def lenG (ds : List D) (k : T → Prop) : Prop := match ds with
  | [.list xs] => k (.va (.int xs.length))
  | [.tuple xs] => k (.va (.int xs.length))
  | _ => False
theorem dc_len : DCall X (.builtin "len") lenG := .of call_len_seq fun H F vs ds k sF ws h => by
  unfold lenG at h
  split at h
  · obtain ⟨v, rfl, w⟩ := ws.one
    obtain ⟨p, xs, rfl, h1, r1⟩ := w.lst' sF
    exact ⟨p, xs, rfl, .inl (SqL.of h1), NewV.val sF (.int _) (by rw [r1.len]; exact h)⟩
  · obtain ⟨v, rfl, w⟩ := ws.one
    obtain ⟨p, xs, rfl, h1, r1⟩ := w.tup
    exact ⟨p, xs, rfl, .inr (SqT.of (sF _ _ h1)), NewV.val sF (.int _) (by rw [r1.len]; exact h)⟩
  · exact h.elim
def absG (ds : List D) (k : T → Prop) : Prop := match ds with
  | [.int i] => k (.va (.int i.natAbs))
  | _ => False
theorem dc_abs : DCall X (.builtin "abs") absG := .of call_abs fun H F vs ds k sF ws h => by
  unfold absG at h
  split at h
  · rename_i i
    obtain ⟨v, rfl, w⟩ := ws.one
    cases w.int
    have e : (if i < 0 then -i else i) = (i.natAbs : Int) := by split <;> omega
    exact ⟨i, rfl, NewV.val sF (.int _) (by rw [e]; exact h)⟩
  · exact h.elim
def int1G (ds : List D) (k : T → Prop) : Prop := match ds with
  | [.int i] => k (.va (.int i))
  | [.bool b] => k (.va (.int (if b then 1 else 0)))
  | _ => False
theorem dc_int : DCall X (.type "int") int1G := .of call_int1 fun H F vs ds k sF ws h => by
  unfold int1G at h
  split at h
  · obtain ⟨v, rfl, w⟩ := ws.one
    cases w.int
    exact .inl ⟨_, rfl, NewV.val sF (.int _) h⟩
  · obtain ⟨v, rfl, w⟩ := ws.one
    cases w.bl
    exact .inr ⟨_, rfl, NewV.val sF (.int _) h⟩
  · exact h.elim
def minG (ds : List D) (k : T → Prop) : Prop := match ds with
  | [.int i, .int j] => k (.va (.int (min i j)))
  | _ => False
theorem dc_min2 (hc : X.calm = true) : DCall X (.builtin "min") minG := .of (call_min2 hc) fun H F vs ds k sF ws h => by
  unfold minG at h
  split at h
  · rename_i i j
    obtain ⟨v, v', rfl, w, w'⟩ := ws.two
    cases w.int
    cases w'.int
    have e : (if j < i then j else i) = min i j := by split <;> omega
    exact ⟨i, j, rfl, NewV.val sF (.int _) (by rw [e]; exact h)⟩
  · exact h.elim
def maxG (ds : List D) (k : T → Prop) : Prop := match ds with
  | [.int i, .int j] => k (.va (.int (max i j)))
  | _ => False
theorem dc_max2 (hc : X.calm = true) : DCall X (.builtin "max") maxG := .of (call_max2 hc) fun H F vs ds k sF ws h => by
  unfold maxG at h
  split at h
  · rename_i i j
    obtain ⟨v, v', rfl, w, w'⟩ := ws.two
    cases w.int
    cases w'.int
    have e : (if j > i then j else i) = max i j := by split <;> omega
    exact ⟨i, j, rfl, NewV.val sF (.int _) (by rw [e]; exact h)⟩
  · exact h.elim
def tupG (ds : List D) (k : T → Prop) : Prop := match ds with
  | [.list xs] => k (.va (.tuple xs))
  | [.tuple xs] => k (.va (.tuple xs))
  | _ => False
theorem dc_tuple : DCall X (.type "tuple") tupG := .of call_tuple_of fun H F vs ds k sF ws h => by
  unfold tupG at h
  split at h
  · obtain ⟨v, rfl, w⟩ := ws.one
    obtain ⟨p, xs, rfl, h1, r1⟩ := w.lst' sF
    exact ⟨p, xs, rfl, .inl ⟨SqL.of h1, fun l hl => NewV.tup sF r1 hl h⟩⟩
  · obtain ⟨v, rfl, w⟩ := ws.one
    obtain ⟨p, xs, rfl, h1, r1⟩ := w.tup
    exact ⟨p, xs, rfl, .inr ⟨SqT.of (sF _ _ h1), NewV.val sF (.tup h1 r1) h⟩⟩
  · exact h.elim
theorem Vw.rpa {F H : Hp} {v : V} {xs : List D} (w : Vw F H v (.list xs)) (sF : Same F H) : ∃ a vs, v = .ref a ∧ H a = some (.lst vs) ∧ RpA F vs xs := w.lst' sF
def listG (ds : List D) (k : T → Prop) : Prop := match ds with
  | [.list xs] => ∀ p, k (.lst p xs)
  | [.tuple xs] => ∀ p, k (.lst p xs)
  | _ => False
theorem dc_list : DCall X (.type "list") listG := .of call_list_of fun H F vs ds k sF ws h => by
  unfold listG at h
  split at h
  · obtain ⟨v, rfl, w⟩ := ws.one
    obtain ⟨p, xs, rfl, h1, r1⟩ := w.lst' sF
    exact ⟨p, xs, rfl, .inl (SqL.of h1), fun l hl => NewV.lst sF r1 hl (h l)⟩
  · obtain ⟨v, rfl, w⟩ := ws.one
    obtain ⟨p, xs, rfl, h1, r1⟩ := w.tup
    exact ⟨p, xs, rfl, .inr (SqT.of (sF _ _ h1)), fun l hl => NewV.lst sF r1 hl (h l)⟩
  · exact h.elim
def allG (ds : List D) (k : T → Prop) : Prop := ∃ bs : List Bool, ds = [.list (bs.map .bool)] ∧ k (.va (.bool (bs.all id)))
theorem dc_all (hc : X.calm = true) : DCall X (.builtin "all") allG := .of (cr_all hc) fun H F vs ds k sF ws ⟨bs, e, h⟩ => by
  subst e
  obtain ⟨v, rfl, w⟩ := ws.one
  obtain ⟨p, xs, rfl, h1, r1⟩ := w.lst' sF
  exact ⟨p, bs, rfl, by rw [← r1.bls]; exact SqL.of h1, NewV.val sF (.bl _) h⟩
def sumG (ds : List D) (k : T → Prop) : Prop := ∃ ns : List Int, ds = [.list (ns.map .int)] ∧ k (.va (.int ns.sum))
theorem dc_sum (hc : X.calm = true) : DCall X (.builtin "sum") sumG := .of (cr_sum hc) fun H F vs ds k sF ws ⟨bs, e, h⟩ => by
  subst e
  obtain ⟨v, rfl, w⟩ := ws.one
  obtain ⟨p, xs, rfl, h1, r1⟩ := w.lst' sF
  exact ⟨p, bs, rfl, by rw [← r1.ints]; exact SqL.of h1, NewV.val sF (.int _) h⟩
end
end QL

/-! QH: what is shown, isinstance, chains, dict displays, calls by name, the script. -/
namespace QL
open PySem PySem.Spec PyProof.Rows L2

section
variable {X : Cx}
theorem far (hb : (X.base.get? sysModules).isSome = true) {pins : List (Addr × Obj)} {σ : L2.St} {H : Hp} {s : Shared} (I : Inv X pins σ H s) {a : Addr} {o : HO} (h : H a = some o) : sysModules ≠ a := fun e => by
  obtain ⟨ob, ho⟩ := Option.isSome_iff_exists.mp hb
  have := (I.bs _ _ ho).2
  rw [e, h] at this
  cases this
theorem keys_read {P : Program} {w : World} {h : Heap} : ∀ {es : List DictEntry} {vs : List (Key × Value)} {kvs : List (Key × V)} {ds : List (D × D)} {F : Hp}, PySem.Pairs (mixKind P w) es vs → KV kvs vs → RpK F kvs ds →
    ReadsAll h (es.map (·.key)) (ds.map (·.1)) []
  | _, _, _, _, _, .nil, r, q => by cases r; cases q; exact .nil
  | _, _, _, _, _, .cons hk hv t, r, q => by
    cases r with
    | cons r1 r2 =>
      cases q with
      | cons q1 q2 =>
        have ih := keys_read (h := h) t r2 q2
        obtain ⟨r1a, r1b⟩ := r1
        simp only at r1a
        subst r1a
        rcases keyIs_shape hk with ⟨i, t', e1, e2⟩ | ⟨x, t', e1, e2⟩
        · simp only [List.map_cons]
          rw [e1, e2]
          exact .cons (as := []) (.int i t') ih
        · simp only [List.map_cons]
          rw [e1, e2]
          exact .cons (as := []) (.str x t') ih
mutual
theorem Rp.readsD (hb : (X.base.get? sysModules).isSome = true) {pins : List (Addr × Obj)} {σ : L2.St} {H : Hp} {s : Shared} (I : Inv X pins σ H s) : ∀ {v : V} {d : D} {u : Value}, Rp H v d → RelV v u → ∃ as, Reads s.heap u d as ∧ sysModules ∉ as
  | _, _, _, .non, r => by cases r; exact ⟨_, .none, List.not_mem_nil⟩
  | _, _, _, .bl b, r => by cases r; exact ⟨_, .bool b, List.not_mem_nil⟩
  | _, _, _, .int i, r => by obtain ⟨t, rfl⟩ := r; exact ⟨_, .int i t, List.not_mem_nil⟩
  | _, _, _, .str i, r => by obtain ⟨t, rfl⟩ := r; exact ⟨_, .str i t, List.not_mem_nil⟩
  | _, _, _, .lst h q, r => by
    cases r
    obtain ⟨its, rv, ⟨o, n, ho, hc, _, hs⟩, _⟩ := I.list (SqL.of h)
    obtain ⟨as, hr, hn⟩ := RpA.readsD hb I q rv
    exact ⟨_, .list ho hc hs hr, fun z => (List.mem_cons.mp z).elim (far hb I h) hn⟩
  | _, _, _, .tup h q, r => by
    cases r
    obtain ⟨its, rv, ⟨o, ho, hc, n, hs⟩, _⟩ := I.tuple (SqT.of h)
    obtain ⟨as, hr, hn⟩ := RpA.readsD hb I q rv
    exact ⟨_, .tuple ho hc hs hr, hn⟩
  | _, _, _, .dic h q, r => by
    cases r
    obtain ⟨_, hd, vs, rel, o, es, ep, ho, hx, hdat, _, hp, _⟩ := dk_rd I.hok h
    obtain ⟨bs, hr, hn⟩ := RpK.readsD hb I q rel hp
    refine ⟨_, .dict ho hx.1 hdat (keys_read hp rel q) hr, fun z => ?_⟩
    rcases List.mem_append.mp z with z | z
    · rw [← List.mem_singleton.mp z] at hd
      simp at hd
    · exact hn z
theorem RpA.readsD (hb : (X.base.get? sysModules).isSome = true) {pins : List (Addr × Obj)} {σ : L2.St} {H : Hp} {s : Shared} (I : Inv X pins σ H s) : ∀ {vs : List V} {ds : List D} {us : List Value}, RpA H vs ds → Vals vs us → ∃ as, ReadsAll s.heap us ds as ∧ sysModules ∉ as
  | _, _, _, .nil, r => by cases r; exact ⟨_, .nil, List.not_mem_nil⟩
  | _, _, _, .cons h q, r => by
    cases r with
    | cons r1 r2 =>
      obtain ⟨as, q1, n1⟩ := Rp.readsD hb I h r1
      obtain ⟨bs, q2, n2⟩ := RpA.readsD hb I q r2
      exact ⟨_, .cons q1 q2, fun z => (List.mem_append.mp z).elim n1 n2⟩
theorem RpK.readsD (hb : (X.base.get? sysModules).isSome = true) {pins : List (Addr × Obj)} {σ : L2.St} {H : Hp} {s : Shared} (I : Inv X pins σ H s) : ∀ {kvs : List (Key × V)} {ds : List (D × D)} {vs : List (Key × Value)} {es : List DictEntry}, RpK H kvs ds → KV kvs vs → PySem.Pairs (mixKind X.prog X.w) es vs →
    ∃ as, ReadsAll s.heap (es.map (·.val)) (ds.map (·.2)) as ∧ sysModules ∉ as
  | _, _, _, _, .nil, r, p => by cases r; cases p; exact ⟨_, .nil, List.not_mem_nil⟩
  | _, _, _, _, .cons h q, r, p => by
    cases r with
    | cons r1 r2 =>
      cases p with
      | cons p1 p2 p3 =>
        obtain ⟨as, q1, n1⟩ := Rp.readsD hb I h r1.2
        obtain ⟨bs, q2, n2⟩ := RpK.readsD hb I q r2 p3
        simp only [List.map_cons]
        rw [p2]
        exact ⟨_, .cons q1 q2, fun z => (List.mem_append.mp z).elim n1 n2⟩
end

/-! ### repr -/
def showOk (d : D) : Prop := d.showable = true ∧ d.depth ≤ 100 ∧ d.shown.length ≤ sizeLine
def reprG (ds : List D) (k : T → Prop) : Prop := ∃ d, ds = [d] ∧ showOk d ∧ k (.va (.str d.shown))
theorem dc_repr (hb : (X.base.get? sysModules).isSome = true) (hg : X.A.guards = some []) (hu : X.A.units + 110 < cLine) : DCall X (.builtin "repr") reprG := fun pins s σ H F vs us ds k I sF ws rv ⟨d, e, ok, h⟩ => by
  subst e
  obtain ⟨v, rfl, w⟩ := ws.one
  obtain ⟨u, rfl, ru⟩ := rv.one
  have rp := w.rp sF
  have fin : ∀ {h' : Heap} {t tk : Nat}, Inv X pins σ H { s with heap := h', toks := tk } → EP X pins σ (NewV F H k) (.str d.shown t) { s with heap := h', toks := tk } := fun {h' t tk} I' => ⟨.str d.shown, H, I', ⟨t, rfl⟩, NewV.val sF (.str _) h⟩
  have big : ∀ {a : Addr}, u = .ref a → wpAny (model X.prog X.w) X.A (call (.builtin "repr") [u]) (EP X pins σ (NewV F H k)) X.xe s := fun {a} e => by
    obtain ⟨as, hr, hn⟩ := rp.readsD hb I ru
    subst e
    exact repr_of_reads' hr ok.1 (fun _ => hn) hg (by have := ok.2.1; omega) (fun _ _ e => e) (fun h' u tk hk => fin (I.kept hk)) ok.2.2
  cases rp with
  | non => cases ru; exact P.repr_of_none (fin (I.tok _))
  | bl b => cases ru; exact P.repr_of_bool (fin (I.tok _))
  | int i =>
    obtain ⟨t, rfl⟩ := ru
    exact P.repr_of_int (by simpa [PyData.showable] using ok.1) (fin (I.tok _))
  | str x =>
    obtain ⟨t, rfl⟩ := ru
    exact P.repr_of_str (fin (I.tok _)) ok.2.2
  | lst _ _ => exact big ru
  | tup _ _ => exact big ru
  | dic _ _ => exact big ru
def strG (ds : List D) (k : T → Prop) : Prop := ∃ xs, ds = [.tuple xs] ∧ showOk (.tuple xs) ∧ k (.va (.str (PyData.shown (.tuple xs))))
theorem dc_str (hb : (X.base.get? sysModules).isSome = true) (hg : X.A.guards = some []) (hu : X.A.units + 110 < cLine) : DCall X (.type "str") strG := fun pins s σ H F vs us ds k I sF ws rv ⟨d, e, ok, h⟩ => by
  subst e
  obtain ⟨v, rfl, w⟩ := ws.one
  obtain ⟨u, rfl, ru⟩ := rv.one
  have rp := w.rp sF
  obtain ⟨as, hr, hn⟩ := rp.readsD hb I ru
  cases rp with
  | tup _ _ =>
    cases ru
    exact str_of_reads hr ok.1 (fun _ => hn) hg (by have := ok.2.1; omega) (fun _ _ e => e) (fun h' u tk hk => ⟨.str _, H, I.kept hk, ⟨u, rfl⟩, NewV.val sF (.str _) h⟩) ok.2.2

/-! ### isinstance(x, T) -/
def tyD : D → String
  | .none => "NoneType"
  | .bool _ => "bool"
  | .int _ => "int"
  | .str _ => "str"
  | .list _ => "list"
  | .tuple _ => "tuple"
  | .dict _ => "dict"
def isB (d : D) (T : String) : Bool := tyD d == T || (T == "int" && tyD d == "bool")
theorem Vw.ty {K : PySem.W.Frag} {F H : Hp} {v : V} {d : D} (sF : Same F H) (w : Vw F H v d) : TyX K H v (.type (tyD d)) := by
  have r := w.rp sF
  cases r with
  | non => exact .base .non
  | bl b => exact .base (.bl b)
  | int i => exact .base (.int i)
  | str x => exact .base (.str x)
  | lst h _ => exact .base (.lst h)
  | tup h _ => exact .base (.tup h)
  | dic h _ =>
    rcases h with h | ⟨o, h⟩
    · exact .base (.dK h)
    · exact .fDict h
variable {Tq : List (Addr × Str)} {Z : Zb Tq} {e a b c o ix : Expr} {es : List Expr} {env : Env} {pos : Pos} {P : R → Env → Prop} {PO : Out → Prop}
theorem w_isi {T : Str} {t : String} {p p2 : Pos} (h : WA Z X e env fun a1 e1 => View a1 e1 fun d => P (.t (.va (.bool (isB d t)))) e1) (hk : ∀ d, kitB (tyD d) t = some (isB d t)) (hm : X.mg "isinstance" = none) (hmT : X.mg T = none) (hv : bootBuiltins T = some (.type t))
    (hg : Gl X "isinstance" := by rfl) (hgT : Gl X T := by rfl) (hn : T ≠ "__name__" := by decide) (hd : (T == ("__debug__" : Str)) = false := by decide)
    (he : starEach [e, .Name T p2] X.env = (false, eval e X.env) :: starEach [.Name T p2] X.env := by rfl) (he2 : starEach [.Name T p2] X.env = (false, eval (.Name T p2) X.env) :: starEach [] X.env := by rfl)
    (hpl : (backTo pos (starEach [.Name T p2] X.env)).any (·.1) = false := by rfl) : WE Z X (.Call (.Name "isinstance" p) [e, .Name T p2] [] pos) env P :=
  we_of (pe_callB (call_isi (X := X)) hg hm rfl (pa_cons (pe_A (Z := Z)) (pa_cons (pe_bltn (v := .ty t) hgT hmT hv rfl hn hd) pa_nil he2) he) (by decide) (by decide) he hpl) fun σ H F O b o => ⟨env, F, O, _, b, o, h, fun v H1 ⟨F1, O1, a1, e1, b1, o1, st, fr, p⟩ => by
    obtain ⟨d, w, q⟩ := View.vw p o1 st
    exact ⟨v, .ty t, .type (tyD d), .type t, isB d t, rfl, .ty t, w.ty b1.sub, kit_ty (hk d), (post_val b1 o1 (.bl _) q).from fr⟩⟩
theorem kit_int : ∀ d, kitB (tyD d) "int" = some (isB d "int") := by intro d; cases d <;> (simp only [isB, tyD]; decide +kernel)
theorem kit_bool : ∀ d, kitB (tyD d) "bool" = some (isB d "bool") := by intro d; cases d <;> (simp only [isB, tyD]; decide +kernel)
theorem kit_tuple : ∀ d, kitB (tyD d) "tuple" = some (isB d "tuple") := by intro d; cases d <;> (simp only [isB, tyD]; decide +kernel)

/-! ### a op b op c -/
theorem w_chain {op op' : CmpOp} {g g' : D → D → (T → Prop) → Prop} (ho : DOp X (compareOp op) g) (ho' : DOp X (compareOp op') g')
    (h : WA Z X a env fun a1 e1 => WA Z X b e1 fun a2 e2 => View a1 e2 fun d1 => View a2 e2 fun d2 => g d1 d2 fun t => ∃ k, t = .va (.bool k) ∧ (k = true → WA Z X c e2 fun a3 e3 => View a2 e3 fun d2' => View a3 e3 fun d3 => g' d2' d3 fun t => P (.t t) e3) ∧ (k = false → P (.t (.va (.bool false))) e2))
    (hm : lastMarks [op, op'] [b, c] = false := by with_unfolding_all rfl) : WE Z X (.Compare a [op, op'] [b, c] pos) env P :=
  we_of (pe_chain ho.r ho'.r (pe_A (Z := Z)) (pe_A (Z := Z)) (pe_A (Z := Z)) hm) fun σ H F O b0 o => by
    refine ⟨env, F, O, _, b0, o, h, fun v1 H1 ⟨F1, O1, a1, e1, b1, o1, st1, fr1, h1⟩ => ?_⟩
    refine ⟨e1, F1, O1, _, b1, o1, h1, fun v2 H2 ⟨F2, O2, a2, e2, b2, o2, st2, fr2, h2⟩ => ?_⟩
    obtain ⟨d1, w1, h3⟩ := View.vw h2 o2 (st1.mono fr2.fz)
    obtain ⟨d2, w2, h4⟩ := View.vw h3 o2 st2
    refine ⟨F2, d1, d2, _, b2.sub, w1, w2, h4, fun v H3 n => ?_⟩
    obtain ⟨F3, O3, r3, e3, b3, st3, fr3, ee, k, er, hT, hF⟩ := n.post b2 o2 (P := fun r e => e = e2 ∧ ∃ k, r = .t (.va (.bool k)) ∧ (k = true → WA Z X c e2 fun a3 e3 => View a2 e3 fun d2' => View a3 e3 fun d3 => g' d2' d3 fun t => P (.t t) e3) ∧ (k = false → P (.t (.va (.bool false))) e2))
      fun t ⟨k, e, q⟩ => ⟨rfl, k, by rw [e], q⟩
    subst er ee
    obtain ⟨Oa, Ob, rfl, o3, w3⟩ := st3
    cases w3 with
    | va r =>
      cases r with
      | bl k =>
        rw [List.append_nil] at b3 fr3
        refine ⟨k, rfl, ?_⟩
        cases k with
        | false => exact iteF ((post_val b3 o3 (.bl _) (hF rfl)).from ((fr1.trans fr2).trans fr3))
        | true =>
          refine iteT ⟨e3, F3, Oa, _, b3, o3, hT rfl, fun v4 H4 ⟨F4, O4, a3, e4, b4, o4, st4, fr4, h5⟩ => ?_⟩
          obtain ⟨d2', w5, h6⟩ := View.vw h5 o4 (st2.mono (fr3.fz.trans fr4.fz))
          obtain ⟨d3, w6, h7⟩ := View.vw h6 o4 st4
          exact ⟨F4, d2', d3, _, b4.sub, w5, w6, h7, fun v H' n => (n.post b4 o4 fun t q => q).from (((fr1.trans fr2).trans fr3).trans fr4)⟩

/-! ### tuple * int -/
theorem dop_mulT : DOp X (binaryOp .Mult) (fun d1 d2 k => match d1, d2 with
    | .tuple xs, .int n => xs ≠ [] ∧ xs.length ≤ 1000 ∧ 2 ≤ n ∧ n ≤ 1000 ∧ k (.va (.tuple (List.replicate n.toNat xs).flatten))
    | _, _ => False) := by
  intro pins s σ H F v1 v2 u1 u2 d1 d2 k I sF w1 w2 r1 r2 hg
  split at hg
  · rename_i xs n
    obtain ⟨p, vs, rfl, h1, q1⟩ := w1.tup
    cases w2.int
    obtain ⟨hne, hl, h2, h3, hk⟩ := hg
    refine op_repT pins s σ H _ _ u1 u2 _ I r1 r2 ⟨p, n, vs, rfl, rfl, SqT.of (sF _ _ h1), fun z => ?_, h2, h3, by rw [q1.len]; exact hl, fun p hp => NewV.tup sF (q1.rep _) hp hk⟩
    subst z
    cases q1
    exact hne rfl
  · exact hg.elim

/-! ### {}, {'a': x} -/
theorem NewV.dic {F H : Hp} {k : T → Prop} {p : Addr} {xs : List (Key × V)} {ds : List (Key × D)} (b : Same F H) (r : RpT F xs ds) (n : H p = none) (h : k (.dic p ds)) : NewV F H k (.ref p) (upd H p (.dK xs)) := by
  refine ⟨F, [p], .dic p ds, Same.refl _, same_new n, b.trans (same_new n), fun _ z => .inl z, List.nodup_cons.mpr ⟨fun z => (nomatch z), List.nodup_nil⟩, fun a ha => ?_, .dic upd_same r, h⟩
  rw [List.mem_singleton.mp ha]
  exact ⟨n, b.free n⟩
theorem w_dict0 (h : ∀ p, P (.t (.dic p [])) env) : WE Z X (.Dict [] [] pos) env P := we_of pe_dnewK fun σ H F O b o p hp => (NewV.dic b.sub .nil hp (k := fun t => t = .dic p []) rfl).post b o fun t e => by subst e; exact h p
/-- {key: e}, key a text -/
theorem w_dict1 {x : Str} {j : Nat} {p1 : Pos} (h : WE Z X e env fun r e1 => ∃ d, r = .t (.va d) ∧ ∀ p, P (.t (.dic p [(.inr x, d)])) e1) : WE Z X (.Dict [some (.Constant (.str x) j p1)] [e] pos) env P :=
  we_of (pe_disp (pps_cons pe_str (pe_E (Z := Z)) pps_nil) rfl rfl (by simp) (by simp)) fun σ H F O b o p hp => by
    -- the new dict stands aside while its value is made
    have bp : Bas Z F (upd H p (.dK [])) O := by
      have := b.grow o (Same.refl _) (same_new (o := .dK []) hp) (b.sub.trans (same_new hp)) fun _ z => .inl z
      exact this.1
    have op : OwE F (upd H p (.dK [])) O σ env := (b.grow o (Same.refl _) (same_new (o := .dK []) hp) (b.sub.trans (same_new hp)) fun _ z => .inl z).2.1
    have frp : Frm Tq H F O (upd H p (.dK [])) F O := (b.grow o (Same.refl _) (same_new (o := .dK []) hp) (b.sub.trans (same_new hp)) fun _ z => .inl z).2.2
    have hpO : p ∉ O := fun z => o.there p z hp
    refine ⟨env, F, O, _, bp, op, h, fun v H1 ⟨F1, O1, r1, e1, b1, st1, fr1, d, er, q⟩ => ?_⟩
    subst er
    obtain ⟨Oa, Ob, rfl, o1, w1⟩ := st1
    cases w1 with
    | va rd =>
      rw [List.append_nil] at b1 fr1
      have hp1 : H1 p = some (.dK []) := fr1.out p _ upd_same (fun _ z => nomatch z) hpO
      have fp : F p = none := b.sub.free hp
      have fp1 : F1 p = none := by
        cases z : F1 p with
        | none => rfl
        | some x =>
          rcases fr1.newF p (by rw [z]; exact fun z => nomatch z) with y | y | y
          · exact absurd fp y
          · rw [upd_same] at y; cases y
          · exact absurd y hpO
      have pa : p ∉ Oa := fun z => (fr1.newO p z).elim hpO fun y => by rw [upd_same] at y; cases y
      refine ⟨hp1, [(.inr x, v)], rfl, by simp, ?_⟩
      show Post Z σ H F O P (.ref p) (upd H1 p (.dK [(.inr x, v)]))
      have s1 : Same F1 (upd H1 p (.dK [(.inr x, v)])) := fun c y z => by
        rw [upd_ne fun y => by rw [y, fp1] at z; cases z]
        exact b1.sub c y z
      have keep : ∀ c ∈ Oa, upd H1 p (.dK [(.inr x, v)]) c = H1 c := fun c hc => upd_ne fun z => pa (z ▸ hc)
      have fr2 : Frm Tq H F O (upd H1 p (.dK [(.inr x, v)])) F1 (Oa ++ [p]) := by
        have f := frp.trans fr1
        refine ⟨f.fz, fun c y hc nt n => ?_, fun c hc => ?_, fun c hc => ?_, fun c hc => ?_, f.tb.trans (tab_own hp1)⟩
        · have : c ≠ p := fun z => by rw [z, hp] at hc; cases hc
          rw [upd_ne this]
          exact f.out c y hc nt n
        · by_cases z : c = p
          · subst z; rw [upd_same]; exact fun z => nomatch z
          · rw [upd_ne z]; exact f.al c hc
        · exact f.newF c hc
        · rcases List.mem_append.mp hc with z | z
          · exact f.newO c z
          · rw [List.mem_singleton.mp z]; exact .inr hp
      refine ⟨F1, Oa ++ [p], .t (.dic p [(.inr x, d)]), e1, ⟨s1, List.nodup_append.mpr ⟨b1.nd, List.nodup_cons.mpr ⟨fun z => (nomatch z), List.nodup_nil⟩, fun c hc c' hc' z => ?_⟩, fun c hc => ?_, b.abs.trans fr2⟩, ⟨Oa, [p], rfl, o1.stay (Same.refl _) keep, .dic upd_same (.cons rd .nil)⟩, fr2, q p⟩
      · rw [List.mem_singleton.mp hc'] at z
        exact pa (z ▸ hc)
      · rcases List.mem_append.mp hc with z | z
        · exact b1.dis c z
        · rw [List.mem_singleton.mp z]; exact fp1

/-! ### calls by name alone: f(b = e2, a = e1) -/
def pick {α : Type} (ns : List Nat) (xs : List α) : List α := ns.filterMap (xs[·]?)
theorem StAs.get {F : Hp} : ∀ {vs : List V} {as : List A} (i : Nat), StAs F vs as → (vs[i]? = none ∧ as[i]? = none) ∨ ∃ v a, vs[i]? = some v ∧ as[i]? = some a ∧ StA F v a
  | _, _, _, .nil => .inl ⟨rfl, rfl⟩
  | _, _, 0, .cons h r => .inr ⟨_, _, rfl, rfl, h⟩
  | _, _, i + 1, .cons h r => r.get i
theorem StAs.pick {F : Hp} {vs : List V} {as : List A} (h : StAs F vs as) : ∀ ns : List Nat, StAs F (QL.pick ns vs) (QL.pick ns as)
  | [] => .nil
  | n :: ns => by
    unfold QL.pick
    rcases h.get n with ⟨e1, e2⟩ | ⟨v, a, e1, e2, r⟩
    · rw [List.filterMap_cons_none e1, List.filterMap_cons_none e2]
      exact h.pick ns
    · rw [List.filterMap_cons_some e1, List.filterMap_cons_some e2]
      exact .cons r (h.pick ns)
theorem vals_pick {vs : List V} {us : List Value} (h : Vals vs us) : ∀ ns : List Nat, Vals (pick ns vs) (pick ns us)
  | [] => .nil
  | n :: ns => by
    unfold pick
    cases hv : vs[n]? with
    | none =>
      have hu : us[n]? = none := by
        rw [List.getElem?_eq_none_iff] at hv ⊢
        rw [← h.length]; exact hv
      rw [List.filterMap_cons_none hv, List.filterMap_cons_none hu]
      exact vals_pick h ns
    | some v =>
      obtain ⟨u, hu, r⟩ := h.get hv
      rw [List.filterMap_cons_some hv, List.filterMap_cons_some hu]
      exact .cons r (vals_pick h ns)
/-- how such a call binds: the names as they are written, their places in the parameters' order -/
def KwOk (K : PySem.W.Frag) (fd : FuncData) (ps ks : List Str) (ns : List Nat) : Prop := ∀ (s : Shared) (us : List Value), K.In s.heap → us.length = ks.length → BindsTo s fd ⟨[], ks.zip us⟩ (ps.zip (pick ns us))
theorem StAs.len {F : Hp} : ∀ {vs : List V} {as : List A}, StAs F vs as → vs.length = as.length
  | _, _, .nil => rfl
  | _, _, .cons _ r => congrArg (· + 1) r.len
theorem w_callK {k : Nat} {f : Addr} {fd : FuncData} {ps ks : List Str} {ns : List Nat} {sp : Spc} {x : Str} {p : Pos} {kws : List Keyword} {ET : Ex → Env → Prop} (G : FnG X.prog X.w X.K X.mg X.base Tq k f fd ps sp) (hr : Room k X.A) (hgd : X.A.guards = some []) (tk : Takes X (wxOf Z ET))
    (hm : X.mg x = some (.ref f)) (hk : PySem.W.keepIn X.K (.ref f) = true) (hb : KwOk X.K fd ps ks ns) (h : WKs Z X kws env fun as e1 => as.length = ks.length ∧ callD sp (pick ns as) e1 (fun t e => P (.t t) e) ET)
    (hks : (backToKw pos (keywordEach kws X.env)).filterMap (·.1) = ks := by rfl) (hall : (backToKw pos (keywordEach kws X.env)).all (·.1.isSome) = true := by rfl)
    (hg : Gl X x := by rfl) (hdb : (x == ("__debug__" : Str)) = false := by decide) (hpl : ((backTo pos (starEach [] X.env)).any (·.1) || (backToKw pos (keywordEach kws X.env)).any (·.1.isNone)) = false := by rfl) :
    WE Z X (.Call (.Name x p) [] kws pos) env P := fun pins s σ H F O I b o => by
  refine wpAny_Call_Name_kw (ld_glob I hg hm ?_ hdb)
  refine PySem.W.callWith_KW0 (h₀ := X.base) (first := []) I.ok.mod.kin hk hall (thn ((pk_Ks (Z := Z)).run pos pins s σ H (PostAs Z σ H F O _) I ⟨env, F, O, _, b, o, h, fun _ _ q => q⟩) fun us s1 ⟨vs, H1, I1, r, F1, O1, as, e1, b1, o1, st, fr, hl, q⟩ => ⟨I1.kIn, ?_⟩) hpl
  rw [hks]
  exact thn (call_g (us0 := []) (us := pick ns us) G hr hgd tk (hb s1 us I1.kIn (by rw [← r.length, st.len]; exact hl)) I1 b1 o1 (st.pick ns) (vals_pick r ns) q) (EP.imp fun v H' q => q.from fr)

/-! ### the script: a list that stands in the written part -/
def scT (K : PySem.W.Frag) (a : Addr) (ns : List Int) : T := .ob (some a) fun F _ O v => v = .ref a ∧ O = [] ∧ SqL K F a (ns.map V.int)
theorem sql_mono {K : PySem.W.Frag} {F F' : Hp} {a : Addr} {xs : List V} (s : Same F F') (h : SqL K F a xs) : SqL K F' a xs := by
  rcases h with h | h
  · exact .inl (rd_mono s h)
  · exact .inr h
theorem scT_ow {K : PySem.W.Frag} {F H : Hp} {a : Addr} {ns : List Int} (h : SqL K F a (ns.map V.int)) : Ow F H [] (.ref a) (scT K a ns) :=
  .ob ⟨rfl, rfl, h⟩ ⟨fun F H F' H' O v ⟨h1, h2, h3⟩ s _ => ⟨h1, h2, sql_mono s h3⟩, fun F H O v ⟨_, h2, _⟩ b hb => (by subst h2; cases hb), fun F H O v b ⟨h1, _, _⟩ e => by cases e; exact h1⟩
theorem sc_at {Tq : List (Addr × Str)} {Z : Zb Tq} {F H : Hp} {O : List Addr} {σ : L2.St} {env : Env} {i : Nat} {K : PySem.W.Frag} {a : Addr} {ns : List Int} (b : Bas Z F H O) (o : OwE F H O σ env) (hg : env[i]? = some (some (scT K a ns))) : σ[i]? = some (some (.ref a)) ∧ SqL K H a (ns.map V.int) := by
  obtain ⟨w, hw, Oj, O', h1, h2, h3⟩ := o.focusI hg
  cases h1 with
  | ob h _ =>
    obtain ⟨e, _, q⟩ := h
    subst e
    exact ⟨hw, sql_mono b.sub q⟩
theorem w_scLen (i : Nat) {x : Str} {p p2 : Pos} {a : Addr} {ns : List Int} (hm : X.mg "len" = none) (he : env[i]? = some (some (scT X.K a ns))) (h : P (.t (.va (.int ns.length))) env) (hN : X.N[i]? = some x := by rfl)
    (hg : Gl X "len" := by rfl) (hv : Vis X.env.scope x := by first | exact Or.inl rfl | exact Or.inr (Or.inl rfl) | exact Or.inr (Or.inr rfl)) (hd : (x == ("__debug__" : Str)) = false := by decide) (hcd : (x == ("__classdict__" : Str)) = false := by decide)
    (hs : starEach [.Name x p2] X.env = (false, eval (.Name x p2) X.env) :: starEach [] X.env := by rfl) (hpl : (backTo pos (starEach [] X.env)).any (·.1) = false := by rfl) : WE Z X (.Call (.Name "len" p) [.Name x p2] [] pos) env P :=
  we_of (pe_callB call_len_seq hg hm rfl (pa_cons (pe_var hN hv hd hcd) pa_nil hs) (by decide) (by decide) hs hpl) fun σ H F O b o => by
    obtain ⟨e1, q⟩ := sc_at b o he
    refine ⟨_, e1, a, _, rfl, .inl q, ?_⟩
    rw [List.length_map]
    exact post_val b o (.int _) h
theorem w_scIx (i j : Nat) {x y : Str} {p p2 : Pos} {a : Addr} {ns : List Int} {n : Int} {m : Int} (he : env[i]? = some (some (scT X.K a ns))) (hj : env[j]? = some (some (.va (.int n)))) (ha : atI ns n = some m) (h : P (.t (.va (.int m))) env) (hN : X.N[i]? = some x := by rfl) (hM : X.N[j]? = some y := by rfl)
    (hv : Vis X.env.scope x := by first | exact Or.inl rfl | exact Or.inr (Or.inl rfl) | exact Or.inr (Or.inr rfl)) (hd : (x == ("__debug__" : Str)) = false := by decide) (hcd : (x == ("__classdict__" : Str)) = false := by decide)
    (hv2 : Vis X.env.scope y := by first | exact Or.inl rfl | exact Or.inr (Or.inl rfl) | exact Or.inr (Or.inr rfl)) (hd2 : (y == ("__debug__" : Str)) = false := by decide) (hcd2 : (y == ("__classdict__" : Str)) = false := by decide)
    (hs : PlainIx (.Name y p2) := by intro _ _; rfl) : WE Z X (.Subscript (.Name x p) (.Name y p2) pos) env P :=
  we_of (pe_ix ix_list (pe_var hN hv hd hcd) (pe_var hM hv2 hd2 hcd2) hs) fun σ H F O b o => by
    obtain ⟨e1, q⟩ := sc_at b o he
    obtain ⟨w, hw, Oj, O', h1, h2, h3⟩ := o.focusI hj
    cases h1 with
    | va r =>
      cases r
      refine ⟨_, e1, _, hw, a, _, n, .int m, rfl, rfl, q, ?_, post_val b o (.int _) h⟩
      unfold atI at ha ⊢
      rw [List.length_map]
      cases hn : ixN ns.length n with
      | none => rw [hn] at ha; cases ha
      | some k =>
        rw [hn] at ha
        have ha : ns[k]? = some m := ha
        show (ns.map V.int)[k]? = some (V.int m)
        rw [List.getElem?_map, ha]
        rfl
end
end QL

/-! QI: methods of lists, starred displays, sums of tuples, zip as what is walked, repr without dicts. -/
namespace QL
open PySem PySem.Spec PyProof.Rows L2 StX

section
variable {X : Cx} {Tq : List (Addr × Str)} {Z : Zb Tq} {e a b c o ix tg : Expr} {es : List Expr} {env : Env} {pos : Pos} {P : R → Env → Prop} {PO : Out → Prop}

/-! ### repr -/
def showOk0 (d : D) : Prop := d.hasDict = false ∧ showOk d
def reprG0 (ds : List D) (k : T → Prop) : Prop := ∃ d, ds = [d] ∧ showOk0 d ∧ k (.va (.str d.shown))
theorem dc_repr0 (hg : X.A.guards = some []) (hu : X.A.units + 110 < cLine) : DCall X (.builtin "repr") reprG0 := fun pins s σ H F vs us ds k I sF ws rv ⟨d, e, ⟨nd, ok⟩, h⟩ => by
  subst e
  obtain ⟨v, rfl, w⟩ := ws.one
  obtain ⟨u, rfl, ru⟩ := rv.one
  have rp := w.rp sF
  have fin : ∀ {h' : Heap} {t tk : Nat}, Inv X pins σ H { s with heap := h', toks := tk } → EP X pins σ (NewV F H k) (.str d.shown t) { s with heap := h', toks := tk } := fun {h' t tk} I' => ⟨.str d.shown, H, I', ⟨t, rfl⟩, NewV.val sF (.str _) h⟩
  have big : ∀ {a : Addr}, u = .ref a → wpAny (model X.prog X.w) X.A (call (.builtin "repr") [u]) (EP X pins σ (NewV F H k)) X.xe s := fun {a} e => by
    obtain ⟨as, hr⟩ := rp.reads I ru nd
    subst e
    exact repr_of_reads' hr ok.1 (PyData.noDict_hsm nd) hg (by have := ok.2.1; omega) (fun _ _ e => e) (fun h' u tk hk => fin (I.kept hk)) ok.2.2
  cases rp with
  | non => cases ru; exact P.repr_of_none (fin (I.tok _))
  | bl b => cases ru; exact P.repr_of_bool (fin (I.tok _))
  | int i =>
    obtain ⟨t, rfl⟩ := ru
    exact P.repr_of_int (by simpa [PyData.showable] using ok.1) (fin (I.tok _))
  | str x =>
    obtain ⟨t, rfl⟩ := ru
    exact P.repr_of_str (fin (I.tok _)) ok.2.2
  | lst _ _ => exact big ru
  | tup _ _ => exact big ru
  | dic _ _ => cases nd

/-! ### xs.append(e), xs.pop() -/
theorem lst_at {F H : Hp} {O : List Addr} {σ : L2.St} {a : Addr} {i : Nat} {p : List Str} {ds : List D} {K : PySem.W.Frag} (o : OwE F H O σ env) (hg : getP i p env = some (.lst a ds)) : tyV K "list" (.ref a) H := by
  obtain ⟨w, ⟨Oj, O', h1, h2, h3⟩, _⟩ := o.focus hg
  cases h1 with
  | lst hH r => exact .inl ⟨rfl, _, SqL.of hH⟩
theorem w_append {apos : Pos} (h : WE Z X o env fun r e1 => ∃ a i p ds0, r = .bor a i p ∧ getP i p e1 = some (.lst a ds0) ∧ WA Z X e e1 fun a1 e2 => absorb [a1] e2 fun ds e3 => ∃ d ds1, ds = [d] ∧ getP i p e3 = some (.lst a ds1) ∧ ds1.length < sizeLine ∧ P (.t (.va .none)) (setP i p (.lst a (ds1 ++ [d])) e3))
    (hbase : attributeBase o "append" X.env (eval o X.env) = eval o X.env := by rfl)
    (hfew : ((backTo pos (starEach [e] X.env)).all (fun x => !x.1) && (backToKw pos (keywordEach [] X.env)).all (fun x => x.1.isSome)
      && decide (([e] : List Expr).length + ([] : List Keyword).length + (if ([] : List Keyword).isEmpty then 0 else 1) < 30)) = true := by rfl)
    (hline : (apos.endLine == pos.line) = true := by rfl) (hs : starEach [e] X.env = (false, eval e X.env) :: starEach [] X.env := by rfl) (hpl : (backTo pos (starEach [] X.env)).any (·.1) = false := by rfl) :
    WE Z X (.Call (.Attribute o "append" apos) [e] [] pos) env P :=
  we_of (pe_bm PySem.F.plainAttrs_list PySem.F.slot_list_append PySem.F.type_list_append mt_append (pe_E (Z := Z)) (pa_cons (pe_A (Z := Z)) pa_nil hs) hbase hfew hline hs hpl) fun σ H F O b0 o0 =>
    ⟨env, F, O, _, b0, o0, h, fun v H1 ⟨F1, O1, r, e1, b1, st, fr1, a, i, p, ds0, er, hg, q⟩ => by
      subst er
      obtain ⟨o1, ev⟩ := st
      subst ev
      refine ⟨lst_at o1 hg, e1, F1, O1, _, b1, o1, q, fun v2 H2 ⟨F2, O2, a2, e2, b2, o2, st2, fr2, q2⟩ => ?_⟩
      obtain ⟨F3, O3, ds, e3, b3, o3, r3, fr3, d, ds1, eds, hg3, hz, q3⟩ := absorb_ok (.cons st2 .nil) b2 o2 q2
      subst eds
      cases r3 with
      | cons r3 rn =>
        cases rn
        obtain ⟨xs, hH, rx, up⟩ := mutL b3 o3 hg3
        obtain ⟨O4, b4, o4, fr4⟩ := up (xs ++ [v2]) (ds1 ++ [d]) (rx.app (.cons r3 .nil))
        exact ⟨a, xs, v2, rfl, rfl, hH, by rw [rx.len]; exact hz, (post_val b4 o4 .non q3).from (((fr1.trans fr2).trans fr3).trans fr4)⟩⟩
theorem RpA.dropLast {F : Hp} {vs : List V} {ds : List D} (r : RpA F vs ds) : RpA F vs.dropLast ds.dropLast := by
  rw [List.dropLast_eq_take, List.dropLast_eq_take, r.len]
  exact r.take _
theorem w_pop {apos : Pos} (h : WE Z X o env fun r e1 => ∃ a i p ds d, r = .bor a i p ∧ getP i p e1 = some (.lst a ds) ∧ ds[ds.length - 1]? = some d ∧ P (.t (.va d)) (setP i p (.lst a ds.dropLast) e1))
    (hbase : attributeBase o "pop" X.env (eval o X.env) = eval o X.env := by rfl) (hline : (apos.endLine == pos.line) = true := by rfl) : WE Z X (.Call (.Attribute o "pop" apos) [] [] pos) env P :=
  we_of (pe_bm0 PySem.F.plainAttrs_list PySem.F.slot_list_pop PySem.F.type_list_pop mt_pop (pe_E (Z := Z)) hbase hline) fun σ H F O b0 o0 => ⟨env, F, O, _, b0, o0, h, fun v H1 ⟨F1, O1, r, e1, b1, st, fr1, a, i, p, ds, d, er, hg, hd, q⟩ => by
    subst er
    obtain ⟨o1, ev⟩ := st
    subst ev
    refine ⟨lst_at o1 hg, ?_⟩
    obtain ⟨xs, hH, rx, up⟩ := mutL b1 o1 hg
    obtain ⟨O4, b4, o4, fr4⟩ := up xs.dropLast ds.dropLast rx.dropLast
    obtain ⟨y, hy, ry⟩ := rx.get' hd
    exact ⟨a, xs, y, rfl, rfl, hH, by rw [rx.len]; exact hy, (post_val b4 o4 ry q).from (fr1.trans fr4)⟩⟩

/-! ### (x, *xs) -/
theorem w_tupStar {x1 : _} {sp : Pos} (h : WA Z X a env fun a1 e1 => WA Z X b e1 fun a2 e2 => absorb [a1, a2] e2 fun ds e3 => ∃ d xs, ds = [d, .tuple xs] ∧ xs.length < sizeLine ∧ P (.t (.va (.tuple (d :: xs)))) e3)
    (hs : starEach [a, .Starred b sp] X.env = (false, eval a X.env) :: starEach [.Starred b sp] X.env := by rfl) (hs2 : starEach [.Starred b sp] X.env = (true, eval b X.env) :: starEach [] X.env := by rfl) :
    WE Z X (.Tuple [a, .Starred b sp] x1 pos) env P :=
  we_of (pe_tup (pa_cons (pe_A (Z := Z)) (pa_star (pe_A (Z := Z)) pa_nil hs2) hs)) fun σ H F O b0 o0 => ⟨env, F, O, _, b0, o0, h, fun v1 H1 ⟨F1, O1, a1, e1, b1, o1, st1, fr1, q1⟩ => ⟨e1, F1, O1, _, b1, o1, q1, fun v2 H2 ⟨F2, O2, a2, e2, b2, o2, st2, fr2, q2⟩ => by
    obtain ⟨F3, O3, ds, e3, b3, o3, r3, fr3, d, xs, eds, hz, q3⟩ := absorb_ok (.cons (st1.mono fr2.fz) (.cons st2 .nil)) b2 o2 q2
    subst eds
    cases r3 with
    | cons r3 rn =>
      cases rn with
      | cons r4 rn =>
        cases rn
        cases r4 with
        | tup h4 r4 =>
          refine ⟨_, _, rfl, .inl (SqT.of (b3.sub _ _ h4)), ?_⟩
          refine ⟨by rw [List.length_cons, List.length_append, r4.len]; exact hz, fun p hp => ?_⟩
          rw [List.append_nil]
          exact ((NewV.tup b3.sub (.cons r3 r4) hp (k := fun t => t = .va (.tuple (d :: xs))) rfl).post b3 o3 (fun t e => by subst e; exact q3)).from ((fr1.trans fr2).trans fr3)⟩⟩

/-! ### sum of a list or a tuple -/
def rSumT (K : PySem.W.Frag) : List V → Hp → VK → Prop := fun vs H Q => ∃ (a : Addr) (ns : List Int), vs = [V.ref a] ∧ SqT K H a (ns.map V.int) ∧ Q (.int ns.sum) H
theorem cr_sumT (hc : X.calm = true) : CallR X (.builtin "sum") (rSumT X.K) := by
  intro pins s σ H vs us Q I r ⟨a, ns, e, hs, q⟩
  subst e
  obtain ⟨its, rv, hl, _⟩ := I.tuple hs
  rw [Vals.ref1 r]
  have hl : s.heap.IsTuple a its.toArray := hl
  have hi := rv.ints
  obtain ⟨xs, ex⟩ := hi.allInts.items
  have hn := hi.numsOf
  rw [show its = its.toArray.toList from rfl, ex, nums_intItems] at hn
  rw [ex] at hl
  refine PySem.W.ktm_sumG (I.ok.hd hc) hl fun h' tk t' hk => ?_
  rw [preSum_eq, List.take_of_length_le (by simp), hn]
  exact ⟨.int ns.sum, H, I.kept hk, ⟨t', rfl⟩, q⟩
def sumAG (ds : List D) (k : T → Prop) : Prop := ∃ ns : List Int, (ds = [.list (ns.map .int)] ∨ ds = [.tuple (ns.map .int)]) ∧ k (.va (.int ns.sum))
theorem dc_sumA (hc : X.calm = true) : DCall X (.builtin "sum") sumAG := .of ((cr_sum hc).or (cr_sumT hc)) fun H F vs ds k sF ws ⟨ns, e, h⟩ => by
  rcases e with e | e
  · subst e
    obtain ⟨v, rfl, w⟩ := ws.one
    obtain ⟨p, xs, rfl, h1, r1⟩ := w.lst' sF
    exact .inl ⟨p, ns, rfl, by rw [← r1.ints]; exact SqL.of h1, NewV.val sF (.int _) h⟩
  · subst e
    obtain ⟨v, rfl, w⟩ := ws.one
    obtain ⟨p, xs, rfl, h1, r1⟩ := w.tup
    exact .inr ⟨p, ns, rfl, by rw [← r1.ints]; exact SqT.of (sF _ _ h1), NewV.val sF (.int _) h⟩

/-! ### for x, y in zip(t, u), t and u tuples -/
def zipD (xs ys : List D) : List D := (xs.zip ys).map fun p => .tuple [p.1, p.2]
theorem gives_zipT {K : PySem.W.Frag} {a b : Addr} {xs ys : List V} {ds es : List D} {F : Hp} (h1 : F a = some (.tup xs)) (r1 : RpA F xs ds) (h2 : F b = some (.tup ys)) (r2 : RpA F ys es) : Gives (RZ.ItzT K a b) (zipD ds es) F := fun F' H' s1 s2 i => by
  have q1 : SqT K H' a xs := SqT.of (s2 _ _ (s1 _ _ h1))
  have q2 : SqT K H' b ys := SqT.of (s2 _ _ (s1 _ _ h2))
  refine ⟨fun d hd => ?_, fun hn => ?_⟩
  · unfold zipD at hd
    rw [List.getElem?_map, Option.map_eq_some_iff] at hd
    obtain ⟨⟨d1, d2⟩, hz, e⟩ := hd
    rw [List.getElem?_zip_eq_some] at hz
    subst e
    obtain ⟨v1, g1, w1⟩ := r1.get' hz.1
    obtain ⟨v2, g2, w2⟩ := r2.get' hz.2
    refine ⟨⟨xs, ys, v1, v2, q1, q2, g1, g2⟩, fun v H'' ⟨T, x, y, ev, hT, eH, f1, f2⟩ => ?_⟩
    subst ev eH
    have e1 := (f1 xs q1).symm.trans g1
    have e2 := (f2 ys q2).symm.trans g2
    cases e1
    cases e2
    have nf : F' T = none := s2.free hT
    refine ⟨upd F' T (.tup [v1, v2]), .tup upd_same (.cons (w1.mono (s1.trans (same_new nf))) (.cons (w2.mono (s1.trans (same_new nf))) .nil)), same_new nf, same_new hT, same_upd2 s2, fun c hc => ?_⟩
    by_cases z : c = T
    · subst z; exact .inr hT
    · rw [upd_ne z] at hc; exact .inl hc
  · unfold zipD at hn
    rw [List.getElem?_eq_none_iff, List.length_map, List.length_zip] at hn
    have e1 := r1.len
    have e2 := r2.len
    exact ⟨xs, ys, q1, q2, by omega⟩
def zipG (ds : List D) (k : List D → Prop) : Prop := match ds with
  | [.tuple xs, .tuple ys] => k (zipD xs ys)
  | _ => False
theorem wi_zip {P : List D → Env → Prop} {p tpos : Pos} {elts : List Expr} {kk : Nat} (hm : X.mg "zip" = none) (h : WAs Z X [a, b] env fun as e1 => absorb as e1 fun ds e2 => zipG ds fun xs => P xs e2) (hg : Gl X "zip" := by rfl)
    (hs : starEach [a, b] X.env = (false, eval a X.env) :: starEach [b] X.env := by rfl) (hpl : (backTo pos (starEach [b] X.env)).any (·.1) = false := by rfl) : WI Z X (.Tuple elts kk tpos) (.Call (.Name "zip" p) [a, b] [] pos) env P :=
  wi_of (RZ.pi_zipA hg hm (pa_As (Z := Z)) hs hpl) fun σ H F O b0 o0 => ⟨env, F, O, _, b0, o0, h, fun vs H1 ⟨F1, O1, as, e1, b1, o1, st, fr, q⟩ => by
    obtain ⟨F2, O2, ds, e2, b2, o2, r2, fr2, q⟩ := absorb_ok st b1 o1 q
    unfold zipG at q
    split at q
    · cases r2 with
      | cons r3 rn =>
        cases rn with
        | cons r4 rn =>
          cases rn
          cases r3 with
          | tup h3 r3 =>
            cases r4 with
            | tup h4 r4 => exact ⟨_, _, _, _, rfl, .inr ⟨SqT.of (b2.sub _ _ h3), SqT.of (b2.sub _ _ h4), F2, O2, _, e2, b2, o2, fr.trans fr2, gives_zipT h3 r3 h4 r4, q⟩⟩
    · exact q.elim⟩
end
end QL

/-! QZ: list(it) and tuple(it) where what the iterator gives is seen in the heap; zip of two tuples. -/
namespace QL
open PySem PySem.Spec PyProof.Rows L2

/-- an iterator at I that is walked into the list at S: the values so far, and what the heap then is -/
structure Src (prog : Program) (w : World) (A : Around) (S I : Addr) (wr : List Addr) (n : Nat) (St : Nat → List Value → Heap → Prop) (Fn : List Value → Heap → Prop) : Prop where
  notS : S ∉ wr
  neS : S ≠ I
  frame : ∀ i acc h h', St i acc h → (∀ b o, b ≠ S → h.get? b = some o → h'.get? b = some o) → (∃ o, h'.get? S = some o) → St i acc h'
  item : ∀ i acc (s : Shared) (Q : Option Value → Shared → Prop) (E : Value → Shared → Prop), i < n → St i acc s.heap →
    (∀ v h' tk, St (i + 1) (acc ++ [v]) h' → (∀ b o, b ∉ wr → s.heap.get? b = some o → h'.get? b = some o) → Q (some v) { s with heap := h', toks := tk }) → wpAny (model prog w) A (pyNext (.ref I)) Q E s
  done : ∀ acc (s : Shared) (Q : Option Value → Shared → Prop) (E : Value → Shared → Prop), St n acc s.heap →
    (∀ h' tk, Fn acc h' → (∀ b o, b ∉ wr → s.heap.get? b = some o → h'.get? b = some o) → Q none { s with heap := h', toks := tk }) → wpAny (model prog w) A (pyNext (.ref I)) Q E s
  self : ∀ acc (s : Shared) (Q : Value → Shared → Prop) (E : Value → Shared → Prop), St 0 acc s.heap → Q (.ref I) s → wpAny (model prog w) A (pyIter (.ref I)) Q E s
abbrev lstObj (acc : List Value) (c : Nat) : Obj := { cls := .type "list", data := .seq acc.toArray c }
section
variable {prog : Program} {w : World} {A : Around} {S I : Addr} {wr : List Addr} {n : Nat} {St : Nat → List Value → Heap → Prop} {Fn : List Value → Heap → Prop} {R : Result → Shared → Prop}
theorem src_loop (W : Src prog w A.in1 S I wr n St Fn) (hn : n ≤ sizeLine) (res : Value) : ∀ (k i : Nat) (s : Shared) (acc : List Value) (c : Nat), n - i = k → i ≤ n → acc.length = i → St i acc s.heap → s.heap.get? S = some (lstObj acc c) →
    (∀ h' tk acc' c', Fn acc' h' → acc'.length = n → h'.get? S = some (lstObj acc' c') → (∀ b o, b ≠ S → b ∉ wr → s.heap.get? b = some o → h'.get? b = some o) → R (.ok (.ret res)) { s with heap := h', toks := tk }) →
    codeAny (model prog w) A (.builtin "list.extend.loop" ⟨[.ref S, .ref I, res], []⟩) R s := by
  intro k
  induction k with
  | zero =>
    intro i s acc c hk hi hl hst hS hR
    have e : i = n := by omega
    subst e
    refine codeAny_builtin F.entry_extend_loop ?_
    rw [Around.under_plainId F.plain_extend_loop _]
    show wpAny _ A.in1 (pyNext (.ref I) >>= _) _ _ s
    exact wpAny_bind (W.done acc s _ _ hst fun h' tk hst' kp => wpAny_pure (hR h' tk acc c hst' hl (kp S _ W.notS hS) fun b o _ hb e => kp b o hb e))
  | succ k ih =>
    intro i s acc c hk hi hl hst hS hR
    have hlt : i < n := by omega
    refine codeAny_builtin F.entry_extend_loop ?_
    rw [Around.under_plainId F.plain_extend_loop _]
    show wpAny _ A.in1 (pyNext (.ref I) >>= _) _ _ s
    refine wpAny_bind (W.item i acc s _ _ hlt hst fun v h' tk hst' kp => ?_)
    have hS' : h'.get? S = some (lstObj acc c) := kp S _ W.notS hS
    show wpAny _ A.in1 (updateSeq S (·.push v) >>= _) _ _ _
    refine wpAny_bind ?_
    have hu := PySem.IsL.update hS' (·.push v)
    rw [show acc.toArray.push v = (acc ++ [v]).toArray by simp] at hu
    refine wpAny_updateSeq (s := { s with heap := h', toks := tk }) hS' rfl (wpAny_pure ⟨plainId_quiet F.plain_extend_loop _, ?_⟩) (by rw [List.size_toArray]; omega) (by show (acc.toArray.push v).size ≤ sizeLine + 1; rw [Array.size_push, List.size_toArray]; omega)
    refine ih (i + 1) { s with heap := h'.update S (Obj.mapSeq (·.push v)), toks := tk } (acc ++ [v]) _ (by omega) hlt (by rw [List.length_append, hl]; rfl) ?_ hu fun h2 tk2 acc2 c2 s2 l2 g2 k2 => ?_
    · exact W.frame _ _ _ _ hst' (fun b o hb e => (Heap.get?_update_other _ _ (Ne.symm hb)).trans e) ⟨_, hu⟩
    · exact hR h2 tk2 acc2 c2 s2 l2 g2 fun b o hb hw e => k2 b o hb hw ((Heap.get?_update_other _ _ (Ne.symm hb)).trans (kp b o hw e))

/-- the type of such an iterator tells no length -/
structure Mute (T : String) : Prop where
  len : typeLookup (.type T) "__len__" = pure none
  hint : typeLookup (.type T) "__length_hint__" = pure none
  nl : (Value.type T == Value.type "list") = false
  nt : (Value.type T == Value.type "tuple") = false
theorem mute_zip : Mute "zip" := ⟨by rw [typeLookup_type, builtinLookup_eq_fast]; kernel_rfl, by rw [typeLookup_type, builtinLookup_eq_fast]; kernel_rfl, by decide, by decide⟩
theorem src_extend {T : String} (m : Mute T) (W : Src prog w A.in1 S I wr n St Fn) (hn : n ≤ sizeLine) (res : Value) (s : Shared) (c : Nat) (hT : ∀ i acc (s' : Shared), St i acc s'.heap → s'.TypeIs (.ref I) T) (hst : St 0 [] s.heap) (hS : s.heap.get? S = some (lstObj [] c))
    (hR : ∀ h' tk acc' c', Fn acc' h' → acc'.length = n → h'.get? S = some (lstObj acc' c') → (∀ b o, b ≠ S → b ∉ wr → s.heap.get? b = some o → h'.get? b = some o) → R (.ok (.ret res)) { s with heap := h', toks := tk }) :
    wpAny (model prog w) A.in1 (Builtin.List.listExtendWith (.ref S) (.ref I) res)
      (fun fin s' => match fin with | .done f => R (.ok f) s' | .again c' => c'.quiet = true ∧ codeAny (model prog w) A c' R s') (fun e s' => R (.error e) s') s := by
  unfold Builtin.List.listExtendWith
  have h0 := hT 0 [] s hst
  refine wpAny_bind (wpAny_typeOf h0 ?_)
  have h1 : Builtin.List.listSameRef (.ref S) (.ref I) = false := by simp [Builtin.List.listSameRef, W.neS]
  simp only [h1, m.nl, m.nt, Bool.or_false, Bool.false_eq_true, if_false]
  refine wpAny_bind (W.self [] _ _ _ hst ?_)
  refine wpAny_bind (wpAny_holding ?_)
  unfold Builtin.List.listLengthHint
  refine wpAny_bind (wpAny_specialOf h0 m.len ?_)
  show wpAny _ A.in1 (specialOf (Value.ref I) (Str.ofString "__length_hint__") >>= _) _ _ _
  refine wpAny_bind (wpAny_specialOf h0 m.hint ?_)
  refine wpAny_pure ?_
  show wpAny _ A.in1 (rule "list.extend.makes-room" >>= fun _ => Builtin.List.listTouch (.ref S) >>= fun _ => again (.builtin "list.extend.loop" ⟨[.ref S, .ref I, res], []⟩)) _ _ _
  refine wpAny_bind (wpAny_rule ?_)
  refine wpAny_bind ?_
  show wpAny _ A.in1 (updateSeq S (·.push .none) >>= fun _ => updateSeq S (·.pop)) _ _ _
  refine wpAny_bind (wpAny_updateSeq hS rfl ?_)
  have g1 := Heap.get?_update_self (Obj.mapSeq (·.push Value.none)) hS rfl
  refine wpAny_updateSeq g1 rfl ?_
  have g2 := Heap.get?_update_self (Obj.mapSeq (·.pop)) g1 rfl
  have out : ∀ b o, b ≠ S → s.heap.get? b = some o → ((s.heap.update S (Obj.mapSeq (·.push Value.none))).update S (Obj.mapSeq (·.pop))).get? b = some o := fun b o hb e =>
    (Heap.get?_update_other _ _ (Ne.symm hb)).trans ((Heap.get?_update_other _ _ (Ne.symm hb)).trans e)
  exact wpAny_pure ⟨plainId_quiet F.plain_extend_loop _, src_loop W hn res n 0 { s with heap := (s.heap.update S (Obj.mapSeq (·.push Value.none))).update S (Obj.mapSeq (·.pop)) } [] _ (Nat.sub_zero n) (Nat.zero_le _) rfl (W.frame _ _ _ _ hst out ⟨_, g2⟩) g2
    fun h' tk acc' c' s2 l2 g k => hR h' tk acc' c' s2 l2 g fun b o hb hw e => k b o hb hw (out b o hb e)⟩
variable {E : Value → Shared → Prop} {s : Shared}
/-- list(it) -/
theorem call_list_src {T : String} (m : Mute T) {Q : Value → Shared → Prop} (W : Src prog w A.in1.in1 s.heap.objs.size I wr n St Fn) (hn : n ≤ sizeLine) (hT : ∀ i acc (s' : Shared), St i acc s'.heap → s'.TypeIs (.ref I) T)
    (hst : ∀ h', (∀ b o, s.heap.get? b = some o → h'.get? b = some o) → (∃ o, h'.get? s.heap.objs.size = some o) → St 0 [] h')
    (hQ : ∀ h' tk acc c, Fn acc h' → acc.length = n → h'.get? s.heap.objs.size = some (lstObj acc c) → (∀ b o, b ∉ wr → s.heap.get? b = some o → h'.get? b = some o) → Q (.ref s.heap.objs.size) { s with heap := h', toks := tk }) :
    wpAny (model prog w) A (call (.type "list") [.ref I]) Q E s := by
  refine callType_codes (Q₁ := fun ob s₁ => ob = .ref s.heap.objs.size ∧ s₁ = { s with heap := s.heap.push (lstObj [] 0) }) F.called_list (F.typeCall_list_1 _) F.entry_list_init (code_list_new _ ⟨rfl, rfl⟩) fun ob s₁ h₁ => ?_
  obtain ⟨rfl, rfl⟩ := h₁
  have g0 : (s.heap.push (lstObj [] 0)).get? s.heap.objs.size = some (lstObj [] 0) := Heap.get?_push_size _ rfl
  have up : ∀ b o, s.heap.get? b = some o → (s.heap.push (lstObj [] 0)).get? b = some o := fun b o e => Heap.get?_push_of_some _ e
  refine ⟨⟨_, g0, rfl⟩, F.args_list_init_2 _ _, ?_⟩
  show wpAny _ _ (do let old ← Builtin.List.listItems (.ref s.heap.objs.size); Builtin.List.listUpdate (.ref s.heap.objs.size) (fun _ => #[]); letGo old.toList.reverse; Builtin.List.listExtendWith (.ref s.heap.objs.size) (.ref I) .none) _ _ _
  refine wpAny_bind ?_
  unfold Builtin.List.listItems
  refine wpAny_bind (wpAny_seqItems g0 rfl (wpAny_pure ?_))
  show wpAny _ _ (updateSeq s.heap.objs.size (fun _ => #[]) >>= fun _ => letGo (#[] : Array Value).toList.reverse >>= fun _ => Builtin.List.listExtendWith (.ref s.heap.objs.size) (.ref I) .none) _ _ _
  refine wpAny_bind (wpAny_updateSeq g0 rfl ?_)
  have g1 := Heap.get?_update_self (Obj.mapSeq (fun _ => (#[] : Array Value))) g0 rfl
  have out : ∀ b o, s.heap.get? b = some o → ((s.heap.push (lstObj [] 0)).update s.heap.objs.size (Obj.mapSeq (fun _ => (#[] : Array Value)))).get? b = some o := fun b o e =>
    (Heap.get?_update_other _ _ (Nat.ne_of_gt (Heap.lt_size e))).trans (up b o e)
  refine wpAny_bind (wpAny_letGo ?_)
  refine src_extend (s := { s with heap := (s.heap.push (lstObj [] 0)).update s.heap.objs.size (Obj.mapSeq (fun _ => (#[] : Array Value))) }) m W hn .none _ hT (hst _ out ⟨_, g1⟩) g1 fun h' tk acc c s2 l2 g k => ?_
  exact ⟨rfl, hQ h' tk acc c s2 l2 g fun b o hb e => k b o (Nat.ne_of_lt (Heap.lt_size e)) hb (out b o e)⟩
theorem code_collect_src {T : String} (m : Mute T) {R : Result → Shared → Prop} (W : Src prog w A.in1 s.heap.objs.size I wr n St Fn) (hn : n ≤ sizeLine) (hT : ∀ i acc (s' : Shared), St i acc s'.heap → s'.TypeIs (.ref I) T)
    (hst : ∀ h', (∀ b o, s.heap.get? b = some o → h'.get? b = some o) → (∃ o, h'.get? s.heap.objs.size = some o) → St 0 [] h')
    (hR : ∀ h' tk acc c, Fn acc h' → acc.length = n → h'.get? s.heap.objs.size = some (lstObj acc c) → (∀ b o, b ∉ wr → s.heap.get? b = some o → h'.get? b = some o) → R (.ok (.ret (.ref s.heap.objs.size))) { s with heap := h', toks := tk }) :
    codeAny (model prog w) A (.builtin "proto.collect" ⟨[.ref I], []⟩) R s := by
  refine codeAny_builtin F.entry_proto_collect ?_
  rw [Around.under_plainId F.plain_proto_collect _]
  show wpAny _ A.in1 (newList [] >>= fun l' => again (.builtin "list.__iadd__" ⟨[l', .ref I], []⟩)) _ _ s
  refine wpAny_bind (wpAny_newObj_type ?_)
  refine wpAny_pure ⟨plainId_quiet F.plain_list_iadd _, codeAny_builtin F.entry_list_iadd ?_⟩
  rw [Around.under_plainId F.plain_list_iadd _]
  have g0 : (s.heap.push (lstObj [] 0)).get? s.heap.objs.size = some (lstObj [] 0) := Heap.get?_push_size _ rfl
  have up : ∀ b o, s.heap.get? b = some o → (s.heap.push (lstObj [] 0)).get? b = some o := fun b o e => Heap.get?_push_of_some _ e
  show wpAny _ A.in1 (Builtin.List.listExtendWith (.ref s.heap.objs.size) (.ref I) (.ref s.heap.objs.size)) _ _ _
  exact src_extend (R := R) (s := { s with heap := s.heap.push (lstObj [] 0) }) m W hn (.ref s.heap.objs.size) _ hT (hst _ up ⟨_, g0⟩) g0 fun h' tk acc c s2 l2 g k => hR h' tk acc c s2 l2 g fun b o hb e => k b o (Nat.ne_of_lt (Heap.lt_size e)) hb (up b o e)
theorem collect_src {T : String} (m : Mute T) {Q : List Value → Shared → Prop} (W : Src prog w A.in1 s.heap.objs.size I wr n St Fn) (hn : n ≤ sizeLine) (hT : ∀ i acc (s' : Shared), St i acc s'.heap → s'.TypeIs (.ref I) T)
    (hst : ∀ h', (∀ b o, s.heap.get? b = some o → h'.get? b = some o) → (∃ o, h'.get? s.heap.objs.size = some o) → St 0 [] h')
    (hQ : ∀ h' tk acc, Fn acc h' → acc.length = n → (∀ b o, b ∉ wr → s.heap.get? b = some o → h'.get? b = some o) → Q acc { s with heap := h', toks := tk }) : wpAny (model prog w) A (collect (.ref I)) Q E s := by
  unfold collect
  refine wpAny_bind (wpAny_runValue (code_collect_src m W hn hT hst fun h' tk acc c s2 l2 g k => ?_))
  show wpAny _ A (load s.heap.objs.size >>= _) _ _ _
  refine wpAny_bind (wpAny_load g ?_)
  exact wpAny_pure (hQ h' tk acc s2 l2 k)
/-- tuple(it) -/
theorem call_tuple_src {T : String} (m : Mute T) {Q : Value → Shared → Prop} (W : Src prog w A.in1.in1.in1 s.heap.objs.size I wr n St Fn) (hn : n ≤ sizeLine) (hT : ∀ i acc (s' : Shared), St i acc s'.heap → s'.TypeIs (.ref I) T)
    (hst : ∀ h', (∀ b o, s.heap.get? b = some o → h'.get? b = some o) → (∃ o, h'.get? s.heap.objs.size = some o) → St 0 [] h') (hI : s.TypeIs (.ref I) T)
    (hQ : ∀ h' tk acc, Fn acc h' → acc.length = n → (∀ b o, b ∉ wr → s.heap.get? b = some o → h'.get? b = some o) → Q (.ref h'.objs.size) { s with heap := h'.push { cls := .type "tuple", data := .seq acc.toArray }, toks := tk }) :
    wpAny (model prog w) A (call (.type "tuple") [.ref I]) Q E s := by
  refine callType_codes (Q₁ := fun ob s₁ => s₁.TypeIs ob "tuple" ∧ Q ob s₁) F.called_tuple (F.typeCall_tuple_1 _) F.entry_object_init ?_ fun ob s₁ h₁ => ?_
  · refine codeAny_of_tree ?_
    show wpAny _ A.in1.in1 (do checkBuiltinCall "tuple.__new__" ⟨[.type "tuple", .ref I], []⟩; again (.builtin "tuple.__new__" ⟨[.type "tuple", .ref I], []⟩)) _ _ s
    refine wpAny_bind (wpAny_of_eq (F.newCall_tuple_1 _) (wpAny_pure ⟨plainId_quiet F.plain_tuple_new _, codeAny_builtin F.entry_tuple_new ?_⟩))
    rw [Around.under_plainId F.plain_tuple_new _]
    have hsub := sub_tuple_self
    have hinit := init_tuple_lookup
    have hmh := madeHere_tuple
    wp_walk using wpAny_typeOf hI
    rw [if_neg (show ¬ ((Value.type T == Value.type "tuple") = true) by rw [m.nt]; exact Bool.false_ne_true)]
    wp_walk using collect_src (A := A.in1.in1) m W hn hT hst
    intro h' tk acc s2 l2 k
    show wpAny _ _ (Builtin.Tuple.tupleExact acc.toArray >>= fun v => ret v) _ _ _
    unfold Builtin.Tuple.tupleExact
    refine wpAny_bind (wpAny_newObj_type ?_ (by show acc.toArray.size ≤ sizeLine; rw [List.size_toArray, l2]; exact hn))
    refine wpAny_pure ?_
    exact ⟨⟨_, Heap.get?_push_size _ rfl, rfl⟩, hQ h' tk acc s2 l2 k⟩
  · exact ⟨h₁.1, F.args_object_init_2 ob _, object_init_meets F.called_tuple.init.lookup F.called_tuple.made (by decide) prog w A.in1 _ s₁ ⟨h₁.1, rfl, h₁.2⟩⟩

/-! ### zip of two tuples; the pairs it gives stay alive -/
section
variable {z TI TO T i1 i2 l1 l2 : Addr} {xs ys : Array Value} {k : Nat}
open PySem.W in
theorem zh_item {f : Bool} {oT : Obj} {x y : Value} {Q : Option Value → Shared → Prop} (D : ZipApart z TI TO i1 i2 l1 l2) (hz : IsZipHeld s.heap z TI TO T f) (hT : s.heap.get? T = some oT) (hTI : IsPair s.heap TI (.ref i1) (.ref i2))
    (a1 : s.heap.IsTupleIter i1 l1 k) (a2 : s.heap.IsTupleIter i2 l2 k) (t1 : s.heap.IsTuple l1 xs) (t2 : s.heap.IsTuple l2 ys) (hx : xs[k]? = some x) (hy : ys[k]? = some y)
    (hQ : ∀ h', IsZipHeld h' z TI TO T true → h'.IsTupleIter i1 l1 (k + 1) → h'.IsTupleIter i2 l2 (k + 1) → IsPair h' s.heap.objs.size x y → (∀ c o, c ≠ z → c ≠ i1 → c ≠ i2 → s.heap.get? c = some o → h'.get? c = some o) →
      Q (some (.ref s.heap.objs.size)) { s with heap := h' }) : wpAny (model prog w) A (pyNext (.ref z)) Q E s := by
  have ty : s.TypeIs (.ref z) "zip" := ⟨_, hz, rfl⟩
  have body : ∀ E' : Value → Shared → Prop, wpAny (model prog w) A.in1 (Builtin.«zip.__next__» ⟨[.ref z], []⟩) (fun fin s' => ∃ v, fin = .done (.ret v) ∧ wpAny (model prog w) A (pure (some v)) Q E s') E' s := by
    intro E'
    show wpAny _ _ (field (.ref z) 2 >>= _) _ _ _
    refine wpAny_bind (wpAny_field hz rfl (x := .bool false) rfl ?_)
    show wpAny _ _ (field (.ref z) 3 >>= _) _ _ _
    refine wpAny_bind (wpAny_field hz rfl (x := .ref TI) rfl (wpAny_bind (wpAny_seqItems hTI rfl ?_)))
    show wpAny _ _ (Builtin.SmallTypes.ownedTupleIsFree (.ref z) >>= _) _ _ _
    refine wpAny_bind (wpAny_tupleHeld_zip hz hT fun g1 z1 e1 => ?_)
    simp only [Bool.false_eq_true, if_false]
    refine wpAny_bind ?_
    rw [← Array.forIn_toList]
    simp only [List.forIn_cons, List.forIn_nil]
    refine wpAny_bind (wpAny_bind (wpAny_holding ?_))
    show wpAny _ _ (Builtin.SmallTypes.nextOf (.ref i1) >>= _) _ _ _
    refine wpAny_bind (RZ.nextOf_tuple_item (s := { s with heap := g1 }) (a1.extBut e1.extBut D.i1z) (t1.extBut e1.extBut D.l1z) hx fun g2 b1 e2 => wpAny_pure (wpAny_pure ?_))
    refine wpAny_bind (wpAny_bind (wpAny_holding ?_))
    show wpAny _ _ (Builtin.SmallTypes.nextOf (.ref i2) >>= _) _ _ _
    refine wpAny_bind (RZ.nextOf_tuple_item (s := { s with heap := g2 }) ((a2.extBut e1.extBut D.i2z).extBut e2.extBut D.i12.symm) ((t2.extBut e1.extBut D.l2z).extBut e2.extBut D.l2i1) hy fun g3 b2 e3 => wpAny_pure (wpAny_pure (wpAny_pure ?_)))
    show wpAny _ _ (newTuple [x, y] >>= _) _ _ _
    refine wpAny_bind (wpAny_newTuple ?_)
    have sz : g3.objs.size = s.heap.objs.size := by rw [e3.1, e2.1, e1.1]
    have z3 : IsZipHeld g3 z TI TO T true := e3.extBut _ _ D.i2z.symm (e2.extBut _ _ D.i1z.symm z1)
    have kp : ∀ c o, c ≠ z → c ≠ i1 → c ≠ i2 → s.heap.get? c = some o → g3.get? c = some o := fun c o c1 c2 c3 e => e3.extBut _ _ c3 (e2.extBut _ _ c2 (e1.extBut _ _ c1 e))
    have up : ∀ c o, g3.get? c = some o → (g3.push { cls := .type "tuple", data := .seq #[x, y] }).get? c = some o := fun c o e => Heap.get?_push_of_some _ e
    refine wpAny_pure ⟨_, rfl, wpAny_pure ?_⟩
    show Q (some (.ref g3.objs.size)) _
    have pr : IsPair (g3.push { cls := .type "tuple", data := .seq #[x, y] }) g3.objs.size x y := Heap.get?_push_size _ rfl
    rw [sz] at pr ⊢
    exact hQ _ (up _ _ z3) ((b1.extBut e3.extBut D.i12).at fun o e => up _ o e) (b2.at fun o e => up _ o e) pr fun c o c1 c2 c3 e => up _ _ (kp c o c1 c2 c3 e)
  unfold pyNext
  exact wpAny_bind (wpAny_attempt (wpAny_callSpecial?_slot (name := Str.ofString "__next__") ty F.slot_zip_next (wpAny_call_entry F.slot_zip_next ty F.entry_zip_next (body _) (F.args_zip_next_1 _))))

open PySem.W in
theorem zh_end {f : Bool} {oT : Obj} {Q : Option Value → Shared → Prop} (hh : A.handled = none) (D : ZipApart z TI TO i1 i2 l1 l2) (hz : IsZipHeld s.heap z TI TO T f) (hT : s.heap.get? T = some oT) (hTI : IsPair s.heap TI (.ref i1) (.ref i2))
    (a1 : s.heap.IsTupleIter i1 l1 k) (a2 : s.heap.IsTupleIter i2 l2 k) (t1 : s.heap.IsTuple l1 xs) (t2 : s.heap.IsTuple l2 ys) (hend : xs[k]? = none ∨ ys[k]? = none)
    (hQ : ∀ h', (∀ c o, c ≠ z → c ≠ i1 → c ≠ i2 → s.heap.get? c = some o → h'.get? c = some o) → Q none { s with heap := h' }) : wpAny (model prog w) A (pyNext (.ref z)) Q E s := by
  have ty : s.TypeIs (.ref z) "zip" := ⟨_, hz, rfl⟩
  have stop : ∀ (h' : Heap) (e : Addr), (∀ c o, c ≠ z → c ≠ i1 → c ≠ i2 → s.heap.get? c = some o → h'.get? c = some o) → (∃ o, h'.get? e = some o ∧ o.cls = .type "StopIteration") →
      wpAny (model prog w) A (do let b ← isInstance (.ref e) (.type "StopIteration"); if b then pure none else throw (.ref e)) Q E { s with heap := h' } := fun h' e kp ⟨o, ho, hc⟩ =>
    wpAny_bind (wpAny_isInstance (T := "StopIteration") (b := true) ⟨o, ho, hc⟩ isSubtype_stop (wpAny_pure (hQ _ kp)))
  unfold pyNext
  refine wpAny_bind (wpAny_attempt (wpAny_callSpecial?_slot (name := Str.ofString "__next__") ty F.slot_zip_next (wpAny_call_entry F.slot_zip_next ty F.entry_zip_next ?_ (F.args_zip_next_1 _))))
  show wpAny _ _ (field (.ref z) 2 >>= _) _ _ _
  refine wpAny_bind (wpAny_field hz rfl (x := .bool false) rfl ?_)
  show wpAny _ _ (field (.ref z) 3 >>= _) _ _ _
  refine wpAny_bind (wpAny_field hz rfl (x := .ref TI) rfl (wpAny_bind (wpAny_seqItems hTI rfl ?_)))
  show wpAny _ _ (Builtin.SmallTypes.ownedTupleIsFree (.ref z) >>= _) _ _ _
  refine wpAny_bind (wpAny_tupleHeld_zip hz hT fun g1 z1 e1 => ?_)
  simp only [Bool.false_eq_true, if_false]
  refine wpAny_bind ?_
  rw [← Array.forIn_toList]
  simp only [List.forIn_cons, List.forIn_nil]
  refine wpAny_bind (wpAny_bind (wpAny_holding ?_))
  show wpAny _ _ (Builtin.SmallTypes.nextOf (.ref i1) >>= _) _ _ _
  cases hx : xs[k]? with
  | none =>
    refine wpAny_bind (RZ.nextOf_tuple_end (s := { s with heap := g1 }) hh (a1.extBut e1.extBut D.i1z) (t1.extBut e1.extBut D.l1z) hx fun g2 e e2 he => ?_)
    exact stop g2 e (fun c o c1 c2 _ q => e2 _ _ c2 (e1.extBut _ _ c1 q)) he
  | some x =>
    have hy : ys[k]? = none := hend.resolve_left fun q => by rw [hx] at q; cases q
    refine wpAny_bind (RZ.nextOf_tuple_item (s := { s with heap := g1 }) (a1.extBut e1.extBut D.i1z) (t1.extBut e1.extBut D.l1z) hx fun g2 b1 e2 => wpAny_pure (wpAny_pure ?_))
    refine wpAny_bind (wpAny_bind (wpAny_holding ?_))
    show wpAny _ _ (Builtin.SmallTypes.nextOf (.ref i2) >>= _) _ _ _
    refine wpAny_bind (RZ.nextOf_tuple_end (s := { s with heap := g2 }) hh ((a2.extBut e1.extBut D.i2z).extBut e2.extBut D.i12.symm) ((t2.extBut e1.extBut D.l2z).extBut e2.extBut D.l2i1) hy fun g3 e e3 he => ?_)
    exact stop g3 e (fun c o c1 c2 c3 q => e3 _ _ c3 (e2.extBut _ _ c2 (e1.extBut _ _ c1 q))) he
/-- the pairs so far -/
def Prs (h : Heap) (xs ys : Array Value) (acc : List Value) : Prop := ∀ (j : Nat) (v : Value), acc[j]? = some v → ∃ t x y, v = Value.ref t ∧ IsPair h t x y ∧ xs[j]? = some x ∧ ys[j]? = some y
open PySem.W in
structure Zst (S z TI TO i1 i2 l1 l2 : Addr) (xs ys : Array Value) (i : Nat) (acc : List Value) (h : Heap) : Prop where
  len : acc.length = i
  ex : ∃ o, h.get? S = some o
  ti : IsPair h TI (.ref i1) (.ref i2)
  to : ∃ a b, IsPair h TO a b
  a1 : h.IsTupleIter i1 l1 i
  a2 : h.IsTupleIter i2 l2 i
  t1 : h.IsTuple l1 xs
  t2 : h.IsTuple l2 ys
  prs : Prs h xs ys acc
  st : (i = 0 ∧ IsZip h z TI TO .none) ∨ ∃ T f oT, 0 < i ∧ IsZipHeld h z TI TO T f ∧ h.get? T = some oT ∧ T ≠ z ∧ T ≠ i1 ∧ T ≠ i2 ∧ T ≠ S
  out : ∀ (j : Nat) (t : Addr), acc[j]? = some (Value.ref t) → t ≠ z ∧ t ≠ TO ∧ t ≠ i1 ∧ t ≠ i2 ∧ t ≠ S ∧ z < t
structure Far (S z TI TO i1 i2 l1 l2 : Addr) : Prop where
  z : z ≠ S
  ti : TI ≠ S
  to : TO ≠ S
  i1 : i1 ≠ S
  i2 : i2 ≠ S
  l1 : l1 ≠ S
  l2 : l2 ≠ S
theorem Prs.snoc {h : Heap} {acc : List Value} {t : Addr} {x y : Value} (p : Prs h xs ys acc) (hp : IsPair h t x y) (hx : xs[acc.length]? = some x) (hy : ys[acc.length]? = some y) : Prs h xs ys (acc ++ [Value.ref t]) := fun j v e => by
  by_cases hj : j < acc.length
  · rw [List.getElem?_append_left hj] at e
    exact p j v e
  · rw [List.getElem?_append_right (by omega)] at e
    have ej : j - acc.length = 0 := by
      cases q : j - acc.length with
      | zero => rfl
      | succ m => rw [q] at e; cases e
    rw [ej] at e
    cases e
    have ej : j = acc.length := by omega
    subst ej
    exact ⟨t, x, y, rfl, hp, hx, hy⟩
theorem Prs.keep {h h' : Heap} {acc : List Value} (p : Prs h xs ys acc) (k : ∀ (j : Nat) (t : Addr) o, acc[j]? = some (Value.ref t) → h.get? t = some o → h'.get? t = some o) : Prs h' xs ys acc := fun j v e => by
  obtain ⟨t, x, y, ev, hp, hx, hy⟩ := p j v e
  subst ev
  exact ⟨t, x, y, rfl, k j t _ e hp, hx, hy⟩
theorem out_snoc {acc : List Value} {a : Addr} {C : Addr → Prop} (p : ∀ (j : Nat) (t : Addr), acc[j]? = some (Value.ref t) → C t) (h : C a) : ∀ (j : Nat) (t : Addr), (acc ++ [Value.ref a])[j]? = some (Value.ref t) → C t := fun j t e => by
  have := List.mem_of_getElem? e
  rcases List.mem_append.mp this with m | m
  · obtain ⟨i, hi⟩ := List.getElem?_of_mem m
    exact p i t hi
  · cases List.mem_singleton.mp m; exact h
open PySem.W in
theorem src_zipT {S : Addr} (hh : A.handled = none) (D : ZipApart z TI TO i1 i2 l1 l2) (fa : Far S z TI TO i1 i2 l1 l2) : Src prog w A S z [z, TO, i1, i2] (min xs.size ys.size) (Zst S z TI TO i1 i2 l1 l2 xs ys) (fun acc h => Prs h xs ys acc ∧ ∀ (j : Nat) (t : Addr), acc[j]? = some (Value.ref t) → z < t) where
  notS := by simp [fa.z.symm, fa.to.symm, fa.i1.symm, fa.i2.symm]
  neS := fa.z.symm
  frame := fun i acc h h' Zs k ex => by
    refine ⟨Zs.len, ex, k _ _ fa.ti Zs.ti, Zs.to.imp fun a q => q.imp fun b q => k _ _ fa.to q, Zs.a1.at fun o => k _ o fa.i1, Zs.a2.at fun o => k _ o fa.i2, Zs.t1.at fun o => k _ o fa.l1, Zs.t2.at fun o => k _ o fa.l2,
      Zs.prs.keep fun j t o e => k t o (Zs.out j t e).2.2.2.2.1, ?_, Zs.out⟩
    rcases Zs.st with ⟨e, q⟩ | ⟨T, f, oT, ip, q, g, n1, n2, n3, n4⟩
    · exact .inl ⟨e, k _ _ fa.z q⟩
    · exact .inr ⟨T, f, oT, ip, k _ _ fa.z q, k _ _ n4 g, n1, n2, n3, n4⟩
  item := fun i acc s Q E hi Zs hQ => by
    have hx : xs[i]? = some xs[i] := Array.getElem?_eq_getElem (by omega)
    have hy : ys[i]? = some ys[i] := Array.getElem?_eq_getElem (by omega)
    obtain ⟨oS, hS⟩ := Zs.ex
    have lS : S ≠ s.heap.objs.size := Nat.ne_of_lt (Heap.lt_size hS)
    have l1' : i1 ≠ s.heap.objs.size := by obtain ⟨_, e, _⟩ := Zs.a1; exact Nat.ne_of_lt (Heap.lt_size e)
    have l2' : i2 ≠ s.heap.objs.size := by obtain ⟨_, e, _⟩ := Zs.a2; exact Nat.ne_of_lt (Heap.lt_size e)
    have len := Zs.len
    rcases Zs.st with ⟨e0, q⟩ | ⟨T, f, oT, ip, q, g, n1, n2, n3, n4⟩
    · obtain ⟨a, b, hTO⟩ := Zs.to
      have lz : z ≠ s.heap.objs.size := Nat.ne_of_lt (Heap.lt_size q)
      have lTO : TO ≠ s.heap.objs.size := Nat.ne_of_lt (Heap.lt_size hTO)
      refine RZ.pyNext_zipT_item D q Zs.ti hTO Zs.a1 Zs.a2 Zs.t1 Zs.t2 hx hy fun h' z' TO' b1 b2 pr _ kp => ?_
      have eacc : acc = [] := List.length_eq_zero_iff.mp (len.trans e0)
      subst eacc
      refine hQ (.ref s.heap.objs.size) h' s.toks ⟨by rw [List.length_append, len]; rfl, ⟨_, kp _ _ fa.z.symm fa.to.symm fa.i1.symm fa.i2.symm hS⟩, kp _ _ D.TIz D.TITO D.TIi1 D.TIi2 Zs.ti, ⟨_, _, TO'⟩, b1, b2, Zs.t1.at fun o => kp _ o D.l1z D.l1TO D.l1i1 D.l1i2, Zs.t2.at fun o => kp _ o D.l2z D.l2TO D.l2i1 D.l2i2, ?_, .inr ⟨_, false, _, Nat.succ_pos _, z', pr, lz.symm, l1'.symm, l2'.symm, lS.symm⟩, ?_⟩ ?_
      · exact Prs.snoc (acc := []) (fun j v e => nomatch e) pr (by rw [len]; exact hx) (by rw [len]; exact hy)
      · exact out_snoc (acc := []) (fun j t e => nomatch e) ⟨lz.symm, lTO.symm, l1'.symm, l2'.symm, lS.symm, Heap.lt_size q⟩
      · intro b o hb e
        simp only [List.mem_cons, List.not_mem_nil, or_false, not_or] at hb
        exact kp b o hb.1 hb.2.1 hb.2.2.1 hb.2.2.2 e
    · obtain ⟨a, b, hTO⟩ := Zs.to
      have lz : z ≠ s.heap.objs.size := Nat.ne_of_lt (Heap.lt_size q)
      have lTO : TO ≠ s.heap.objs.size := Nat.ne_of_lt (Heap.lt_size hTO)
      refine zh_item D q g Zs.ti Zs.a1 Zs.a2 Zs.t1 Zs.t2 hx hy fun h' z' b1 b2 pr kp => ?_
      refine hQ (.ref s.heap.objs.size) h' s.toks ⟨by rw [List.length_append, len]; rfl, ⟨_, kp _ _ fa.z.symm fa.i1.symm fa.i2.symm hS⟩, kp _ _ D.TIz D.TIi1 D.TIi2 Zs.ti, ⟨_, _, kp _ _ D.TOz D.TOi1 D.TOi2 hTO⟩, b1, b2, Zs.t1.at fun o => kp _ o D.l1z D.l1i1 D.l1i2, Zs.t2.at fun o => kp _ o D.l2z D.l2i1 D.l2i2, ?_, .inr ⟨T, true, oT, Nat.succ_pos _, z', kp _ _ n1 n2 n3 g, n1, n2, n3, n4⟩, ?_⟩ ?_
      · exact Prs.snoc (Zs.prs.keep fun j t o e => kp t o (Zs.out j t e).1 (Zs.out j t e).2.2.1 (Zs.out j t e).2.2.2.1) pr (by rw [len]; exact hx) (by rw [len]; exact hy)
      · refine out_snoc Zs.out ⟨lz.symm, lTO.symm, l1'.symm, l2'.symm, lS.symm, Heap.lt_size q⟩
      · intro b o hb e
        simp only [List.mem_cons, List.not_mem_nil, or_false, not_or] at hb
        exact kp b o hb.1 hb.2.2.1 hb.2.2.2 e
  done := fun acc s Q E Zs hQ => by
    have hend : xs[min xs.size ys.size]? = none ∨ ys[min xs.size ys.size]? = none := by
      rw [Array.getElem?_eq_none_iff, Array.getElem?_eq_none_iff]
      omega
    rcases Zs.st with ⟨e0, q⟩ | ⟨T, f, oT, ip, q, g, n1, n2, n3, n4⟩
    · obtain ⟨a, b, hTO⟩ := Zs.to
      refine RZ.pyNext_zipT_end hh D q Zs.ti hTO Zs.a1 Zs.a2 Zs.t1 Zs.t2 hend fun h' kp => hQ h' s.toks ⟨Zs.prs.keep fun j t o e => kp t o (Zs.out j t e).1 (Zs.out j t e).2.1 (Zs.out j t e).2.2.1 (Zs.out j t e).2.2.2.1, fun j t e => (Zs.out j t e).2.2.2.2.2⟩ fun b o hb e => ?_
      simp only [List.mem_cons, List.not_mem_nil, or_false, not_or] at hb
      exact kp b o hb.1 hb.2.1 hb.2.2.1 hb.2.2.2 e
    · refine zh_end hh D q g Zs.ti Zs.a1 Zs.a2 Zs.t1 Zs.t2 hend fun h' kp => hQ h' s.toks ⟨Zs.prs.keep fun j t o e => kp t o (Zs.out j t e).1 (Zs.out j t e).2.2.1 (Zs.out j t e).2.2.2.1, fun j t e => (Zs.out j t e).2.2.2.2.2⟩ fun b o hb e => ?_
      simp only [List.mem_cons, List.not_mem_nil, or_false, not_or] at hb
      exact kp b o hb.1 hb.2.2.1 hb.2.2.2 e
  self := fun acc s Q E Zs h => by
    rcases Zs.st with ⟨_, q⟩ | ⟨T, f, oT, ip, _⟩
    · exact wpAny_pyIter_zip q h
    · exact absurd ip (Nat.lt_irrefl 0)
end
end
end QL

/-! QY: many new objects at once; tuple(zip(t, u)), list(zip(t, u)). -/
namespace QL
open PySem PySem.Spec PyProof.Rows L2

/-- what was, and N from n on -/
def Hn (H : Hp) (n : Nat) (N : Hp) : Hp := fun b => if n ≤ b then N b else H b
theorem Hn_old {H N : Hp} {n : Nat} {b : Addr} (h : b < n) : Hn H n N b = H b := if_neg (Nat.not_le.mpr h)
theorem Hn_new {H N : Hp} {n : Nat} {b : Addr} (h : n ≤ b) : Hn H n N b = N b := if_pos h
theorem Inv.many {X : Cx} {pins : List (Addr × Obj)} {σ : L2.St} {H N : Hp} {s : Shared} {h' : Heap} {t' : Nat} (I : Inv X pins σ H s) (k : ∀ b u, s.heap.get? b = some u → h'.get? b = some u)
    (new : ∀ b o, s.heap.objs.size ≤ b → N b = some o → (∀ H' : Hp, ObjOk X.prog X.w H' h' b o)) : Inv X pins σ (Hn H s.heap.objs.size N) { s with heap := h', toks := t' } := by
  have old : ∀ {b : Addr} {o : HO}, H b = some o → Hn H s.heap.objs.size N b = some o := fun {b o} e => by rw [Hn_old (I.hok.lt e)]; exact e
  refine I.un (t' := t') ⟨fun b u q _ _ _ => k b u q, fun b u q _ _ _ => ⟨u.slots, k b u q⟩, fun b u q n _ => by rw [Hn_old (Heap.lt_size q)]; exact n, fun b u q _ => ⟨u, k b u q⟩, fun b xs q => old q, fun b u xs q => old q, fun b ps q => ⟨#[], by rw [old q]; simp⟩⟩ ?_
  intro a o e
  by_cases ha : s.heap.objs.size ≤ a
  · rw [Hn_new ha] at e
    exact new a o ha e _
  · rw [Hn_old (Nat.not_le.mp ha)] at e
    exact (I.hok a o e).stay (fun b u _ q => k b u q) (fun b q => old q) fun b xs q => old q
theorem NewV.many {F H NF N : Hp} {n : Nat} {k : T → Prop} {v : V} {t : T} {O' : List Addr} (sF : Same F H) (fresh : ∀ b, n ≤ b → H b = none) (sub : ∀ b o, n ≤ b → NF b = some o → N b = some o) (nd : O'.Nodup) (no : ∀ a ∈ O', n ≤ a ∧ NF a = none)
    (ow : Ow (Hn F n NF) (Hn H n N) O' v t) (h : k t) : NewV F H k v (Hn H n N) := by
  have lt : ∀ {b : Addr} {o : HO}, H b = some o → b < n := fun {b o} e => by
    rcases Nat.lt_or_ge b n with z | z
    · exact z
    · rw [fresh b z] at e; cases e
  refine ⟨Hn F n NF, O', t, fun b o e => ?_, fun b o e => by rw [Hn_old (lt e)]; exact e, fun b o e => ?_, fun b e => ?_, nd, fun a ha => ⟨fresh a (no a ha).1, by rw [Hn_new (no a ha).1]; exact (no a ha).2⟩, ow, h⟩
  · rw [Hn_old (lt (sF b o e))]; exact e
  · by_cases z : n ≤ b
    · rw [Hn_new z] at e ⊢; exact sub b o z e
    · rw [Hn_old (Nat.not_le.mp z)] at e ⊢; exact sF b o e
  · by_cases z : n ≤ b
    · exact .inr (fresh b z)
    · rw [Hn_old (Nat.not_le.mp z)] at e; exact .inl e

/-! ### the pairs that a walk over a zip has given -/
open Classical in
/-- pairs of values at the addresses in acc -/
noncomputable def prN (acc : List Value) (vs ws : List V) : Hp := fun b => if h : ∃ j : Nat, acc[j]? = some (Value.ref b) then (match vs[h.choose]?, ws[h.choose]? with | some v, some w => some (.tup [v, w]) | _, _ => none) else none
theorem prN_at {h : Heap} {n : Nat} {xs ys acc : List Value} {vs ws : List V} {ds es : List D} {F : Hp} (rv : Vals vs xs) (rw_ : Vals ws ys) (r1 : RpA F vs ds) (r2 : RpA F ws es) (p : Prs h xs.toArray ys.toArray acc) {b : Addr} {o : HO} (e : prN acc vs ws b = some o) :
    ∃ v w x y, o = .tup [v, w] ∧ IsPair h b x y ∧ L2.RelV v x ∧ L2.RelV w y := by
  unfold prN at e
  split at e
  · rename_i hj
    have hc := hj.choose_spec
    obtain ⟨t, x, y, et, hp, hx, hy⟩ := p _ _ hc
    cases et
    split at e
    · rename_i v w e1 e2
      cases e
      obtain ⟨u1, g1, q1⟩ := rv.get e1
      obtain ⟨u2, g2, q2⟩ := rw_.get e2
      have hx' : xs[hj.choose]? = some x := by simpa using hx
      have hy' : ys[hj.choose]? = some y := by simpa using hy
      rw [g1] at hx'
      rw [g2] at hy'
      cases hx'
      cases hy'
      exact ⟨v, w, _, _, rfl, hp, q1, q2⟩
    · cases e
  · cases e
theorem prN_of {h : Heap} {xs ys acc : List Value} {vs ws : List V} {ds es : List D} {F : Hp} (rv : Vals vs xs) (rw_ : Vals ws ys) (r1 : RpA F vs ds) (r2 : RpA F ws es) (inj : ∀ (v1 v2 : V) (u : Value), L2.RelV v1 u → L2.RelV v2 u → v1 = v2) (p : Prs h xs.toArray ys.toArray acc) {j : Nat} {u : Value} (e : acc[j]? = some u) :
    ∃ b v w d1 d2, u = Value.ref b ∧ prN acc vs ws b = some (.tup [v, w]) ∧ ds[j]? = some d1 ∧ es[j]? = some d2 ∧ Rp F v d1 ∧ Rp F w d2 := by
  obtain ⟨t, x, y, rfl, hp, hx, hy⟩ := p _ _ e
  have hx' : xs[j]? = some x := by simpa using hx
  have hy' : ys[j]? = some y := by simpa using hy
  have gv : ∃ v, vs[j]? = some v ∧ L2.RelV v x := by
    cases q : vs[j]? with
    | none => rw [List.getElem?_eq_none_iff, rv.length, ← List.getElem?_eq_none_iff] at q; rw [q] at hx'; cases hx'
    | some v => obtain ⟨u, g, r⟩ := rv.get q; rw [g] at hx'; cases hx'; exact ⟨v, rfl, r⟩
  have gw : ∃ v, ws[j]? = some v ∧ L2.RelV v y := by
    cases q : ws[j]? with
    | none => rw [List.getElem?_eq_none_iff, rw_.length, ← List.getElem?_eq_none_iff] at q; rw [q] at hy'; cases hy'
    | some v => obtain ⟨u, g, r⟩ := rw_.get q; rw [g] at hy'; cases hy'; exact ⟨v, rfl, r⟩
  obtain ⟨v, g1, q1⟩ := gv
  obtain ⟨w, g2, q2⟩ := gw
  obtain ⟨d1, k1, s1⟩ := r1.get g1
  obtain ⟨d2, k2, s2⟩ := r2.get g2
  refine ⟨t, v, w, d1, d2, rfl, ?_, k1, k2, s1, s2⟩
  unfold prN
  have hj : ∃ j : Nat, acc[j]? = some (Value.ref t) := ⟨j, e⟩
  rw [dif_pos hj]
  -- another place of the same address bears the same values
  obtain ⟨t', x', y', et, hp', hx2, hy2⟩ := p _ _ hj.choose_spec
  cases et
  have ee := hp.symm.trans hp'
  simp only [Option.some.injEq, Obj.mk.injEq, Data.seq.injEq, true_and, and_true] at ee
  have exy : x = x' ∧ y = y' := by simpa using ee
  obtain ⟨rfl, rfl⟩ := exy
  have hx3 : xs[hj.choose]? = some x := by simpa using hx2
  have hy3 : ys[hj.choose]? = some y := by simpa using hy2
  have gv' : vs[hj.choose]? = some v := by
    cases q : vs[hj.choose]? with
    | none => rw [List.getElem?_eq_none_iff, rv.length, ← List.getElem?_eq_none_iff] at q; rw [q] at hx3; cases hx3
    | some v' => obtain ⟨u, g, r⟩ := rv.get q; rw [g] at hx3; cases hx3; rw [inj v' v _ r q1]
  have gw' : ws[hj.choose]? = some w := by
    cases q : ws[hj.choose]? with
    | none => rw [List.getElem?_eq_none_iff, rw_.length, ← List.getElem?_eq_none_iff] at q; rw [q] at hy3; cases hy3
    | some v' => obtain ⟨u, g, r⟩ := rw_.get q; rw [g] at hy3; cases hy3; rw [inj v' w _ r q2]
  rw [gv', gw']
def vOf : Value → Option V
  | .none => some .non
  | .bool b => some (.bl b)
  | .int i _ => some (.int i)
  | .str x _ => some (.str x)
  | .bytes x _ => some (.byt x)
  | .float x _ => some (.flt x)
  | .ref a => some (.ref a)
  | .type n => some (.ty n)
  | _ => none
theorem vOf_rel : ∀ (v : V) (u : Value), L2.RelV v u → vOf u = some v
  | .non, _, rfl => rfl
  | .bl _, _, rfl => rfl
  | .int _, _, ⟨_, rfl⟩ => rfl
  | .str _, _, ⟨_, rfl⟩ => rfl
  | .byt _, _, ⟨_, rfl⟩ => rfl
  | .flt _, _, ⟨_, rfl⟩ => rfl
  | .ref _, _, rfl => rfl
  | .ty _, _, rfl => rfl
theorem relV_inj (v1 v2 : V) (u : Value) (h1 : L2.RelV v1 u) (h2 : L2.RelV v2 u) : v1 = v2 := Option.some.inj ((vOf_rel _ _ h1).symm.trans (vOf_rel _ _ h2))
theorem RpA.of_get {F : Hp} : ∀ {vs : List V} {ds : List D}, vs.length = ds.length → (∀ (j : Nat) v, vs[j]? = some v → ∃ d, ds[j]? = some d ∧ Rp F v d) → RpA F vs ds
  | [], [], _, _ => .nil
  | [], _ :: _, h, _ => nomatch h
  | _ :: _, [], h, _ => nomatch h
  | v :: vs, d :: ds, h, k => by
    obtain ⟨d', e, r⟩ := k 0 v rfl
    cases e
    exact .cons r (RpA.of_get (Nat.succ.inj h) fun j v e => k (j + 1) v e)
/-- what is known behind a walk over zip(t, u) into a list or a tuple; n: where new objects begin -/
structure ZipGot (F : Hp) (n : Nat) (ds es : List D) (h' : Heap) (acc : List Value) (vs ws : List V) (us ts : List Value) : Prop where
  prs : Prs h' us.toArray ts.toArray acc
  len : acc.length = min us.length ts.length
  r1 : RpA F vs ds
  r2 : RpA F ws es
  v1 : Vals vs us
  v2 : Vals ws ts
  ge : ∀ (j : Nat) (t : Addr), acc[j]? = some (Value.ref t) → n ≤ t
  old : ∀ b o, F b = some o → b < n
def refV : Value → V
  | .ref t => .ref t
  | _ => .non
theorem ZipGot.tups {F : Hp} {n : Nat} {ds es : List D} {h' : Heap} {acc : List Value} {vs ws : List V} {us ts : List Value} (g : ZipGot F n ds es h' acc vs ws us ts) :
    Vals (acc.map refV) acc ∧ RpA (Hn F n (prN acc vs ws)) (acc.map refV) (zipD ds es) := by
  have sF : Same F (Hn F n (prN acc vs ws)) := fun b o e => by rw [Hn_old (g.old b o e)]; exact e
  have each := fun {j : Nat} {u : Value} (e : acc[j]? = some u) => prN_of g.v1 g.v2 g.r1 g.r2 relV_inj g.prs e
  refine ⟨?_, RpA.of_get ?_ fun j v e => ?_⟩
  · have : ∀ (l : List Value), (∀ u ∈ l, ∃ b, u = Value.ref b) → Vals (l.map refV) l := fun l => by
      induction l with
      | nil => intro _; exact .nil
      | cons u l ih =>
        intro h
        obtain ⟨b, rfl⟩ := h u List.mem_cons_self
        exact .cons rfl (ih fun u hu => h u (List.mem_cons_of_mem _ hu))
    refine this acc fun u hu => ?_
    obtain ⟨j, hj⟩ := List.getElem?_of_mem hu
    obtain ⟨b, v, w, d1, d2, e, _⟩ := each hj
    exact ⟨b, e⟩
  · unfold zipD
    rw [List.length_map, List.length_map, List.length_zip, g.len, ← g.v1.length, ← g.v2.length, g.r1.len, g.r2.len]
  · rw [List.getElem?_map, Option.map_eq_some_iff] at e
    obtain ⟨u, hu, ev⟩ := e
    obtain ⟨b, v1, w1, d1, d2, e1, e2, e3, e4, q1, q2⟩ := each hu
    subst e1
    subst ev
    refine ⟨.tuple [d1, d2], ?_, .tup ?_ (.cons (q1.mono sF) (.cons (q2.mono sF) .nil))⟩
    · unfold zipD
      rw [List.getElem?_map, show (ds.zip es)[j]? = some (d1, d2) from List.getElem?_zip_eq_some.mpr ⟨e3, e4⟩]
      rfl
    · rw [Hn_new (g.ge j b hu)]
      exact e2
theorem prN_ok {P : Program} {w : World} {F : Hp} {n : Nat} {ds es : List D} {h' : Heap} {acc : List Value} {vs ws : List V} {us ts : List Value} (g : ZipGot F n ds es h' acc vs ws us ts) {b : Addr} {o : HO} (e : prN acc vs ws b = some o) : ∀ H' : Hp, ObjOk P w H' h' b o := fun H' => by
  obtain ⟨v, w', x, y, rfl, hp, q1, q2⟩ := prN_at (n := n) g.v1 g.v2 g.r1 g.r2 g.prs e
  exact ⟨by show 2 ≤ sizeLine; decide, [x, y], .cons q1 (.cons q2 .nil), _, hp, rfl, _, rfl⟩
theorem far_of (I l1 l2 : Nat) (h1 : l1 < I) (h2 : l2 < I) : Far (I + 5) (I + 4) (I + 2) (I + 3) I (I + 1) l1 l2 := by
  constructor <;> (refine PySem.W.neN ?_; omega)
section
variable {X : Cx} {Tq : List (Addr × Str)} {Z : Zb Tq} {a b : Expr} {env : Env} {pos pos2 : Pos} {P : R → Env → Prop}
/-- the walk over zip(t, u), from where its arguments are made -/
theorem zip_walk (hc : X.calm = true) {pins : List (Addr × Obj)} {σ : L2.St} {H F : Hp} {s : Shared} {l1 l2 : Addr} {vs ws : List V} {ds es : List D} {O : List Addr} {k : T → Prop} (I : Inv X pins σ H s) (sF : Same F H) (h1 : F l1 = some (.tup vs)) (h2 : F l2 = some (.tup ws)) (r1 : RpA F vs ds) (r2 : RpA F ws es) (T0 : Value) (hT0 : (T0 = .type "tuple" ∧ k (.va (.tuple (zipD ds es)))) ∨ (T0 = .type "list" ∧ ∀ p, k (.lst p (zipD ds es)))) :
    wpAny (model X.prog X.w) X.A (call (.type "zip") [.ref l1, .ref l2]) (fun u s' => wpAny (model X.prog X.w) X.A (call T0 [u]) (EP X pins σ (NewV F H k)) X.xe s') X.xe s := by
  obtain ⟨us, rv, p1, z1⟩ := I.tuple (SqT.of (sF _ _ h1))
  obtain ⟨ts, rw_, p2, z2⟩ := I.tuple (SqT.of (sF _ _ h2))
  obtain ⟨o1, ho1, _⟩ := id p1
  obtain ⟨o2, ho2, _⟩ := id p2
  have lt1 := Heap.lt_size ho1
  have lt2 := Heap.lt_size ho2
  refine RZ.call_zipT (show s.heap.IsTuple l1 us.toArray from p1) (show s.heap.IsTuple l2 ts.toArray from p2) fun g hz hTI hTO q1 q2 hsz hk => ?_
  have ap := PySem.W.ktu_apart s.heap.objs.size l1 l2 lt1 lt2
  have far : Far g.objs.size (s.heap.objs.size + 4) (s.heap.objs.size + 2) (s.heap.objs.size + 3) s.heap.objs.size (s.heap.objs.size + 1) l1 l2 := by
    rw [hsz]
    exact far_of _ _ _ lt1 lt2
  have hn : min us.toArray.size ts.toArray.size ≤ sizeLine := by
    rw [List.size_toArray, ← rv.length]; omega
  have st0 : ∀ h' : Heap, (∀ b o, g.get? b = some o → h'.get? b = some o) → (∃ o, h'.get? g.objs.size = some o) → Zst g.objs.size (s.heap.objs.size + 4) (s.heap.objs.size + 2) (s.heap.objs.size + 3) s.heap.objs.size (s.heap.objs.size + 1) l1 l2 us.toArray ts.toArray 0 [] h' := fun h' kp ex =>
    ⟨rfl, ex, kp _ _ hTI, ⟨_, _, kp _ _ hTO⟩, q1.at fun o e => kp _ o e, q2.at fun o e => kp _ o e, (show s.heap.IsTuple l1 us.toArray from p1).at fun o e => kp _ o (hk _ _ e), (show s.heap.IsTuple l2 ts.toArray from p2).at fun o e => kp _ o (hk _ _ e),
      fun j v e => (nomatch e), .inl ⟨rfl, kp _ _ hz⟩, fun j t e => (nomatch e)⟩
  have ty : ∀ i acc (s' : Shared), Zst g.objs.size (s.heap.objs.size + 4) (s.heap.objs.size + 2) (s.heap.objs.size + 3) s.heap.objs.size (s.heap.objs.size + 1) l1 l2 us.toArray ts.toArray i acc s'.heap → s'.TypeIs (.ref (s.heap.objs.size + 4)) "zip" := fun i acc s' Zs => by
    rcases Zs.st with ⟨_, q⟩ | ⟨T, f, oT, _, q, _⟩
    · exact ⟨_, q, rfl⟩
    · exact ⟨_, q, rfl⟩
  have kept : ∀ {h' : Heap}, (∀ b o, b ∉ [s.heap.objs.size + 4, s.heap.objs.size + 3, s.heap.objs.size, s.heap.objs.size + 1] → g.get? b = some o → h'.get? b = some o) → ∀ b o, s.heap.get? b = some o → h'.get? b = some o := fun {h'} kp b o e => by
    refine kp b o (fun hm => ?_) (hk b o e)
    have := Heap.lt_size e
    simp only [List.mem_cons, List.not_mem_nil, or_false] at hm
    rcases hm with z | z | z | z
    · exact absurd (z ▸ this) (Nat.not_lt.mpr (Nat.le_add_right _ _))
    · exact absurd (z ▸ this) (Nat.not_lt.mpr (Nat.le_add_right _ _))
    · exact absurd (z ▸ this) (Nat.lt_irrefl _)
    · exact absurd (z ▸ this) (Nat.not_lt.mpr (Nat.le_add_right _ _))
  have fresh : ∀ b, s.heap.objs.size ≤ b → H b = none := fun b hb => I.hok.fresh hb
  have old : ∀ b o, F b = some o → b < s.heap.objs.size := fun b o e => I.hok.lt (sF b o e)
  rcases hT0 with ⟨e, hk0⟩ | ⟨e, hk0⟩
  · subst e
    refine call_tuple_src (s := { s with heap := g }) mute_zip (src_zipT (I.ok.hd hc) ap far) hn ty st0 ⟨_, hz, rfl⟩ fun h' tk acc ⟨Pr, bg⟩ len kp => ?_
    have ge : ∀ (j : Nat) (t : Addr), acc[j]? = some (Value.ref t) → s.heap.objs.size ≤ t := fun j t e => Nat.le_of_lt (Nat.lt_of_le_of_lt (Nat.le_add_right _ 4) (bg j t e))
    have G : ZipGot F s.heap.objs.size ds es h' acc vs ws us ts := ⟨Pr, by rw [len]; simp, r1, r2, rv, rw_, ge, old⟩
    obtain ⟨vz, rz⟩ := G.tups
    have lz : (acc.map refV).length ≤ sizeLine := by rw [List.length_map, len]; exact hn
    have le' : s.heap.objs.size ≤ h'.objs.size := Nat.le_of_lt (Nat.lt_of_le_of_lt (Nat.le_add_right _ 2) (Heap.lt_size (kp _ _ (by simp) hTI)))
    -- the pairs, and the tuple
    have k1 := kept kp
    have I2 : Inv X pins σ (Hn H s.heap.objs.size (upd (prN acc vs ws) h'.objs.size (.tup (acc.map refV)))) { s with heap := h'.push { cls := .type "tuple", data := .seq acc.toArray }, toks := tk } :=
      Inv.many (t' := tk) I (fun b u e => Heap.get?_push_of_some _ (k1 b u e)) fun b o hb e => by
        by_cases z : b = h'.objs.size
        · subst z
          rw [upd_same] at e
          cases e
          exact fun H' => ⟨lz, acc, vz, IsTup.new _ _⟩
        · rw [upd_ne z] at e
          intro H'
          exact (prN_ok (P := X.prog) (w := X.w) G e H').stay (fun c u _ q => Heap.get?_push_of_some _ q) (fun _ q => q) fun _ _ q => q
    refine ⟨.ref h'.objs.size, _, I2, rfl, NewV.many (NF := upd (prN acc vs ws) h'.objs.size (.tup (acc.map refV))) (O' := []) sF fresh (fun b o _ e => e) List.nodup_nil (fun _ z => (nomatch z)) (.va (.tup (by rw [Hn_new le', upd_same]) ?_)) hk0⟩
    refine rz.mono fun c o e => ?_
    by_cases z : s.heap.objs.size ≤ c
    · rw [Hn_new z] at e ⊢
      obtain ⟨_, _, _, _, _, hp, _⟩ := prN_at (n := s.heap.objs.size) G.v1 G.v2 G.r1 G.r2 G.prs e
      rw [upd_ne (Nat.ne_of_lt (Heap.lt_size hp))]
      exact e
    · rw [Hn_old (Nat.not_le.mp z)] at e ⊢
      exact e
  · subst e
    refine call_list_src (s := { s with heap := g }) mute_zip (src_zipT (I.ok.hd hc) ap far) hn ty st0 fun h' tk acc c0 ⟨Pr, bg⟩ len hS kp => ?_
    have ge : ∀ (j : Nat) (t : Addr), acc[j]? = some (Value.ref t) → s.heap.objs.size ≤ t := fun j t e => Nat.le_of_lt (Nat.lt_of_le_of_lt (Nat.le_add_right _ 4) (bg j t e))
    have G : ZipGot F s.heap.objs.size ds es h' acc vs ws us ts := ⟨Pr, by rw [len]; simp, r1, r2, rv, rw_, ge, old⟩
    obtain ⟨vz, rz⟩ := G.tups
    have lz : (acc.map refV).length ≤ sizeLine := by rw [List.length_map, len]; exact hn
    have leS : s.heap.objs.size ≤ g.objs.size := by rw [hsz]; exact Nat.le_add_right _ _
    have noS : prN acc vs ws g.objs.size = none := by
      cases q : prN acc vs ws g.objs.size with
      | none => rfl
      | some o =>
        obtain ⟨_, _, _, _, _, hp, _⟩ := prN_at (n := s.heap.objs.size) G.v1 G.v2 G.r1 G.r2 G.prs q
        have := hp.symm.trans hS
        simp at this
    have I2 : Inv X pins σ (Hn H s.heap.objs.size (upd (prN acc vs ws) g.objs.size (.lst (acc.map refV)))) { s with heap := h', toks := tk } :=
      Inv.many (t' := tk) I (kept kp) fun b o hb e => by
        by_cases z : b = g.objs.size
        · subst z
          rw [upd_same] at e
          cases e
          exact fun H' => ⟨lz, acc, c0, vz, hS⟩
        · rw [upd_ne z] at e
          exact prN_ok (P := X.prog) (w := X.w) G e
    refine ⟨.ref g.objs.size, _, I2, rfl, NewV.many (NF := prN acc vs ws) (O' := [g.objs.size]) sF fresh (fun b o _ e => ?_) (List.nodup_cons.mpr ⟨fun z => (nomatch z), List.nodup_nil⟩) (fun c hc' => ?_) (.lst (by rw [Hn_new leS, upd_same]) rz) (hk0 _)⟩
    · rw [upd_ne fun z => by rw [z, noS] at e; cases e]
      exact e
    · rw [List.mem_singleton.mp hc']
      exact ⟨leS, noS⟩
/-- tuple(zip(t, u)) -/
theorem w_zipT {p p2 : Pos} (hc : X.calm = true) (hm : X.mg "tuple" = none) (hm2 : X.mg "zip" = none) (h : WAs Z X [a, b] env fun as e1 => absorb as e1 fun ds e2 => zipG ds fun xs => P (.t (.va (.tuple xs))) e2) (hg : Gl X "tuple" := by rfl) (hg2 : Gl X "zip" := by rfl)
    (hs : starEach [a, b] X.env = (false, eval a X.env) :: starEach [b] X.env := by rfl) (hpl : (backTo pos2 (starEach [b] X.env)).any (·.1) = false := by rfl)
    (hs2 : starEach [.Call (.Name "zip" p2) [a, b] [] pos2] X.env = (false, eval (.Call (.Name "zip" p2) [a, b] [] pos2) X.env) :: starEach [] X.env := by rfl) :
    WE Z X (.Call (.Name "tuple" p) [.Call (.Name "zip" p2) [a, b] [] pos2] [] pos) env P := fun pins s σ H F O I b0 o => by
  refine Call_ (ld_blt I hg hm boot_tuple (PyProof.Rows.callWith_type1 (args_cons (Call_ (ld_blt I hg2 hm2 PyProof.Rows.boot_zip (PyProof.Rows.callWith_type1 (thn ((pa_As (Z := Z)).run pos2 pins s σ H (PostAs Z σ H F O _) I ⟨env, F, O, _, b0, o, h, fun _ _ q => q⟩)
    fun us s1 ⟨vs, H1, I1, rv, F1, O1, as, e1, b1, o1, st, fr, q⟩ => ?_) hs hpl))) hs2) hs2 rfl))
  obtain ⟨F2, O2, ds, e2, b2, o2, r2, fr2, q⟩ := absorb_ok st b1 o1 q
  unfold zipG at q
  split at q
  · cases r2 with
    | cons r3 rn =>
      cases rn with
      | cons r4 rn =>
        cases rn
        cases r3 with
        | tup h3 r3 =>
          cases r4 with
          | tup h4 r4 =>
            cases rv with
            | cons u1 rv =>
              cases rv with
              | cons u2 rv =>
                cases rv
                cases u1
                cases u2
                refine thn (zip_walk (k := fun t => t = .va (.tuple (zipD _ _))) (O := O2) hc I1 b2.sub h3 h4 r3 r4 (.type "tuple") (.inl ⟨rfl, rfl⟩)) fun u s2 q2 => args_nil (thn q2 (EP.imp fun v H' n => ?_))
                exact (n.post b2 o2 (fun t e => by subst e; exact q)).from (fr.trans fr2)
  · exact q.elim
/-- list(zip(t, u)) -/
theorem w_zipL {p p2 : Pos} (hc : X.calm = true) (hm : X.mg "list" = none) (hm2 : X.mg "zip" = none) (h : WAs Z X [a, b] env fun as e1 => absorb as e1 fun ds e2 => zipG ds fun xs => ∀ l, P (.t (.lst l xs)) e2) (hg : Gl X "list" := by rfl) (hg2 : Gl X "zip" := by rfl)
    (hs : starEach [a, b] X.env = (false, eval a X.env) :: starEach [b] X.env := by rfl) (hpl : (backTo pos2 (starEach [b] X.env)).any (·.1) = false := by rfl)
    (hs2 : starEach [.Call (.Name "zip" p2) [a, b] [] pos2] X.env = (false, eval (.Call (.Name "zip" p2) [a, b] [] pos2) X.env) :: starEach [] X.env := by rfl) :
    WE Z X (.Call (.Name "list" p) [.Call (.Name "zip" p2) [a, b] [] pos2] [] pos) env P := fun pins s σ H F O I b0 o => by
  refine Call_ (ld_blt I hg hm boot_list (PyProof.Rows.callWith_type1 (args_cons (Call_ (ld_blt I hg2 hm2 PyProof.Rows.boot_zip (PyProof.Rows.callWith_type1 (thn ((pa_As (Z := Z)).run pos2 pins s σ H (PostAs Z σ H F O _) I ⟨env, F, O, _, b0, o, h, fun _ _ q => q⟩)
    fun us s1 ⟨vs, H1, I1, rv, F1, O1, as, e1, b1, o1, st, fr, q⟩ => ?_) hs hpl))) hs2) hs2 rfl))
  obtain ⟨F2, O2, ds, e2, b2, o2, r2, fr2, q⟩ := absorb_ok st b1 o1 q
  unfold zipG at q
  split at q
  · cases r2 with
    | cons r3 rn =>
      cases rn with
      | cons r4 rn =>
        cases rn
        cases r3 with
        | tup h3 r3 =>
          cases r4 with
          | tup h4 r4 =>
            cases rv with
            | cons u1 rv =>
              cases rv with
              | cons u2 rv =>
                cases rv
                cases u1
                cases u2
                refine thn (zip_walk (k := fun t => ∃ l, t = .lst l (zipD _ _)) (O := O2) hc I1 b2.sub h3 h4 r3 r4 (.type "list") (.inr ⟨rfl, fun l => ⟨l, rfl⟩⟩)) fun u s2 q2 => args_nil (thn q2 (EP.imp fun v H' n => ?_))
                exact (n.post b2 o2 (fun t ⟨l, e⟩ => by subst e; exact q l)).from (fr.trans fr2)
  · exact q.elim
end
end QL

/-! QJ: a law row's end, from the promise (FnG) of its def; tables of code objects. -/
namespace QL
open PySem PySem.Spec PyProof.Rows L2

/-- what is tracked at the start: the script alone, or nothing; and the tables -/
structure Start (P : Program) (w : World) (K : PySem.W.Frag) (h : Heap) (a : Addr) (ns : List Int) (Ts : List Addr) (H F : Hp) : Prop where
  one : ∀ c, F c ≠ none → c = a ∧ K.lookup c = none ∧ ∃ o, h.get? c = some o ∧ F c = some (.frz o (.lst (ns.map V.int)))
  tb : ∀ c, c ∈ Ts → H c = some (.tbl #[])
  nt : ∀ c, c ∉ Ts → H c = F c
  sub : Same F H
  ok : HOk P w H h
  sq : SqL K F a (ns.map V.int)
theorem start_of {P : Program} {w : World} {K : PySem.W.Frag} {h : Heap} {a : Addr} {vs : List Value} {ns : List Int} {Ts : List Addr} (KX : K.In h) (ha : h.get? a = some { cls := .type "list", data := .seq vs.toArray }) (hi : IntsAre vs ns) (hl : ns.length ≤ sizeLine)
    (hT : ∀ c ∈ Ts, h.get? c = some { cls := .none, data := .fields #[] }) : ∃ H F, Start P w K h a ns Ts H F := by
  have rv := vals_ints hi
  have aT : a ∉ Ts := fun z => by
    have q := hT a z
    rw [ha] at q
    have z' : Data.seq vs.toArray _ = Data.fields #[] := congrArg Obj.data (Option.some.inj q)
    cases z'
  have main : ∀ F : Hp, (∀ c, F c ≠ none → c = a ∧ K.lookup c = none ∧ ∃ o, h.get? c = some o ∧ F c = some (.frz o (.lst (ns.map V.int)))) → HOk P w F h → SqL K F a (ns.map V.int) → ∃ H F, Start P w K h a ns Ts H F := fun F h1 h2 h3 => by
    refine ⟨fun b => if b ∈ Ts then some (.tbl #[]) else F b, F, h1, fun c hc => if_pos hc, fun c hc => if_neg hc, fun c u hc => ?_, fun c u hc => ?_, h3⟩
    · have : c ∉ Ts := fun z => aT ((h1 c (by rw [hc]; exact fun z => nomatch z)).1 ▸ z)
      exact (if_neg this).trans hc
    · by_cases z : c ∈ Ts
      · have hc' := (if_pos z).symm.trans hc
        cases hc'
        exact hT c z
      · have hc' : F c = some u := (if_neg z).symm.trans hc
        obtain ⟨e, _, o, e1, e2⟩ := h1 c (by rw [hc']; exact fun z => nomatch z)
        rw [e2] at hc'
        cases hc'
        exact h2 c _ e2
  by_cases hk : K.lookup a = none
  · refine main (fun b => if b = a then some (.frz { cls := .type "list", data := .seq vs.toArray } (.lst (ns.map V.int))) else none) (fun c hc => ?_) (fun c u hc => ?_) (.inl (.inr ⟨_, if_pos rfl⟩))
    · by_cases z : c = a
      · subst z; exact ⟨rfl, hk, _, ha, if_pos rfl⟩
      · rw [if_neg z] at hc; exact absurd rfl hc
    · by_cases z : c = a
      · subst z
        have hc' := (if_pos rfl).symm.trans hc
        cases hc'
        exact ⟨ha, by rw [List.length_map]; exact hl, vs, _, rv, ha⟩
      · have hc' := (if_neg z).symm.trans hc
        cases hc'
  · obtain ⟨o, ho⟩ := Option.ne_none_iff_exists'.mp hk
    have e := KX a o ho
    rw [ha] at e
    cases e
    refine main (fun _ => none) (fun _ z => absurd rfl z) (fun _ _ z => (nomatch z)) (.inr ⟨_, vs.toArray, _, ho, rfl, rfl, rfl, ?_, by simpa using rv⟩)
    rw [List.size_toArray, hi.length]
    exact hl
/-- a code object, its table, the name of what the table tells -/
abbrev Cs := List (Addr × Addr × Str)
abbrev Cs.tq (cs : Cs) : List (Addr × Str) := cs.map (·.2)
theorem law_goes {P : Program} {w : World} {K : PySem.W.Frag} {mg mb : Str → Option Value} {k : Nat} {fa a : Addr} {fd : FuncData} {x : Str} {sp : Spc} {s : Shared} {vs : List Value} {ns : List Int} {cs : Cs}
    (KX : K.In s.heap) (hns : s.heap.Ns mainGlobals mg) (hb : s.heap.Ns builtinsNs mb) (hbb : ∀ x : Str, x ≠ "__name__" → mb x = bootBuiltins x) (hlim : s.heap.NoLimit) (hg : s.gens = #[])
    (hT : ∀ p ∈ cs, s.heap.get? p.2.1 = some { cls := .none, data := .fields #[] }) (nT : ∀ p ∈ cs, K.lookup p.2.1 = none) (C : ∀ p ∈ cs, PySem.W.CodeHd s.heap p.1 p.2.1)
    (hbm : ∃ (bm : Addr) (ob : Obj), mg "__builtins__" = some (.ref bm) ∧ bm ≠ builtinsNs ∧ s.heap.get? bm = some ob ∧ ob.cls = .type "module" ∧ ob.dict = some builtinsNs ∧ ob.data = .plain)
    (ha : s.heap.get? a = some { cls := .type "list", data := .seq vs.toArray }) (hi : IntsAre vs ns) (hl : ns.length ≤ sizeLine) (hr : Room k callerA)
    (F : ∀ base : Heap, K.In base → base.Ns mainGlobals mg → (∀ p ∈ cs, LamX.TabB base mg p.1 p.2.1) → FnG P w K mg base cs.tq k fa fd [x] sp) (hbind : ∀ (s : Shared) (u : Value), BindsTo s fd ⟨[u], []⟩ [(x, u)])
    (hsp : sp [scT K a ns] (fun t _ => t = .va (.bool true)) fun _ _ => False) :
    codeAny (model P w) callerA (.call (.ref fa) ⟨[.ref a], []⟩) (fun r s' => r = .ok (.ret (.bool true)) ∧ PySem.OldK s.heap s'.heap ∧ s'.os = s.os ∧ AllBare s'.gens) s := by
  have hTs : ∀ c ∈ cs.map (·.2.1), s.heap.get? c = some { cls := .none, data := .fields #[] } := fun c hc => by
    obtain ⟨p, hp, e⟩ := List.mem_map.mp hc
    rw [← e]
    exact hT p hp
  obtain ⟨H, F0, S⟩ := start_of (P := P) (w := w) (K := K) KX ha hi hl hTs
  have none_if : ∀ {c : Addr} {o : Obj}, s.heap.get? c = some o → (∀ ys n, o.data ≠ .seq ys n) → o.data ≠ .fields #[] → H c = none := fun {c o} e hd hf => by
    by_cases z : c ∈ cs.map (·.2.1)
    · rw [hTs c z] at e
      cases e
      exact absurd rfl hf
    · rw [S.nt c z]
      cases q : F0 c with
      | none => rfl
      | some u =>
        obtain ⟨rfl, _, o', ho', _⟩ := S.one c (by rw [q]; exact fun z => nomatch z)
        rw [ha] at e
        cases e
        exact absurd rfl (hd _ _)
  have ns_ : ∀ {c : Addr} {m : Str → Option Value}, s.heap.Ns c m → (hidT s.heap H).Ns c m := fun {c m} ⟨o, es, ep, e, d, r⟩ => ⟨o, es, ep, hidT_get e (none_if e (fun ys n z => by rw [d] at z; cases z) fun z => by rw [d] at z; cases z), d, r⟩
  have kin : K.In (hidT s.heap H) := fun c o e => hidT_get (KX c o e) (by
    by_cases z : c ∈ cs.map (·.2.1)
    · obtain ⟨p, hp, ep⟩ := List.mem_map.mp z
      rw [← ep, nT p hp] at e
      cases e
    · rw [S.nt c z]
      cases q : F0 c with
      | none => rfl
      | some u =>
        obtain ⟨_, q2, _⟩ := S.one c (by rw [q]; exact fun z => nomatch z)
        rw [e] at q2
        cases q2)
  have lim : (hidT s.heap H).NoLimit := let ⟨mc, h1, h2⟩ := hlim; ⟨mc, ns_ h1, h2⟩
  have env : Env0 P w K mg (hidT s.heap H) callerA [] s H := by
    refine ⟨rfl, ⟨kin, ns_ hns, ⟨mb, ns_ hb, hbb⟩, lim⟩, fun b o e => of_hidT e, Nat.le_of_eq (hidT_size _ _), trivial, fun b hb => ?_, S.ok, .of_eq hg⟩
    exact absurd (show b ∈ ([] : List Addr) from hb) List.not_mem_nil
  have TB : ∀ p ∈ cs, LamX.TabB (hidT s.heap H) mg p.1 p.2.1 := fun p hp => by
    have hTp := hT p hp
    refine ⟨?_, ?_, fun z => ?_⟩
    · obtain ⟨o, us, file, tf, flags, tg, inF, text, tt, e1, r1, r2, r3, r4, r5, r6, r7, r8, hne⟩ := C p hp
      refine ⟨o, us, file, tf, flags, tg, inF, text, tt, hidT_get e1 (none_if e1 (fun vs n z => ?_) fun z => ?_), r1, r2, r3, r4, r5, r6, r7, r8, hne⟩
      · rw [r2] at z
        cases z
      · rw [r2] at z
        cases z
        simp at r3
    · obtain ⟨bm, ob, b1, b2, b3, b4, b5, b6⟩ := hbm
      have nG : bm ≠ mainGlobals := fun q => by
        obtain ⟨o, es, ep, e, hd, _⟩ := hns
        rw [q, e] at b3
        cases b3
        rw [hd] at b6
        cases b6
      have nP : bm ≠ p.2.1 := fun q => by
        rw [q, hTp] at b3
        cases b3
        cases b6
      refine ⟨bm, ob, b1, b2, nG, nP, hidT_get b3 (none_if b3 (fun vs n z => ?_) fun z => ?_), b4, b5, b6⟩
      · rw [b6] at z
        cases z
      · rw [b6] at z
        cases z
    · obtain ⟨o, es, ep, e, hd, _⟩ := hns
      rw [z, hTp] at e
      cases e
      cases hd
  have tabs : LamX.Tabs cs.tq H := fun p hp => by
    obtain ⟨c, hc, e⟩ := List.mem_map.mp hp
    refine LamX.TabS.nil (S.tb _ (List.mem_map.mpr ⟨c, hc, ?_⟩))
    rw [← e]
  have aT : a ∉ cs.map (·.2.1) := fun z => by
    have q := hTs a z
    rw [ha] at q
    have z' : Data.seq vs.toArray _ = Data.fields #[] := congrArg Obj.data (Option.some.inj q)
    cases z'
  have tabz : TabZ cs.tq H F0 [] := ⟨tabs, fun p hp => by
    cases q : F0 p.1 with
    | none => rfl
    | some u =>
      obtain ⟨c, hc, e⟩ := List.mem_map.mp hp
      obtain ⟨e2, _⟩ := S.one p.1 (by rw [q]; exact fun z => nomatch z)
      exact absurd (List.mem_map.mpr ⟨c, hc, by rw [← e2, ← e]⟩) aT, fun p hp z => nomatch z⟩
  have bas : Bas ⟨H, F0, [], tabz⟩ F0 H [] := ⟨S.sub, List.nodup_nil, fun _ z => (nomatch z), Frm.refl _ _ _⟩
  have args : StV F0 H [] [.ref a] [scT K a ns] := by
    have := StV.cons (O1 := []) (O2 := []) (scT_ow (F := F0) (H := H) S.sq) .nil
    exact this
  refine codeAny_mono ((F _ kin (ns_ hns) TB).run callerA [] s H ⟨[.ref a], []⟩ [.ref a] [.ref a] F0 [] _ _ _ (fun _ _ _ => False) tabz hr rfl env (hbind s (.ref a)) (.cons rfl .nil) bas args hsp fun _ _ _ _ _ _ _ _ _ _ q => q) fun r s' h => ?_
  cases r with
  | error e =>
    obtain ⟨_, _, _, _, _, _, _, _, _, _, _, _, q⟩ := h
    exact q.elim
  | ok fl =>
    cases fl with
    | next => exact h.elim
    | brk => exact h.elim
    | cont => exact h.elim
    | ret u =>
      obtain ⟨v, H', os, bare, un, hok', rv', F', O1, O2, t, ts', _, _, ow, et⟩ := h
      subst et
      have ev : v = .bl true := by
        cases ow with
        | va r => cases r; rfl
      subst ev
      obtain rfl : u = Value.bool true := rv'
      have key : ∀ b o, b ∉ cs.map (·.2.1) → s.heap.get? b = some o → s'.heap.get? b = some o := fun b o nb e => by
        by_cases q : H b = none
        · exact un.keep b o e q (fun z => absurd (show b ∈ ([] : List Addr) from z) List.not_mem_nil) List.not_mem_nil
        · have eF := S.nt b nb
          obtain ⟨_, _, o', ho', hb'⟩ := S.one b (by rw [← eF]; exact q)
          rw [e] at ho'
          cases ho'
          exact (hok' b _ (un.frzs b _ _ (eF.trans hb'))).1
      have grown : ∀ p ∈ cs, ∃ more : Array Value, s'.heap.get? p.2.1 = some { cls := .none, data := .fields more } := fun p hp => by
        obtain ⟨more, z⟩ := un.tbls p.2.1 #[] (S.tb _ (List.mem_map.mpr ⟨p, hp, rfl⟩))
        exact ⟨_, hok' p.2.1 _ z⟩
      refine ⟨rfl, ⟨fun b o e => ?_, fun b o e => ?_⟩, os, bare⟩
      · by_cases hb : b ∈ cs.map (·.2.1)
        · obtain ⟨p, hp, ep⟩ := List.mem_map.mp hb
          obtain ⟨more, hm⟩ := grown p hp
          rw [← ep] at e ⊢
          rw [hT p hp] at e
          cases e
          exact .inr (.inl ⟨((C p hp).tab (hT p hp)).isCodeTable, rfl, #[], more, rfl, by rw [Array.empty_append]; exact hm⟩)
        · exact .inl (key b o hb e)
      · by_cases hb : b ∈ cs.map (·.2.1)
        · obtain ⟨p, hp, ep⟩ := List.mem_map.mp hb
          obtain ⟨more, hm⟩ := grown p hp
          rw [← ep]
          exact ⟨_, hm⟩
        · exact ⟨o, key b o hb e⟩
/-- what the head tells of the code objects and tables cs -/
structure CsAt (K : PySem.W.Frag) (h : Heap) (cs : Cs) : Prop where
  hT : ∀ p ∈ cs, h.get? p.2.1 = some { cls := .none, data := .fields #[] }
  nT : ∀ p ∈ cs, K.lookup p.2.1 = none
  C : ∀ p ∈ cs, PySem.W.CodeHd h p.1 p.2.1
theorem CsAt.nil {K : PySem.W.Frag} {h : Heap} : CsAt K h [] := ⟨fun _ z => (nomatch z), fun _ z => (nomatch z), fun _ z => (nomatch z)⟩
theorem CsAt.cons {K : PySem.W.Frag} {h : Heap} {c P : Addr} {q : Str} {cs : Cs} (a : PySem.W.CodeHd h c P ∧ h.get? P = some (PySem.W.tabObj #[])) (n : K.lookup P = none) (r : CsAt K h cs) : CsAt K h ((c, P, q) :: cs) :=
  ⟨fun p hp => (List.mem_cons.mp hp).elim (fun e => by rw [e]; exact a.2) (r.hT p), fun p hp => (List.mem_cons.mp hp).elim (fun e => by rw [e]; exact n) (r.nT p), fun p hp => (List.mem_cons.mp hp).elim (fun e => by rw [e]; exact a.1) (r.C p)⟩
/-- the goal that k_head leaves, with tables -/
theorem walk_gT {l : PySem.W.OpenLaw} {n k : Nat} {q : Program} {loose : List Str} {XP : (Str → Option Value) → Heap → Prop} {YP : World → Heap → Prop} {d : DefRec} {K : Params → PySem.W.Frag} {sp : World → Spc} {x : Str} {cs : Params → Cs}
    (hn : l.most = some n) (hn2 : n ≤ sizeLine) (hdf : d.params.defaults = []) (hr : Room k callerA) (hY : ∀ (w : World) (h : Heap), YP w h → (K w.params).In h)
    (hcs : ∀ (w : World) (h : Heap), (K w.params).In h → (∀ (x : Str) (c P : Addr) (d : DefRec), (recsOf q).find? (fun e => e.name == x) = some d → PySem.W.tabIn (K w.params) x = some (c, P) → PySem.W.CodeHd h c P ∧ h.get? P = some (PySem.W.tabObj #[])) → CsAt (K w.params) h (cs w.params))
    (F : ∀ (w : World) (mg : Str → Option Value) (fa : Addr) (h : Heap), (K w.params).In h → h.Ns mainGlobals mg → mg d.name = some (.ref fa) →
      ∃ fd : FuncData, (∀ (s : Shared) (u : Value), BindsTo s fd ⟨[u], []⟩ [(x, u)]) ∧ ∀ base : Heap, (K w.params).In base → base.Ns mainGlobals mg → (∀ p ∈ cs w.params, LamX.TabB base mg p.1 p.2.1) → FnG l.prog w (K w.params) mg base (cs w.params).tq k fa fd [x] (sp w))
    (hsp : ∀ (w : World) (a : Addr) (ns : List Int), ns.length ≤ n → sp w [scT (K w.params) a ns] (fun t _ => t = .va (.bool true)) fun _ _ => False) :
    PySem.W.WalkO q loose XP YP l.row.toRowW d [] (fun f vs => PySem.call f vs) :=
  Att.attach_call hn hdf fun w s₀ s₁ mg mb fa o pm cd doc a vs ns G Y ho hd hcd hmg hobj hints hlen hg => by
    obtain ⟨fd, hb, hF⟩ := F w mg fa _ (hY w _ Y) G.T.g hmg
    have c := hcs w _ (hY w _ Y) fun x c P d h1 h2 => PySem.W.tab_of G.T (hY w _ Y) h1 h2
    exact law_goes (hY w _ Y) G.T.g G.T.b G.T.builtins G.T.nolimit hg c.hT c.nT c.C G.T.bmain hobj hints (Nat.le_trans hlen hn2) hr hF hb (hsp w a ns hlen)
/-- the goal that k_head leaves -/
theorem walk_g {l : PySem.W.OpenLaw} {n k : Nat} {q : Program} {loose : List Str} {XP : (Str → Option Value) → Heap → Prop} {YP : World → Heap → Prop} {d : DefRec} {K : Params → PySem.W.Frag} {sp : World → Spc} {x : Str}
    (hn : l.most = some n) (hn2 : n ≤ sizeLine) (hdf : d.params.defaults = []) (hr : Room k callerA) (hY : ∀ (w : World) (h : Heap), YP w h → (K w.params).In h)
    (F : ∀ (w : World) (mg : Str → Option Value) (fa : Addr) (h : Heap), (K w.params).In h → h.Ns mainGlobals mg → mg d.name = some (.ref fa) →
      ∃ fd : FuncData, (∀ (s : Shared) (u : Value), BindsTo s fd ⟨[u], []⟩ [(x, u)]) ∧ ∀ base : Heap, (K w.params).In base → base.Ns mainGlobals mg → FnG l.prog w (K w.params) mg base [] k fa fd [x] (sp w))
    (hsp : ∀ (w : World) (a : Addr) (ns : List Int), ns.length ≤ n → sp w [scT (K w.params) a ns] (fun t _ => t = .va (.bool true)) fun _ _ => False) :
    PySem.W.WalkO q loose XP YP l.row.toRowW d [] (fun f vs => PySem.call f vs) :=
  walk_gT (cs := fun _ => []) hn hn2 hdf hr hY (fun _ _ _ _ => .nil) (fun w mg fa h a b c => let ⟨fd, hb, hF⟩ := F w mg fa h a b c; ⟨fd, hb, fun base x y _ => hF base x y⟩) hsp
end QL

/-! QX: defs that are called by name; small laws. -/
namespace QL
open PySem PySem.Spec PyProof.Rows L2

theorem takes_no {Tq : List (Addr × Str)} {Z : Zb Tq} {X : Cx} : Takes X (wxOf Z fun _ _ => False) := fun u s' ⟨a, B, sI, pins, σ, H, cls, d, e, I, nb, up, sky, na, os, ag, F, O, env, ex, b, o, xa, q⟩ => q.elim
/-- a def of the module that may be called -/
structure Df (P : Program) (w : World) (K : PySem.W.Frag) (mg : Str → Option Value) (base : Heap) (Tq : List (Addr × Str)) (k : Nat) (x : Str) (ps : List Str) (sp : Spc) : Prop where
  ex : ∃ (f : Addr) (fd : FuncData), FnG P w K mg base Tq k f fd ps sp ∧ mg x = some (.ref f) ∧ PySem.W.keepIn K (.ref f) = true ∧ Binds K fd ps []
/-- the same, by the names ks, of which the places ns are the parameters in their order -/
structure Dk (P : Program) (w : World) (K : PySem.W.Frag) (mg : Str → Option Value) (base : Heap) (Tq : List (Addr × Str)) (k : Nat) (x : Str) (ps ks : List Str) (ns : List Nat) (sp : Spc) : Prop where
  ex : ∃ (f : Addr) (fd : FuncData), FnG P w K mg base Tq k f fd ps sp ∧ mg x = some (.ref f) ∧ PySem.W.keepIn K (.ref f) = true ∧ KwOk K fd ps ks ns
theorem Df.mono {P : Program} {w : World} {K : PySem.W.Frag} {mg : Str → Option Value} {base : Heap} {Tq : List (Addr × Str)} {j k : Nat} {x : Str} {ps : List Str} {sp : Spc} (G : Df P w K mg base Tq j x ps sp) (h : j ≤ k) : Df P w K mg base Tq k x ps sp :=
  let ⟨f, fd, g, r⟩ := G.ex; ⟨f, fd, g.mono h, r⟩
theorem Dk.mono {P : Program} {w : World} {K : PySem.W.Frag} {mg : Str → Option Value} {base : Heap} {Tq : List (Addr × Str)} {j k : Nat} {x : Str} {ps ks : List Str} {ns : List Nat} {sp : Spc} (G : Dk P w K mg base Tq j x ps ks ns sp) (h : j ≤ k) : Dk P w K mg base Tq k x ps ks ns sp :=
  let ⟨f, fd, g, r⟩ := G.ex; ⟨f, fd, g.mono h, r⟩
theorem fun_kws {K : PySem.W.Frag} {x qual : Str} {st : Stmt} {f : Addr} {fd : FuncData} {ps ks : List Str} {ns : List Nat} (F : Fun K x qual st f fd)
    (h : ∀ (kV doc pm : Value) (an : Option Addr) (cdv ct : Value) (us : List Value), us.length = ks.length → bindArgs (PySem.W.fnOf x qual (defArgs st) (defBody st) (defScope st) .none kV doc pm an cdv ct) ⟨[], ks.zip us⟩ = pure (ps.zip (pick ns us))) : KwOk K fd ps ks ns := by
  obtain ⟨oc, od, kV, doc, pm, an, cdv, ct, osl, rfl, lk, hcd⟩ := F.ex
  exact fun s us _ hl => .of_eq (h kV doc pm an cdv ct us hl)
section
variable {Tq : List (Addr × Str)} {Z : Zb Tq} {X : Cx} {e : Expr} {es : List Expr} {env : Env} {pos p : Pos} {P : R → Env → Prop} {k : Nat} {x : Str} {ps ks : List Str} {ns : List Nat} {sp : Spc} {kws : List Keyword}
theorem w_fn (G : Df X.prog X.w X.K X.mg X.base Tq k x ps sp) (hr : Room k X.A) (hgd : X.A.guards = some []) (h : WAs Z X (e :: es) env fun as e1 => callD sp as e1 (fun t e => P (.t t) e) fun _ _ => False)
    (hg : Gl X x := by rfl) (hdb : (x == ("__debug__" : Str)) = false := by decide) (he : starEach (e :: es) X.env = (false, eval e X.env) :: starEach es X.env := by rfl) (hpl : (backTo pos (starEach es X.env)).any (·.1) = false := by rfl) :
    WE Z X (.Call (.Name x p) (e :: es) [] pos) env P := by
  obtain ⟨f, fd, g, hm, hk, hb⟩ := G.ex
  refine w_call (dds := []) (vds := []) g hr hgd takes_no hm hk hb .nil (fun _ => .nil) ?_ hg hdb he hpl
  simpa only [vaAll, List.map_nil, List.append_nil] using h
theorem w_fnK (G : Dk X.prog X.w X.K X.mg X.base Tq k x ps ks ns sp) (hr : Room k X.A) (hgd : X.A.guards = some []) (h : WKs Z X kws env fun as e1 => as.length = ks.length ∧ callD sp (pick ns as) e1 (fun t e => P (.t t) e) fun _ _ => False)
    (hks : (backToKw pos (keywordEach kws X.env)).filterMap (·.1) = ks := by rfl) (hall : (backToKw pos (keywordEach kws X.env)).all (·.1.isSome) = true := by rfl)
    (hg : Gl X x := by rfl) (hdb : (x == ("__debug__" : Str)) = false := by decide) (hpl : ((backTo pos (starEach [] X.env)).any (·.1) || (backToKw pos (keywordEach kws X.env)).any (·.1.isNone)) = false := by rfl) :
    WE Z X (.Call (.Name x p) [] kws pos) env P := by
  obtain ⟨f, fd, g, hm, hk, hb⟩ := G.ex
  exact w_callK g hr hgd takes_no hm hk hb h hks hall hg hdb hpl
end
/-! ### lists of ints -/
abbrev iDs (ns : List Int) : List D := ns.map PyData.int
theorem small2000 {n : Nat} (h : n ≤ 2000) : n < sizeLine := Nat.lt_of_le_of_lt h (by decide)
theorem atI_last' {α : Type} {xs : List α} {z : α} (h : xs.getLast? = some z) : atI xs (-1) = some z := by
  obtain ⟨ys, rfl⟩ := List.getLast?_eq_some_iff.mp h
  exact atI_last ys z
theorem atI_map {α β : Type} (f : α → β) {xs : List α} {i : Int} {x : α} (h : atI xs i = some x) : atI (xs.map f) i = some (f x) := by
  unfold atI at h ⊢
  rw [List.length_map]
  cases hn : ixN xs.length i with
  | none => rw [hn] at h; cases h
  | some k =>
    rw [hn] at h
    have h : xs[k]? = some x := h
    show (xs.map f)[k]? = some (f x)
    rw [List.getElem?_map, h]
    rfl
theorem cutD_map {α : Type} (f : α → D) (xs : List α) (lo hi : Option Int) : cutD (xs.map f) lo hi = ((xs.drop (HT.sIx xs.length 0 lo)).take (HT.sIx xs.length xs.length hi - HT.sIx xs.length 0 lo)).map f := by
  unfold cutD
  rw [List.length_map, List.map_take, List.map_drop]
theorem cut_dropLast {α : Type} (f : α → D) (xs : List α) : cutD (xs.map f) none (some (-1)) = xs.dropLast.map f := by
  rw [cutD_map]
  have h1 : HT.sIx xs.length 0 none = 0 := rfl
  have h2 : HT.sIx xs.length xs.length (some (-1)) = xs.length - 1 := by
    unfold HT.sIx
    simp only
    rw [if_pos (by decide)]
    omega
  rw [h1, h2, List.drop_zero, Nat.sub_zero, List.dropLast_eq_take]
theorem cut_nat {α : Type} (f : α → D) (xs : List α) (i j : Nat) (hi : i ≤ xs.length) (hj : j ≤ xs.length) : cutD (xs.map f) (some (i : Int)) (some (j : Int)) = ((xs.drop i).take (j - i)).map f := by
  rw [cutD_map, HT.sIx_nat, HT.sIx_nat, Nat.min_eq_left hi, Nat.min_eq_left hj]
theorem room64 {k : Nat} {A : Around} (hr : Room k A) : A.units + 64 < cLine := by have := hr.un; omega
theorem room110 {k : Nat} {A : Around} (hr : Room k A) : A.units + 110 < cLine := by have := hr.un; omega
theorem rangeD_len (lo : Int) (n : Nat) : (rangeD lo n).length = n := by unfold rangeD; rw [List.length_map, List.length_range]
theorem rangeD_at {lo : Int} {n j : Nat} {d : D} (h : (rangeD lo n)[j]? = some d) : d = .int (lo + j) ∧ j < n := by
  unfold rangeD at h
  rw [List.getElem?_map, Option.map_eq_some_iff] at h
  obtain ⟨k, hk, e⟩ := h
  have hj : j < n := by
    have := (List.getElem?_eq_some_iff.mp hk).1
    simpa using this
  rw [List.getElem?_range hj] at hk
  cases hk
  exact ⟨e.symm, hj⟩
end QL

/-! QK: own classes: fields read and stored, methods called, instances made. -/
namespace QL
open PySem PySem.Spec PyProof.Rows L2

def putT (f : Str) (u : T) : List (Str × T) → List (Str × T)
  | [] => [(f, u)]
  | (g, t) :: r => if g = f then (g, u) :: r else (g, t) :: putT f u r
theorem OwF.put {F H : Hp} {f : Str} {u : T} {w : V} {Ou : List Addr} (hu : Ow F H Ou w u) : ∀ {fs : List (Str × T)} {vs : List (Str × V)} {O : List Addr}, OwF F H O vs fs → ∃ O' Od, OwF F H O' (putF f w vs) (putT f u fs) ∧ (O ++ Ou).Perm (O' ++ Od)
  | [], _, _, .nil => ⟨Ou ++ [], [], .cons hu .nil, by rw [List.append_nil, List.append_nil]; exact List.Perm.refl _⟩
  | (n, t) :: fs, _, _, .cons (O1 := O1) (O2 := O2) h r => by
    by_cases e : n = f
    · refine ⟨Ou ++ O2, O1, ?_, ?_⟩
      · show OwF F H _ (if n = f then _ else _) (if n = f then _ else _)
        rw [if_pos e, if_pos e]
        exact .cons hu r
      · rw [List.append_assoc]
        refine List.perm_append_comm.trans ?_
        exact (List.perm_append_comm (l₁ := O2)).append_right O1
    · obtain ⟨O', Od, q, p⟩ := OwF.put (f := f) hu r
      refine ⟨O1 ++ O', Od, ?_, ?_⟩
      · show OwF F H _ (if n = f then _ else _) (if n = f then _ else _)
        rw [if_neg e, if_neg e]
        exact .cons h q
      · rw [List.append_assoc, List.append_assoc]
        exact p.append_left O1
theorem OwF.len {F H : Hp} : ∀ {fs : List (Str × T)} {vs : List (Str × V)} {O : List Addr}, OwF F H O vs fs → vs.length = fs.length
  | _, _, _, .nil => rfl
  | _, _, _, .cons _ r => congrArg (· + 1) r.len
theorem OwF.look {F H : Hp} {f : Str} : ∀ {fs : List (Str × T)} {vs : List (Str × V)} {O : List Addr}, OwF F H O vs fs → (fs.lookup f = none ∧ vs.lookup f = none) ∨ ∃ t w O', fs.lookup f = some t ∧ vs.lookup f = some w ∧ Ow F H O' w t
  | _, _, _, .nil => .inl ⟨rfl, rfl⟩
  | (n, t) :: fs, (_, v) :: vs, _, .cons h r => by
    rw [List.lookup_cons, List.lookup_cons]
    cases hb : f == n with
    | true => exact .inr ⟨_, _, _, rfl, rfl, h⟩
    | false => exact r.look

/-! ### o.f -/
def fldR (K : PySem.W.Frag) (r : R) (f : Str) (env : Env) (k : R → Prop) : Prop := match r with
  | .bor a i p => match getP i p env with
    | some (.ins a' C fs) => a' = a ∧ (Cls K C ∧ NoAttr K C f) ∧ (match fs.lookup f with
      | some (.va d) => k (.t (.va d))
      | some t => match t.addr with
        | some b => k (.bor b i (p ++ [f]))
        | none => False
      | none => False)
    | _ => False
  | _ => False
section
variable {Tq : List (Addr × Str)} {Z : Zb Tq} {X : Cx} {e a b c o value : Expr} {es : List Expr} {env : Env} {pos pos' apos p : Pos} {P : R → Env → Prop} {PO : Out → Prop} {f x m : Str}
theorem w_fld (h : WE Z X o env fun r e1 => fldR X.K r f e1 fun r2 => P r2 e1) (hb : attributeBase o f X.env (eval o X.env) = eval o X.env := by rfl) : WE Z X (.Attribute o f pos) env P :=
  we_of (pe_fld (pe_E (Z := Z)) hb) fun σ H F O b0 o0 => ⟨env, F, O, _, b0, o0, h, fun v H1 ⟨F1, O1, r, e1, b1, st, fr, q⟩ => by
    cases r with
    | t t => exact q.elim
    | bor a i p =>
      obtain ⟨o1, rfl⟩ := st
      unfold fldR at q
      simp only at q
      split at q
      · rename_i a' C fs hg
        obtain ⟨rfl, ⟨c, n⟩, q⟩ := q
        obtain ⟨w, ⟨Oj, O', h1, h2, h3⟩, _⟩ := o1.focus hg
        cases h1 with
        | ins h1 hd r =>
          rcases r.look (f := f) with ⟨k1, k2⟩ | ⟨t, w, Ot, k1, k2, hw⟩
          · rw [k1] at q; exact q.elim
          · refine ⟨_, _, _, _, w, rfl, h1, c, n, k2, ?_⟩
            rw [k1] at q
            cases t with
            | va d =>
              cases hw with
              | va r => exact ⟨F1, O1, .t (.va d), _, b1, ⟨O1, [], (List.append_nil O1).symm, o1, .va r⟩, fr, q⟩
            | lst a ds => exact ⟨F1, O1, .bor _ _ _, _, b1, ⟨o1, hw.ref rfl⟩, fr, q⟩
            | dic a ds => exact ⟨F1, O1, .bor _ _ _, _, b1, ⟨o1, hw.ref rfl⟩, fr, q⟩
            | fdc a ds => exact ⟨F1, O1, .bor _ _ _, _, b1, ⟨o1, hw.ref rfl⟩, fr, q⟩
            | ins a C fs => exact ⟨F1, O1, .bor _ _ _, _, b1, ⟨o1, hw.ref rfl⟩, fr, q⟩
            | hole a => exact ⟨F1, O1, .bor _ _ _, _, b1, ⟨o1, hw.ref rfl⟩, fr, q⟩
            | ob a φ =>
              cases a with
              | none => exact q.elim
              | some a => exact ⟨F1, O1, .bor _ _ _, _, b1, ⟨o1, hw.ref rfl⟩, fr, q⟩
      · exact q.elim⟩

/-! ### x.f = e, x a name -/
def putFR (K : PySem.W.Frag) (t : T) (i : Nat) (f : Str) (e : Env) (k : Env → Prop) : Prop := match e[i]? with
  | some (some (.ins a C fs)) => (Cls K C ∧ NoAttr K C f ∧ fs.length < 1000) ∧ k (e.set i (some (.ins a C (putT f t fs))))
  | _ => False
def setFR (K : PySem.W.Frag) (r : R) (i : Nat) (f : Str) (e : Env) (k : Env → Prop) : Prop := match r with
  | .t t => putFR K t i f e k
  | .bor a j p => absorb [.bor a j p] e fun ds e' => match ds with
    | [d] => putFR K (.va d) i f e' k
    | _ => False
theorem mutI {F H : Hp} {O1 O2 : List Addr} {σ : L2.St} {env : Env} {i : Nat} {a C : Addr} {fs : List (Str × T)} {v : V} {t : T} {f : Str} (b : Bas Z F H (O1 ++ O2)) (o : OwE F H O1 σ env) (hi : env[i]? = some (some (.ins a C fs))) (w : Ow F H O2 v t) :
    ∃ dx vs, σ[i]? = some (some (.ref a)) ∧ H a = some (.ins C dx vs) ∧ vs.length = fs.length ∧ ∃ O', Bas Z F (upd H a (.ins C dx (putF f v vs))) O' ∧ OwE F (upd H a (.ins C dx (putF f v vs))) O' σ (env.set i (some (.ins a C (putT f t fs)))) ∧ Frm Tq H F (O1 ++ O2) (upd H a (.ins C dx (putF f v vs))) F O' := by
  obtain ⟨w0, hw, Oj, Or, h1, h2, h3⟩ := o.focusI hi
  cases h1 with
  | ins ha hd r =>
    rename_i dx vs Of
    refine ⟨dx, vs, hw, ha, r.len, ?_⟩
    obtain ⟨Of', Od, r', pm⟩ := r.put (f := f) w
    have nd0 : ((a :: dx :: Of) ++ Or ++ O2).Nodup := (h2.append_right O2).nodup b.nd
    have pm1 : ((a :: dx :: Of) ++ Or ++ O2).Perm ((a :: dx :: Of') ++ Or ++ Od) := by
      have e1 : (Of ++ Or ++ O2).Perm (Of' ++ Or ++ Od) := by
        have e2 : (Of ++ Or ++ O2).Perm ((Of ++ O2) ++ Or) := by
          rw [List.append_assoc, List.append_assoc]
          exact List.perm_append_comm.append_left Of
        have e3 : (Of' ++ Or ++ Od).Perm ((Of' ++ Od) ++ Or) := by
          rw [List.append_assoc, List.append_assoc]
          exact List.perm_append_comm.append_left Of'
        exact e2.trans ((pm.append_right Or).trans e3.symm)
      exact (e1.cons dx).cons a
    have nd1 := pm1.nodup nd0
    have na : ∀ c, c ∈ dx :: (Of' ++ Or ++ Od) → c ≠ a := fun c hc z => by
      subst z
      exact (List.nodup_cons.mp nd1).1 hc
    have ex : ∀ c ∈ O1 ++ O2, H c ≠ none := fun c hc => (List.mem_append.mp hc).elim (o.there c) (w.there c)
    have keep : ∀ c, c ≠ a → upd H a (.ins C dx (putF f v vs)) c = H c := fun c hc => upd_ne hc
    have hOf : ∀ c ∈ Of', upd H a (.ins C dx (putF f v vs)) c = H c := fun c hc => keep c (na c (List.mem_cons_of_mem _ (List.mem_append_left _ (List.mem_append_left _ hc))))
    have ow : Ow F (upd H a (.ins C dx (putF f v vs))) (a :: dx :: Of') (.ref a) (.ins a C (putT f t fs)) :=
      .ins upd_same ((keep dx (na dx List.mem_cons_self)).trans hd) (r'.stay (Same.refl _) hOf)
    obtain ⟨O'', q1, q2⟩ := h3 F (upd H a (.ins C dx (putF f v vs))) _ _ (Same.refl _) (fun c hc => keep c (na c (List.mem_cons_of_mem _ (List.mem_append_left _ (List.mem_append_right _ hc))))) ow
    have pm2 : (O1 ++ O2).Perm (O'' ++ Od) := (h2.append_right O2).trans (pm1.trans (q2.symm.append_right Od))
    have ha' : a ∈ O1 ++ O2 := List.mem_append_left _ (h2.mem_iff.mpr (List.mem_append_left _ List.mem_cons_self))
    have da := b.dis a ha'
    have fr : Frm Tq H F (O1 ++ O2) (upd H a (.ins C dx (putF f v vs))) F O'' := ⟨Same.refl _, fun c y e _ n => by rw [upd_ne fun z => n (by rw [z]; exact ha')]; exact e, fun c e => by
      by_cases z : c = a
      · subst z; rw [upd_same]; exact fun z => nomatch z
      · rw [upd_ne z]; exact e, fun c e => .inl e, fun c hc => .inl (pm2.mem_iff.mpr (List.mem_append_left _ hc)), tab_own ha⟩
    refine ⟨O'', ⟨fun c y e => ?_, (List.nodup_append.mp (pm2.nodup b.nd)).1, fun c hc => b.dis c (pm2.mem_iff.mpr (List.mem_append_left _ hc)), b.abs.trans fr⟩, q1, fr⟩
    rw [upd_ne fun z => by rw [z, da] at e; cases e]
    exact b.sub c y e
theorem ws_fld (i : Nat) (h : WE Z X value env fun r e1 => setFR X.K r i f e1 fun e2 => PO (.nx e2)) (hN : X.N[i]? = some x := by rfl) (hv : Vis X.env.scope x := by first | exact Or.inl rfl | exact Or.inr (Or.inl rfl) | exact Or.inr (Or.inr rfl))
    (hd : (x == ("__debug__" : Str)) = false := by decide) (hcd : (x == ("__classdict__" : Str)) = false := by decide) (hs : swapsWith value (some (.Attribute (.Name x p) f pos')) pos.line X.env = pure false := by rfl) : WS Z X (.Assign [.Attribute (.Name x p) f pos'] value pos) env PO :=
  ws_of (ps_fld (pe_var (i := i) hN hv hd hcd) (pe_E (Z := Z)) hs) fun σ H F O b o => ⟨env, F, O, _, b, o, h, fun v H1 ⟨F1, O1, r, e1, b1, st, fr, q⟩ => by
    have fin : ∀ {F2 : Hp} {Oa Ob : List Addr} {t : T} {e2 : Env}, Bas Z F2 H1 (Oa ++ Ob) → OwE F2 H1 Oa σ e2 → Ow F2 H1 Ob v t → Frm Tq H F O H1 F2 (Oa ++ Ob) → putFR X.K t i f e2 (fun e3 => PO (.nx e3)) →
        tVar i σ H1 (fun x H2 => ∃ a C dx fs, x = .ref a ∧ H2 a = some (.ins C dx fs) ∧ Cls X.K C ∧ NoAttr X.K C f ∧ fs.length < 1000 ∧ (endsOf Z H F O PO).nx σ (upd H2 a (.ins C dx (putF f v fs)))) := fun {F2 Oa Ob t e2} b2 o2 w2 fr2 q2 => by
      unfold putFR at q2
      split at q2
      · rename_i a C fs hi
        obtain ⟨⟨c, n, l⟩, q2⟩ := q2
        obtain ⟨dx, vs, hσ, ha, hl, O', b3, o3, fr3⟩ := mutI (f := f) b2 o2 hi w2
        exact ⟨_, hσ, a, C, dx, vs, rfl, ha, c, n, by rw [hl]; exact l, F2, O', _, b3, o3, fr2.trans fr3, q2⟩
      · exact q2.elim
    cases r with
    | t t =>
      obtain ⟨Oa, Ob, rfl, o1, w1⟩ := st
      exact fin b1 o1 w1 fr q
    | bor a j p =>
      obtain ⟨o1, rfl⟩ := st
      unfold setFR at q
      simp only at q
      obtain ⟨F2, O2, ds, e2, b2, o2, r2, fr2, q2⟩ := absorb_ok (.cons (a := .bor a j p) rfl .nil) b1 o1 q
      cases r2 with
      | cons r2 rn =>
        cases rn
        exact fin (Ob := []) (by rw [List.append_nil]; exact b2) o2 (.va r2) (by rw [List.append_nil]; exact fr.trans fr2) q2⟩
end
end QL

/-! QM: methods called, instances made. -/
namespace QL
open PySem PySem.Spec PyProof.Rows L2
/-- a method as a promise -/
structure Mf (P : Program) (w : World) (K : PySem.W.Frag) (mg : Str → Option Value) (base : Heap) (Tq : List (Addr × Str)) (k : Nat) (C : Addr) (m : Str) (ps : List Str) (sp : Spc) : Prop where
  ex : ∃ f fd, FnG P w K mg base Tq k f fd ps sp ∧ Cls K C ∧ Meth K C m f ∧ Binds K fd ps []
theorem Mf.mono {P : Program} {w : World} {K : PySem.W.Frag} {mg : Str → Option Value} {base : Heap} {Tq : List (Addr × Str)} {j k : Nat} {C : Addr} {m : Str} {ps : List Str} {sp : Spc} (G : Mf P w K mg base Tq j C m ps sp) (h : j ≤ k) : Mf P w K mg base Tq k C m ps sp :=
  let ⟨f, fd, g, r⟩ := G.ex; ⟨f, fd, g.mono h, r⟩
/-- a class that is made by its own __init__ -/
structure Ck (P : Program) (w : World) (K : PySem.W.Frag) (mg : Str → Option Value) (base : Heap) (Tq : List (Addr × Str)) (k : Nat) (x : Str) (C : Addr) (ps : List Str) (sp : Spc) : Prop where
  ex : ∃ f fd, FnG P w K mg base Tq k f fd ps sp ∧ Mk K C f ∧ mg x = some (.ref C) ∧ Binds K fd ps []
theorem Ck.mono {P : Program} {w : World} {K : PySem.W.Frag} {mg : Str → Option Value} {base : Heap} {Tq : List (Addr × Str)} {j k : Nat} {x : Str} {C : Addr} {ps : List Str} {sp : Spc} (G : Ck P w K mg base Tq j x C ps sp) (h : j ≤ k) : Ck P w K mg base Tq k x C ps sp :=
  let ⟨f, fd, g, r⟩ := G.ex; ⟨f, fd, g.mono h, r⟩
section
variable {Tq : List (Addr × Str)} {Z : Zb Tq} {X : Cx} {e a b c o value : Expr} {es : List Expr} {env : Env} {pos pos' apos p : Pos} {P : R → Env → Prop} {f x m : Str} {k : Nat} {C : Addr} {ps : List Str} {sp : Spc}
/-- o.m(..), with what is wanted of an error -/
def methR {Tq : List (Addr × Str)} (as : List Expr) (Z : Zb Tq) (X : Cx) (C : Addr) (m : Str) (r : R) (e1 : Env) (k : List A → Env → Prop) : Prop := match r with
  | .bor a i p => match getP i p e1 with
    | some (.ins a' C' fs) => (a' = a ∧ C' = C ∧ fs.lookup m = none) ∧ WAs Z X as e1 fun as' e2 => k (.bor a i p :: as') e2
    | _ => False
  | _ => False
theorem methR_ok {σ : L2.St} {F H : Hp} {O : List Addr} {v : V} {r : R} {e1 : Env} {kk : List A → Env → Prop} (st : StR F H O σ e1 v r) (h : methR es Z X C m r e1 kk) :
    ∃ a i p dx vs, v = .ref a ∧ r = .bor a i p ∧ H a = some (.ins C dx vs) ∧ vs.lookup m = none ∧ OwE F H O σ e1 ∧ WAs Z X es e1 fun as' e2 => kk (.bor a i p :: as') e2 := by
  cases r with
  | t t => exact h.elim
  | bor a i p =>
    obtain ⟨o1, rfl⟩ := st
    unfold methR at h
    simp only at h
    split at h
    · rename_i a' C' fs hg
      obtain ⟨⟨rfl, rfl, hm⟩, h⟩ := h
      obtain ⟨w, ⟨Oj, O', h1, h2, h3⟩, _⟩ := o1.focus hg
      cases h1 with
      | ins ha hd rr =>
        refine ⟨_, i, p, _, _, rfl, rfl, ha, ?_, o1, h⟩
        rcases rr.look (f := m) with ⟨_, e2⟩ | ⟨t, w, Ot, e2, _, _⟩
        · exact e2
        · rw [hm] at e2; cases e2
    · exact h.elim
theorem w_methX {ET : Ex → Env → Prop} {pl : Sem Bool} (G : Mf X.prog X.w X.K X.mg X.base Tq k C m ps sp) (hr : Room k X.A) (hgd : X.A.guards = some []) (tk : Takes X (wxOf Z ET))
    (h : WE Z X o env fun r e1 => methR (e :: es) Z X C m r e1 fun as e2 => callD sp as e2 (fun t e => P (.t t) e) ET)
    (hst : starEach (e :: es) X.env = (false, eval e X.env) :: starEach es X.env := by rfl) (hpl : (backTo pos (starEach es X.env)).any (·.1) = false := by rfl)
    (ht : eval (.Call (.Attribute o m apos) (e :: es) [] pos) X.env = (do
      let ov ← eval o X.env
      standAt apos.atName
      let (f, first) ← holding [ov] (getMethod ov m pl)
      callWith pos f first (backTo pos (starEach (e :: es) X.env)) (backToKw pos (keywordEach [] X.env))) := by rfl) :
    WE Z X (.Call (.Attribute o m apos) (e :: es) [] pos) env P := fun pins s σ H F O I b o0 => by
  obtain ⟨f, fd, g, c, hm, hb⟩ := G.ex
  refine PySem.W.methodCall_KW (pl := pl) (thn (h pins s σ H F O I b o0) fun u s1 ⟨v, H1, I1, rx, F1, O1, r, e1, b1, st, fr, q⟩ => ?_) ht
  obtain ⟨a, i, p, dx, vs, rfl, rfl, ha, hl, o1, q⟩ := methR_ok st q
  obtain rfl : u = Value.ref a := rx
  refine getmeth_ok I1 ha c hm hl ?_
  refine PySem.W.callWith_K (first := [.ref a]) (h₀ := X.base) I1.ok.mod.kin hm.kp (thn ((pa_As (Z := Z)).run pos pins s1 σ H1 (PostAs Z σ H1 F1 O1 _) I1 ⟨e1, F1, O1, _, b1, o1, q, fun _ _ q => q⟩) fun us s2 ⟨vs2, H2, I2, r2, F2, O2, as, e2, b2, o2, st2, fr2, q2⟩ => ⟨I2.kIn, ?_⟩) hst hpl
  have hl2 : (Value.ref a :: us ++ []).length = ps.length := by
    obtain ⟨ts, e3, Oc, Or, pm, sv, o3, hh⟩ := deref_ok (as := .bor a i p :: as) (vs := .ref a :: vs2) (.cons rfl st2) o2 q2
    rw [← g.len _ _ _ hh, ← sv.len, List.append_nil]
    show us.length + 1 = vs2.length + 1
    rw [← r2.length]
  have hb2 := hb s2 (Value.ref a :: us) I2.kIn hl2
  rw [List.append_nil] at hb2
  exact thn (call_g (us0 := .ref a :: us) (kw := []) (us := .ref a :: us) (vs := .ref a :: vs2) (as := .bor a i p :: as) g hr hgd tk hb2 I2 b2 o2 (.cons rfl st2) (.cons rfl r2) q2) (EP.imp fun v H' q => q.from (fr.trans fr2))
theorem w_methX0 {ET : Ex → Env → Prop} {pl : Sem Bool} (G : Mf X.prog X.w X.K X.mg X.base Tq k C m ps sp) (hr : Room k X.A) (hgd : X.A.guards = some []) (tk : Takes X (wxOf Z ET))
    (h : WE Z X o env fun r e1 => methR [] Z X C m r e1 fun as e2 => callD sp as e2 (fun t e => P (.t t) e) ET)
    (ht : eval (.Call (.Attribute o m apos) [] [] pos) X.env = (do
      let ov ← eval o X.env
      standAt apos.atName
      let (f, first) ← holding [ov] (getMethod ov m pl)
      callWith pos f first (backTo pos (starEach [] X.env)) (backToKw pos (keywordEach [] X.env))) := by rfl) :
    WE Z X (.Call (.Attribute o m apos) [] [] pos) env P := fun pins s σ H F O I b o0 => by
  obtain ⟨f, fd, g, c, hm, hb⟩ := G.ex
  refine PySem.W.methodCall_KW (pl := pl) (thn (h pins s σ H F O I b o0) fun u s1 ⟨v, H1, I1, rx, F1, O1, r, e1, b1, st, fr, q⟩ => ?_) ht
  obtain ⟨a, i, p, dx, vs, rfl, rfl, ha, hl, o1, q⟩ := methR_ok st q
  obtain rfl : u = Value.ref a := rx
  refine getmeth_ok I1 ha c hm hl ?_
  replace q : callD sp [.bor a i p] e1 (fun t e => P (R.t t) e) ET := q
  have hl2 : ([Value.ref a] ++ []).length = ps.length := by
    obtain ⟨ts, e3, Oc, Or, pm, sv, o3, hh⟩ := deref_ok (as := [.bor a i p]) (vs := [.ref a]) (.cons rfl .nil) o1 q
    rw [← g.len _ _ _ hh, ← sv.len]
    rfl
  have hb2 := hb s1 [Value.ref a] I1.kIn hl2
  rw [List.append_nil] at hb2
  exact PySem.W.callWith_K0 (first := [.ref a]) I1.kIn hm.kp (thn (call_g (us0 := [.ref a]) (kw := []) (us := [.ref a]) (vs := [.ref a]) (as := [.bor a i p]) g hr hgd tk hb2 I1 b1 o1 (.cons rfl .nil) (.cons rfl .nil) q) (EP.imp fun v H' q => q.from fr))
theorem w_meth {pl : Sem Bool} (G : Mf X.prog X.w X.K X.mg X.base Tq k C m ps sp) (hr : Room k X.A) (hgd : X.A.guards = some [])
    (h : WE Z X o env fun r e1 => methR (e :: es) Z X C m r e1 fun as e2 => callD sp as e2 (fun t e => P (.t t) e) fun _ _ => False)
    (hst : starEach (e :: es) X.env = (false, eval e X.env) :: starEach es X.env := by rfl) (hpl : (backTo pos (starEach es X.env)).any (·.1) = false := by rfl)
    (ht : eval (.Call (.Attribute o m apos) (e :: es) [] pos) X.env = (do
      let ov ← eval o X.env
      standAt apos.atName
      let (f, first) ← holding [ov] (getMethod ov m pl)
      callWith pos f first (backTo pos (starEach (e :: es) X.env)) (backToKw pos (keywordEach [] X.env))) := by rfl) :
    WE Z X (.Call (.Attribute o m apos) (e :: es) [] pos) env P := w_methX (pl := pl) G hr hgd takes_no h hst hpl ht
theorem w_meth0 {pl : Sem Bool} (G : Mf X.prog X.w X.K X.mg X.base Tq k C m ps sp) (hr : Room k X.A) (hgd : X.A.guards = some [])
    (h : WE Z X o env fun r e1 => methR [] Z X C m r e1 fun as e2 => callD sp as e2 (fun t e => P (.t t) e) fun _ _ => False)
    (ht : eval (.Call (.Attribute o m apos) [] [] pos) X.env = (do
      let ov ← eval o X.env
      standAt apos.atName
      let (f, first) ← holding [ov] (getMethod ov m pl)
      callWith pos f first (backTo pos (starEach [] X.env)) (backToKw pos (keywordEach [] X.env))) := by rfl) :
    WE Z X (.Call (.Attribute o m apos) [] [] pos) env P := w_methX0 (pl := pl) G hr hgd takes_no h ht

/-! ### C(..) -/
def callN (sp : Spc) (C : Addr) (as : List A) (env : Env) (PT : T → Env → Prop) (ET : Ex → Env → Prop) : Prop :=
  ∀ a, deref as env fun ts e2 => sp (.ins a C [] :: ts) (fun t ts' => t = .va .none ∧ match ts' with
      | some u :: ts'' => u.addr = some a ∧ putb as ts'' e2 fun e3 => PT u e3
      | _ => False)
    (fun ex ts' => match ts' with
      | _ :: ts'' => putb as ts'' e2 fun e3 => ET ex e3
      | [] => False)
theorem guards_make {A : Around} {C : Addr} {us : List Value} {kw : List (Str × Value)} (h : A.guards = some []) : (A.under (.builtin "type.__call__" ⟨.ref C :: us, kw⟩)).guards = some [] := by
  first | exact h | (simp [Around.under, Code.weight, Code.isCreation, Code.isGuard, Code.isCaller, Code.frames, Code.isFrame, guardIds, h])
theorem make_g {fI : Addr} {fd : FuncData} {ET : Ex → Env → Prop} {as : List A} {vs : List V} {us : List Value} {pins : List (Addr × Obj)} {s : Shared} {σ : L2.St} {H F : Hp} {O : List Addr}
    (M : Mk X.K C fI) (G : FnG X.prog X.w X.K X.mg X.base Tq k fI fd ps sp) (hr : Room (k + 1) X.A) (hg : X.A.guards = some []) (tk : Takes X (wxOf Z ET)) (hb : Binds X.K fd ps []) (I : Inv X pins σ H s) (b : Bas Z F H O) (o : OwE F H O σ env)
    (st : StAs F vs as) (r : Vals vs us) (h : callN sp C as env (fun t e => P (.t t) e) ET) : wpAny (model X.prog X.w) X.A (call (.ref C) us) (EP X pins σ (Post Z σ H F O P)) X.xe s := by
  have nx : H (s.heap.objs.size + 1) = none := I.hok.fresh (Nat.le_succ _)
  have ndx : H s.heap.objs.size = none := I.hok.fresh (Nat.le_refl _)
  have nex : s.heap.objs.size ≠ s.heap.objs.size + 1 := Nat.ne_of_lt (Nat.lt_succ_self _)
  have h := h (s.heap.objs.size + 1)
  have I2 := Inv.made (C := C) I
  generalize eH : upd (upd H s.heap.objs.size (.own (s.heap.objs.size + 1))) (s.heap.objs.size + 1) (.ins C s.heap.objs.size []) = H2 at I2
  have h2x : H2 (s.heap.objs.size + 1) = some (.ins C s.heap.objs.size []) := by rw [← eH, upd_same]
  have h2d : H2 s.heap.objs.size = some (.own (s.heap.objs.size + 1)) := by rw [← eH, upd_ne nex, upd_same]
  have s2 : Same H H2 := fun c y e => by rw [← eH, upd_ne (ne_of_none e nx), upd_ne (ne_of_none e ndx)]; exact e
  obtain ⟨ts, e2, Oc, Or, pm, sv, o2, h⟩ := deref_ok st o h
  have ex : ∀ c ∈ Or, Held H c := o2.held
  have exc : ∀ c ∈ Oc, Held H c := fun c hc => o.held c (pm.mem_iff.mpr (List.mem_append_left _ hc))
  have keep2 : ∀ c, H c ≠ none → H2 c = H c := fun c hc => by
    cases q : H c with
    | none => exact absurd q hc
    | some y => exact s2 c y q
  -- the new instance beside the arguments
  have Fx : F (s.heap.objs.size + 1) = none := b.sub.free nx
  have Fd : F s.heap.objs.size = none := b.sub.free ndx
  have fr0 : Frm Tq H F O H2 F (O ++ [s.heap.objs.size + 1, s.heap.objs.size]) := ⟨Same.refl _, fun c y e _ _ => s2 c y e, fun c e => by rw [keep2 c e]; exact e, fun c e => .inl e, fun c hc => by
    rcases List.mem_append.mp hc with z | z
    · exact .inl z
    · rcases List.mem_cons.mp z with rfl | z
      · exact .inr nx
      · rw [List.mem_singleton.mp z]; exact .inr ndx, tab_same s2⟩
  have b0 : Bas Z F H2 (O ++ [s.heap.objs.size + 1, s.heap.objs.size]) := ⟨b.sub.trans s2, List.nodup_append.mpr ⟨b.nd, List.nodup_cons.mpr ⟨fun z => nex (List.mem_singleton.mp z).symm, List.nodup_cons.mpr ⟨fun z => (nomatch z), List.nodup_nil⟩⟩, fun c hc d hd z => by
      subst z
      have := o.there c hc
      rcases List.mem_cons.mp hd with z | z
      · exact this (z ▸ nx)
      · exact this ((List.mem_singleton.mp z) ▸ ndx)⟩, fun c hc => by
      rcases List.mem_append.mp hc with z | z
      · exact b.dis c z
      · rcases List.mem_cons.mp z with rfl | z
        · exact Fx
        · rw [List.mem_singleton.mp z]; exact Fd, b.abs.trans fr0⟩
  have pm2 : (O ++ [s.heap.objs.size + 1, s.heap.objs.size]).Perm (((s.heap.objs.size + 1) :: s.heap.objs.size :: Oc) ++ Or) := (List.perm_append_comm (l₁ := O)).trans ((pm.cons s.heap.objs.size).cons (s.heap.objs.size + 1))
  have bc := (b0.perm pm2).left.entry
  have sv2 : StV F H2 ((s.heap.objs.size + 1) :: s.heap.objs.size :: Oc) (.ref (s.heap.objs.size + 1) :: vs) (.ins (s.heap.objs.size + 1) C [] :: ts) := by
    have w0 : Ow F H2 [s.heap.objs.size + 1, s.heap.objs.size] (.ref (s.heap.objs.size + 1)) (.ins (s.heap.objs.size + 1) C []) := .ins h2x h2d .nil
    have svs : StV F H2 Oc vs ts := by
      have key : ∀ {Oc : List Addr} {vs : List V} {ts : List T}, StV F H Oc vs ts → (∀ c ∈ Oc, H2 c = H c) → StV F H2 Oc vs ts := fun {Oc vs ts} z => by
        induction z with
        | nil => intro _; exact .nil
        | cons w r ih => intro kk; exact .cons (w.stay (Same.refl _) fun c hc => kk c (List.mem_append_left _ hc)) (ih fun c hc => kk c (List.mem_append_right _ hc))
      exact key sv fun c hc => keep2 c (exc c hc).ne
    exact .cons w0 svs
  have r2 : Vals (V.ref (s.heap.objs.size + 1) :: vs) (Value.ref (s.heap.objs.size + 1) :: us) := .cons rfl r
  have hl : (Value.ref (s.heap.objs.size + 1) :: us ++ []).length = ps.length := by
    rw [List.append_nil, ← r2.length, sv2.len, G.len _ _ _ h]
  have ex2 : ∀ c ∈ Or, Held H2 c := fun c hc => let ⟨y, e, n⟩ := ex c hc; ⟨y, s2 c y e, n⟩
  refine wpAny_call (make_map (f := fI) I.kIn M.makes M.init (beq_iff_eq.mp M.fn) ?_)
  have hb2 := hb _ (Value.ref (s.heap.objs.size + 1) :: us) I2.kIn hl
  rw [List.append_nil] at hb2
  have run := G.run (X.A.under (.builtin "type.__call__" ⟨.ref C :: us, []⟩)) X.stack _ H2 ⟨Value.ref (s.heap.objs.size + 1) :: us, []⟩ (Value.ref (s.heap.objs.size + 1) :: us) (V.ref (s.heap.objs.size + 1) :: vs) F ((s.heap.objs.size + 1) :: s.heap.objs.size :: Oc) (.ins (s.heap.objs.size + 1) C [] :: ts) _ _
    (fun cls d H' => ∃ e ts' F' O', Bas ⟨H2, F, (s.heap.objs.size + 1) :: s.heap.objs.size :: Oc, (b0.perm pm2).left.tabs⟩ F' H' O' ∧ StVO F' H' O' (.ref (s.heap.objs.size + 1) :: vs) ts' ∧ ExAt F' e cls d ∧ (match ts' with | _ :: ts'' => putb as ts'' e2 fun e3 => ET e e3 | [] => False)) (b0.perm pm2).left.tabs (hr.make C us []) (guards_make hg) (I2.env0.make C us []) hb2 r2 bc sv2 h
    fun e ts' cls d H' F' O' b' s' x' q => ⟨e, ts', F', O', b', s', x', q⟩
  refine codeAny_mono (run) fun rs s' hq => ?_
  have back : ∀ {F' H' : Hp} {O1 O2 : List Addr} {ts' : List (Option T)} {kk : Env → Prop}, Bas ⟨H2, F, _ :: s.heap.objs.size :: Oc, (b0.perm pm2).left.tabs⟩ F' H' (O1 ++ O2) → StVO F' H' O1 vs ts' → putb as ts' e2 kk →
      ∃ e3 O3, OwE F' H' O3 σ e3 ∧ Bas Z F' H' (O3 ++ O2) ∧ Frm Tq H F O H' F' (O3 ++ O2) ∧ kk e3 := fun {F' H' O1 O2 ts' kk} b' s' q => by
    have fr := b'.abs
    have b3 := Bas.frame fr (b0.perm pm2) b' ex2
    have keep := fr.rest (R := Or) (pm2.nodup b0.nd) ex2
    obtain ⟨e3, O3, Od, o3, p3, q3⟩ := putb_ok (F := F') (H := H') (st) s' (o2.stay fr.fz fun c hc => (keep c hc).trans (keep2 c (ex c hc).ne)) q
    have p4 : ((O1 ++ O2) ++ Or).Perm ((O3 ++ O2) ++ Od) := by
      have e1 : ((O1 ++ O2) ++ Or).Perm ((O1 ++ Or) ++ O2) := by
        rw [List.append_assoc, List.append_assoc]
        exact List.perm_append_comm.append_left O1
      have e2 : ((O3 ++ O2) ++ Od).Perm ((O3 ++ Od) ++ O2) := by
        rw [List.append_assoc, List.append_assoc]
        exact List.perm_append_comm.append_left O3
      exact e1.trans ((p3.append_right O2).trans e2.symm)
    exact ⟨e3, O3, o3, (b3.perm p4).left, fr0.trans ((fr.frame (R := Or)).perm (fun c => pm2.symm.mem_iff) (fun c hc => p4.mem_iff.mpr (List.mem_append_left _ hc))), q3⟩
  cases rs with
  | error e =>
    refine tk e s' (XE.of_call I2 (fun cls d H' hE => ?_) hq)
    obtain ⟨y, ts', F', O', b', sv', xa, q⟩ := hE
    cases sv' with
    | un sv' =>
      obtain ⟨e3, O3, o3, b3, fr3, q3⟩ := back (O2 := []) (by rw [List.append_nil]; exact b') sv' q
      rw [List.append_nil] at b3 fr3
      exact ⟨F', O3, e3, y, b3, o3, xa, q3⟩
    | cons w sv' =>
      rename_i Ou O1' u ts''
      obtain ⟨e3, O3, o3, b3, fr3, q3⟩ := back (O1 := O1') (O2 := Ou) (b'.perm List.perm_append_comm) sv' q
      exact ⟨F', O3, e3, y, b3.left, o3, xa, q3⟩
  | ok fl =>
    cases fl with
    | ret u =>
      obtain ⟨v, H', I3, rv, F', O1, O2, t, ts', b', sv', w', rfl, q⟩ := I2.after hq
      cases w' with
      | va rr =>
        cases rr
        refine ⟨rv, ?_⟩
        cases sv' with
        | un sv' => exact q.elim
        | cons w sv' =>
          rename_i Ou O1' u ts''
          obtain ⟨hu, q⟩ := q
          have pmx : ((Ou ++ O1') ++ []).Perm (O1' ++ Ou) := by rw [List.append_nil]; exact List.perm_append_comm
          obtain ⟨e3, O3, o3, b3, fr3, q3⟩ := back (O1 := O1') (O2 := Ou) (b'.perm pmx) sv' q
          exact ⟨V.ref (s.heap.objs.size + 1), H', I3, rfl, F', O3 ++ Ou, .t u, e3, b3, ⟨O3, Ou, rfl, o3, w⟩, fr3, q3⟩
    | next => exact hq.elim
    | brk => exact hq.elim
    | cont => exact hq.elim
theorem w_makeX {ET : Ex → Env → Prop} (G : Ck X.prog X.w X.K X.mg X.base Tq k x C ps sp) (hr : Room (k + 1) X.A) (hgd : X.A.guards = some []) (tk : Takes X (wxOf Z ET)) (h : WAs Z X (e :: es) env fun as e1 => callN sp C as e1 (fun t e => P (.t t) e) ET)
    (hg : Gl X x := by rfl) (hdb : (x == ("__debug__" : Str)) = false := by decide) (he : starEach (e :: es) X.env = (false, eval e X.env) :: starEach es X.env := by rfl) (hpl : (backTo pos (starEach es X.env)).any (·.1) = false := by rfl) :
    WE Z X (.Call (.Name x p) (e :: es) [] pos) env P := fun pins s σ H F O I b o => by
  obtain ⟨fI, fd, g, M, hm, hb⟩ := G.ex
  refine wpAny_Call_Name_kw (ld_glob I hg hm ?_ hdb)
  refine PySem.W.callWith_K (h₀ := X.base) I.ok.mod.kin M.kp (thn ((pa_As (Z := Z)).run pos pins s σ H (PostAs Z σ H F O _) I ⟨env, F, O, _, b, o, h, fun _ _ q => q⟩) fun us s1 ⟨vs, H1, I1, r, F1, O1, as, e1, b1, o1, st, fr, q⟩ => ⟨I1.kIn, ?_⟩) he hpl
  exact thn (make_g M g hr hgd tk hb I1 b1 o1 st r q) (EP.imp fun v H' q => q.from fr)
theorem w_makeX0 {ET : Ex → Env → Prop} (G : Ck X.prog X.w X.K X.mg X.base Tq k x C ps sp) (hr : Room (k + 1) X.A) (hgd : X.A.guards = some []) (tk : Takes X (wxOf Z ET)) (h : callN sp C [] env (fun t e => P (.t t) e) ET)
    (hg : Gl X x := by rfl) (hdb : (x == ("__debug__" : Str)) = false := by decide) : WE Z X (.Call (.Name x p) [] [] pos) env P := fun pins s σ H F O I b o => by
  obtain ⟨fI, fd, g, M, hm, hb⟩ := G.ex
  refine wpAny_Call_Name_kw (ld_glob I hg hm ?_ hdb)
  exact PySem.W.callWith_K0 I.kIn M.kp (make_g (us := []) M g hr hgd tk hb I b o .nil .nil h)
theorem w_make (G : Ck X.prog X.w X.K X.mg X.base Tq k x C ps sp) (hr : Room (k + 1) X.A) (hgd : X.A.guards = some []) (h : WAs Z X (e :: es) env fun as e1 => callN sp C as e1 (fun t e => P (.t t) e) fun _ _ => False)
    (hg : Gl X x := by rfl) (hdb : (x == ("__debug__" : Str)) = false := by decide) (he : starEach (e :: es) X.env = (false, eval e X.env) :: starEach es X.env := by rfl) (hpl : (backTo pos (starEach es X.env)).any (·.1) = false := by rfl) :
    WE Z X (.Call (.Name x p) (e :: es) [] pos) env P := w_makeX G hr hgd takes_no h hg hdb he hpl
theorem w_make0 (G : Ck X.prog X.w X.K X.mg X.base Tq k x C ps sp) (hr : Room (k + 1) X.A) (hgd : X.A.guards = some []) (h : callN sp C [] env (fun t e => P (.t t) e) fun _ _ => False)
    (hg : Gl X x := by rfl) (hdb : (x == ("__debug__" : Str)) = false := by decide) : WE Z X (.Call (.Name x p) [] [] pos) env P := w_makeX0 G hr hgd takes_no h hg hdb
end
end QL

/-! QN: min, max, sorted over data; tuple(reversed(list)). -/
namespace QL
open PySem PySem.Spec PyProof.Rows L2
section
variable {Tq : List (Addr × Str)} {Z : Zb Tq} {X : Cx} {e a b c o : Expr} {es : List Expr} {env : Env} {pos pos2 p p2 : Pos} {P : R → Env → Prop}
/-- what the items of a list are known to be, as the kit's data words take it -/
theorem RpA.readsA {pins : List (Addr × Obj)} {σ : L2.St} {F H : Hp} {s : Shared} (I : Inv X pins σ H s) (sF : Same F H) : ∀ {vs : List V} {us : List Value} {ds : List D}, RpA F vs ds → Vals vs us → PyData.hasDictAll ds = false → ∃ as, ReadsAll s.heap us ds as
  | _, _, _, .nil, .nil, _ => ⟨_, .nil⟩
  | _, _, _, .cons h r, .cons g q, nd => by
    have nd2 := Bool.or_eq_false_iff.mp (show (PyData.hasDict _ || PyData.hasDictAll _) = false from nd)
    obtain ⟨as, k1⟩ := (h.mono sF).reads I g nd2.1
    obtain ⟨bs, k2⟩ := r.readsA I sF q nd2.2
    exact ⟨_, .cons k1 k2⟩
def bestG (f : D → List D → D) (ds : List D) (k : T → Prop) : Prop := ∃ x xs d, (ds = [.list (x :: xs)] ∨ ds = [.tuple (x :: xs)]) ∧ PyData.hasDictAll (x :: xs) = false ∧ W.AlikeAll (x :: xs) ∧ PyData.depthAll (x :: xs) ≤ 60 ∧ f x xs = d ∧ k (.va d)
theorem best_fin {pins : List (Addr × Obj)} {σ : L2.St} {F H : Hp} {s : Shared} {vs : List V} {us : List Value} {ds : List D} {d : D} {k : T → Prop} (I : Inv X pins σ H s) (sF : Same F H) (r : RpA F vs ds) (q : Vals vs us) (nd : PyData.hasDictAll ds = false) (h : k (.va d)) {i : Nat} {v : Value} {h' : Heap} {tk : Nat} {bs : List Addr}
    (hi : us[i]? = some v) (rd : Reads h' v d bs) (kk : ∀ b o, s.heap.get? b = some o → h'.get? b = some o) : EP X pins σ (NewV F H k) v { s with heap := h', toks := tk } := by
  have gv : ∃ x, vs[i]? = some x ∧ L2.RelV x v := by
    cases hx : vs[i]? with
    | none => rw [List.getElem?_eq_none_iff, q.length, ← List.getElem?_eq_none_iff] at hx; rw [hx] at hi; cases hi
    | some x => obtain ⟨u, g, rr⟩ := q.get hx; rw [g] at hi; cases hi; exact ⟨x, rfl, rr⟩
  obtain ⟨x, hx, rx⟩ := gv
  obtain ⟨d', hd, rp⟩ := r.get hx
  have nd' : d'.hasDict = false := by
    have key : ∀ {ds : List D} {i : Nat}, PyData.hasDictAll ds = false → ds[i]? = some d' → d'.hasDict = false := fun {ds} => by
      induction ds with
      | nil => intro i _ z; cases z
      | cons y ys ih =>
        intro i z e
        have z2 := Bool.or_eq_false_iff.mp (show (PyData.hasDict y || PyData.hasDictAll ys) = false from z)
        cases i with
        | zero => cases e; exact z2.1
        | succ i => exact ih z2.2 e
    exact key nd hd
  obtain ⟨as, k1⟩ := (rp.mono sF).reads I rx nd'
  have k2 := PyProof.Rows.Reads.keeps kk k1
  obtain ⟨rfl, _⟩ := Reads.unique k2 _ _ rd
  exact ⟨x, H, I.kept kk, rx, NewV.val sF rp h⟩
theorem dc_minL (hc : X.calm = true) (hu : X.A.units + 110 < cLine) : DCall X (.builtin "min") (bestG W.minD) := fun pins s σ H F vs us ds k I sF ws rv ⟨x, xs, d0, e, nd, al, dp, ed, h⟩ => by
  subst ed
  rcases e with rfl | rfl
  · obtain ⟨v, rfl, w⟩ := ws.one
    obtain ⟨u, rfl, ru⟩ := rv.one
    obtain ⟨p, ys, rfl, h1, r1⟩ := w.lst' sF
    obtain rfl : u = Value.ref p := ru
    obtain ⟨its, rv2, p2, hz⟩ := I.list (SqL.of h1)
    obtain ⟨as, rd⟩ := r1.readsA I sF rv2 nd
    exact W.min_list_data (I.ok.hd hc) p2.isList (by simpa using rd) al (by omega) fun i v h' tk bs hi hr kk => best_fin I sF r1 rv2 nd h (by simpa using hi) hr kk
  · obtain ⟨v, rfl, w⟩ := ws.one
    obtain ⟨u, rfl, ru⟩ := rv.one
    obtain ⟨p, ys, rfl, h1, r1⟩ := w.tup
    obtain rfl : u = Value.ref p := ru
    obtain ⟨its, rv2, p2, hz⟩ := I.tuple (SqT.of (sF _ _ h1))
    obtain ⟨as, rd⟩ := r1.readsA I sF rv2 nd
    exact W.min_tuple_data (I.ok.hd hc) (show s.heap.IsTuple p its.toArray from p2) (by simpa using rd) al (by omega) fun i v h' tk bs hi hr kk => best_fin I sF r1 rv2 nd h (by simpa using hi) hr kk
theorem dc_maxL (hc : X.calm = true) (hu : X.A.units + 110 < cLine) : DCall X (.builtin "max") (bestG W.maxD) := fun pins s σ H F vs us ds k I sF ws rv ⟨x, xs, d0, e, nd, al, dp, ed, h⟩ => by
  subst ed
  rcases e with rfl | rfl
  · obtain ⟨v, rfl, w⟩ := ws.one
    obtain ⟨u, rfl, ru⟩ := rv.one
    obtain ⟨p, ys, rfl, h1, r1⟩ := w.lst' sF
    obtain rfl : u = Value.ref p := ru
    obtain ⟨its, rv2, p2, hz⟩ := I.list (SqL.of h1)
    obtain ⟨as, rd⟩ := r1.readsA I sF rv2 nd
    exact W.max_list_data (I.ok.hd hc) p2.isList (by simpa using rd) al (by omega) fun i v h' tk bs hi hr kk => best_fin I sF r1 rv2 nd h (by simpa using hi) hr kk
  · obtain ⟨v, rfl, w⟩ := ws.one
    obtain ⟨u, rfl, ru⟩ := rv.one
    obtain ⟨p, ys, rfl, h1, r1⟩ := w.tup
    obtain rfl : u = Value.ref p := ru
    obtain ⟨its, rv2, p2, hz⟩ := I.tuple (SqT.of (sF _ _ h1))
    obtain ⟨as, rd⟩ := r1.readsA I sF rv2 nd
    exact W.max_tuple_data (I.ok.hd hc) (show s.heap.IsTuple p its.toArray from p2) (by simpa using rd) al (by omega) fun i v h' tk bs hi hr kk => best_fin I sF r1 rv2 nd h (by simpa using hi) hr kk
/-- one thing alone is sorted -/
theorem sorts_one {prog : Program} {w : World} {A : Around} {s : Shared} {v : Value} {d : D} {as : List Addr} (r : Reads s.heap v d as) (al : W.alike d d = true) (hn : d ≠ .none) (hu : A.units + d.depth < cLine) : W.SortsAt prog w A s (W.dataKind s.heap [d]) [v] := by
  have al1 : W.AllAlike [d] := fun x hx y hy => by rw [List.mem_singleton.mp hx, List.mem_singleton.mp hy]; exact al
  refine ⟨fun x hx => ?_, general', ?_, fun h2 => absurd h2 (by simp)⟩
  · rw [List.mem_singleton.mp hx]
    exact ⟨_, W.dataKind_some al1 (List.mem_singleton.mpr rfl) r⟩
  · intro E x y a b Q ha hb hq
    obtain ⟨d1, as1, hd, ra, rfl⟩ := W.dataKind_inv ha
    obtain ⟨d2, as2, hd', rb, rfl⟩ := W.dataKind_inv hb
    have e1 := List.mem_singleton.mp hd
    have e2 := List.mem_singleton.mp hd'
    subst e1 e2
    show wpAny _ _ (oneLt' false x y) _ _ _
    exact W.oneLt_alike (fun z => (nomatch z)) ra rb al hn (by omega) hq
theorem sorted_data1 {prog : Program} {w : World} {A : Around} {E : Value → Shared → Prop} {s : Shared} {β : Type} {vs : List Value} {bs : List β} {enc : β → PyData} {R : Value → β → Prop} {l : Addr} {Q : Value → Shared → Prop} (hl : s.heap.IsList l vs.toArray) (e : W.EachIs R vs bs) (er : W.EachIs (fun v b => ∃ as, Reads s.heap v (enc b) as) vs bs) (hal : W.AllAlike (bs.map enc)) (hk : W.Sortable (bs.map enc) ∨ ∃ b, bs = [b] ∧ enc b ≠ .none) (hL : bs.length ≤ sizeLine)
    (hu : ∀ b, b ∈ bs → A.units + 2 + (enc b).depth < cLine) (h : ∀ out, out.length = bs.length → W.EachIs R out (bs.mergeSort (W.dataLe false enc)) → Q (.ref (s.heap.objs.size + 1)) { s with heap := sortedAll s.heap vs (List.toArray out) }) :
    wpAny (model prog w) A (call (.builtin "sorted") [.ref l]) Q E s := by
  rcases hk with hk | ⟨b, rfl, hn⟩
  · exact W.sorted_data hl e er hal hk hL hu h
  · have er' : W.EachIs (fun v b => ∃ as, Reads (W.sortingHeap (W.copyHeap s.heap vs) (s.heap.objs.size + 1) vs) v (enc b) as) vs [b] := er.mono fun _ _ ⟨as, r⟩ => ⟨as, PyProof.Rows.Reads.keeps (fun _ _ => W.sorting_copy_old) r⟩
    cases er' with
    | cons r rn =>
      cases rn
      obtain ⟨as, r⟩ := r
      have S := sorts_one (prog := prog) (w := w) (A := A.in1.in1) (s := { s with heap := W.sortingHeap (W.copyHeap s.heap [_]) (s.heap.objs.size + 1) [_] }) r (hal _ (List.mem_singleton.mpr rfl) _ (List.mem_singleton.mpr rfl)) hn (hu b (List.mem_singleton.mpr rfl))
      exact W.sorted_vals hl S (by rw [e.length]; exact hL) (h _ (by rw [W.sortVals_length false rfl]; exact e.length) (W.sortVals_data (enc := enc) (bs := [b]) false e (.cons ⟨as, r⟩ .nil) hal))
/-- sorted(list of alike data) -/
def sortedG (ds : List D) (k : T → Prop) : Prop := ∃ xs ys, ds = [.list xs] ∧ PyData.hasDictAll xs = false ∧ W.AllAlike xs ∧ (W.Sortable xs ∨ ∃ d, xs = [d] ∧ d ≠ .none) ∧ (∀ d ∈ xs, d.depth ≤ 60) ∧ xs.mergeSort (W.dataLe false id) = ys ∧ ∀ p, k (.lst p ys)
theorem dc_sorted (hu : X.A.units + 110 < cLine) : DCall X (.builtin "sorted") sortedG := fun pins s σ H F vs us ds k I sF ws rv ⟨xs, ysd, e, nd, al, so, dp, ed, h⟩ => by
  subst e ed
  obtain ⟨v, rfl, w⟩ := ws.one
  obtain ⟨u, rfl, ru⟩ := rv.one
  obtain ⟨p, ys, rfl, h1, r1⟩ := w.lst' sF
  obtain rfl : u = Value.ref p := ru
  obtain ⟨its, rv2, p2, hz⟩ := I.list (SqL.of h1)
  have each : ∀ {vs : List V} {us : List Value} {ds : List D}, RpA F vs ds → Vals vs us → PyData.hasDictAll ds = false → W.EachIs (fun u d => ∃ v, L2.RelV v u ∧ Rp F v d) us ds ∧ W.EachIs (fun u d => ∃ as, Reads s.heap u (id d) as) us ds := fun {vs us ds} r q nd => by
    induction us generalizing vs ds with
    | nil => cases q; cases r; exact ⟨.nil, .nil⟩
    | cons u us ih =>
      cases q with
      | cons g q =>
        cases r with
        | cons h r =>
          have nd2 := Bool.or_eq_false_iff.mp (show (PyData.hasDict _ || PyData.hasDictAll _) = false from nd)
          obtain ⟨i1, i2⟩ := ih r q nd2.2
          exact ⟨.cons ⟨_, g, h⟩ i1, .cons ((h.mono sF).reads I g nd2.1) i2⟩
  obtain ⟨e1, e2⟩ := each r1 rv2 nd
  refine sorted_data1 p2.isList e1 e2 (by rw [List.map_id]; exact al) (so.imp (fun z => by rw [List.map_id]; exact z) fun z => z) (by rw [← r1.len]; exact hz) (fun d hd => by have := dp d hd; show _ + 2 + d.depth < _; omega) fun out hl eo => ?_
  obtain ⟨ep, he'⟩ := PyProof.Rows.sortedAll_at s.heap its out.toArray
  have back : ∀ {us : List Value} {ds : List D}, W.EachIs (fun u d => ∃ v, L2.RelV v u ∧ Rp F v d) us ds → ∃ vs, Vals vs us ∧ RpA F vs ds := fun {us ds} r => by
    induction r with
    | nil => exact ⟨[], .nil, .nil⟩
    | cons h r ih =>
      obtain ⟨v, g, q⟩ := h
      obtain ⟨vs, i1, i2⟩ := ih
      exact ⟨v :: vs, .cons g i1, .cons q i2⟩
  obtain ⟨vs', k1, k2⟩ := back eo
  have np : H (s.heap.objs.size + 1) = none := I.hok.fresh (Nat.le_succ _)
  refine ⟨.ref (s.heap.objs.size + 1), upd H (s.heap.objs.size + 1) (.lst vs'), I.laid (t' := s.toks) (fun _ _ => PyProof.Rows.sortedAll_old) (Nat.le_succ _) ⟨?_, out, ep, k1, he'⟩, rfl, NewV.lst sF k2 np (h _)⟩
  rw [k1.length, hl, ← r1.len]
  exact hz
/-- tuple(reversed(list)) -/
theorem w_tupRev (hc : X.calm = true) (hm : X.mg "tuple" = none) (hm2 : X.mg "reversed" = none) (h : WA Z X e env fun a1 e1 => View a1 e1 fun d => ∃ xs, d = .list xs ∧ P (.t (.va (.tuple xs.reverse))) e1) (hg : Gl X "tuple" := by rfl) (hg2 : Gl X "reversed" := by rfl)
    (hs : starEach [e] X.env = (false, eval e X.env) :: starEach [] X.env := by rfl)
    (hs2 : starEach [.Call (.Name "reversed" p2) [e] [] pos2] X.env = (false, eval (.Call (.Name "reversed" p2) [e] [] pos2) X.env) :: starEach [] X.env := by rfl) : WE Z X (.Call (.Name "tuple" p) [.Call (.Name "reversed" p2) [e] [] pos2] [] pos) env P :=
  we_of (RT.pe_tupRev hc hg hm hg2 hm2 (pe_A (Z := Z)) hs hs2) fun σ H F O b o => ⟨env, F, O, _, b, o, h, fun v H1 ⟨F1, O1, a1, e1, b1, o1, st, fr, q⟩ => by
    obtain ⟨d, w, xs, rfl, q⟩ := View.vw q o1 st
    obtain ⟨p, vs, rfl, h1, r1⟩ := w.lst' b1.sub
    exact ⟨p, vs, rfl, SqL.of h1, fun p' hp' => ((NewV.tup b1.sub r1.rev hp' (k := fun t => t = .va (.tuple xs.reverse)) rfl).post b1 o1 (fun t e => by subst e; exact q)).from fr⟩⟩
end
end QL

/-! QO: displays with stars, x += e, comprehensions without a state. -/
namespace QL
open PySem PySem.Spec PyProof.Rows L2 StX
inductive Sg
  | a (x : A)
  | s (xs : List D)
def flatS : List Sg → List A
  | [] => []
  | .a x :: r => x :: flatS r
  | .s xs :: r => xs.map A.va ++ flatS r
def absorbS : List Sg → Env → (List D → Env → Prop) → Prop
  | [], env, k => k [] env
  | .a (.va d) :: as, env, k => absorbS as env fun ds env' => k (d :: ds) env'
  | .a (.bor a i p) :: as, env, k => match getP i p env with
    | some t => t.addr = some a ∧ match frzT t with
      | some d => absorbS as (setP i p (.va d) env) fun ds env' => k (d :: ds) env'
      | none => False
    | none => False
  | .s xs :: as, env, k => absorbS as env fun ds env' => k (xs ++ ds) env'
theorem absorb_vas : ∀ (xs : List D) {as : List A} {env : Env} {k : List D → Env → Prop}, absorb as env (fun ds e => k (xs ++ ds) e) → absorb (xs.map A.va ++ as) env k
  | [], _, _, _, h => h
  | x :: xs, _, _, k, h => by
    show absorb _ _ fun ds env' => k (x :: ds) env'
    exact absorb_vas xs (k := fun ds e => k (x :: ds) e) h
theorem absorbS_flat : ∀ {as : List Sg} {env : Env} {k : List D → Env → Prop}, absorbS as env k → absorb (flatS as) env k
  | [], _, _, h => h
  | .a (.va d) :: as, _, k, h => absorbS_flat (as := as) h
  | .a (.bor a i p) :: as, env, k, h => by
    show absorb (.bor a i p :: flatS as) env k
    unfold absorbS at h
    unfold absorb
    cases hg : getP i p env with
    | none => rw [hg] at h; exact h.elim
    | some t =>
      rw [hg] at h
      refine ⟨h.1, ?_⟩
      have h := h.2
      cases hf : frzT t with
      | none => simp only [hf] at h
      | some d => simp only [hf] at h ⊢; exact absorbS_flat h
  | .s xs :: as, env, k, h => absorb_vas xs (absorbS_flat (as := as) h)
def starD (ds : List D) (k : List D → Prop) : Prop := match ds with
  | [.tuple xs] => k xs
  | [.list xs] => k xs
  | _ => False
def starOf : Expr → Option Expr
  | .Starred e _ => some e
  | _ => none
def WAx {Tq : List (Addr × Str)} (Z : Zb Tq) (X : Cx) : List Expr → Env → (List Sg → Env → Prop) → Prop
  | [], env, P => P [] env
  | e :: es, env, P => match starOf e with
    | some e' => (starEach (e :: es) X.env = (true, eval e' X.env) :: starEach es X.env) ∧ WA Z X e' env fun a e1 => absorb [a] e1 fun ds e2 => starD ds fun xs => WAx Z X es e2 fun as e3 => P (.s xs :: as) e3
    | none => (starEach (e :: es) X.env = (false, eval e X.env) :: starEach es X.env) ∧ WA Z X e env fun a e1 => WAx Z X es e1 fun as e2 => P (.a a :: as) e2
def PostX {Tq : List (Addr × Str)} (Z : Zb Tq) (σ : L2.St) (H0 F0 : Hp) (O0 : List Addr) (P : List Sg → Env → Prop) : List V → Hp → Prop := fun vs H => ∃ F O as env, Bas Z F H O ∧ OwE F H O σ env ∧ StAs F vs (flatS as) ∧ Frm Tq H0 F0 O0 H F O ∧ P as env
def tAx {Tq : List (Addr × Str)} (Z : Zb Tq) (X : Cx) (es : List Expr) : TA := fun σ H Q => ∃ env F O P, Bas Z F H O ∧ OwE F H O σ env ∧ WAx Z X es env P ∧ ∀ v H', PostX Z σ H F O P v H' → Q v H'
theorem RpA.stas {F : Hp} : ∀ {vs : List V} {ds : List D}, RpA F vs ds → StAs F vs (ds.map A.va)
  | _, _, .nil => .nil
  | _, _, .cons h r => .cons h r.stas
theorem StAs.app {F : Hp} {vs us : List V} {as bs : List A} (h : StAs F vs as) (g : StAs F us bs) : StAs F (vs ++ us) (as ++ bs) := by
  induction h with
  | nil => exact g
  | cons a _ ih => exact .cons a ih
theorem pa_Ax {Tq : List (Addr × Str)} {Z : Zb Tq} {X : Cx} : ∀ {es : List Expr}, PA X es (tAx Z X es)
  | [] => ⟨fun pos pins s σ H Q I ⟨env, F, O, P, b, o, w, q⟩ => pa_nil.run pos pins s σ H Q I (q [] H ⟨F, O, [], env, b, o, .nil, Frm.refl _ _ _, w⟩)⟩
  | e :: es => ⟨fun pos pins s σ H Q I ⟨env, F, O, P, b, o, w, q⟩ => by
    unfold WAx at w
    cases hs : starOf e with
    | none =>
      simp only [hs] at w
      have hp := pa_cons (X := X) (pe_A (Z := Z) (e := e)) (pa_Ax (Z := Z) (es := es)) w.1
      refine hp.run pos pins s σ H Q I ⟨env, F, O, _, b, o, w.2, ?_⟩
      rintro v1 H1 ⟨F1, O1, a1, env1, b1, o1, st1, fr1, w1⟩
      refine ⟨env1, F1, O1, _, b1, o1, w1, ?_⟩
      rintro vs H2 ⟨F2, O2, as, env2, b2, o2, st2, fr2, w2⟩
      exact q _ _ ⟨F2, O2, .a a1 :: as, env2, b2, o2, .cons (st1.mono fr2.fz) st2, fr1.trans fr2, w2⟩
    | some e' =>
      simp only [hs] at w
      obtain ⟨p, rfl⟩ : ∃ p, e = .Starred e' p := by
        cases e with
        | Starred x p => cases hs; exact ⟨p, rfl⟩
        | _ => cases hs
      have hp := pa_star (X := X) (pe_A (Z := Z) (e := e')) (pa_Ax (Z := Z) (es := es)) w.1
      refine hp.run pos pins s σ H Q I ⟨env, F, O, _, b, o, w.2, ?_⟩
      rintro v1 H1 ⟨F1, O1, a1, env1, b1, o1, st1, fr1, w1⟩
      obtain ⟨F2, O2, ds, e2, b2, o2, r2, fr2, w2⟩ := absorb_ok (.cons st1 .nil) b1 o1 w1
      unfold starD at w2
      split at w2
      · cases r2 with
        | cons r3 rn =>
          cases rn
          cases r3 with
          | tup h3 r3 =>
            refine ⟨_, _, rfl, .inl (SqT.of (b2.sub _ _ h3)), e2, F2, O2, _, b2, o2, w2, ?_⟩
            rintro vs H3 ⟨F3, O3, as, env3, b3, o3, st3, fr3, w3⟩
            exact q _ _ ⟨F3, O3, .s _ :: as, env3, b3, o3, (r3.mono fr3.fz).stas.app st3, (fr1.trans fr2).trans fr3, w3⟩
      · cases r2 with
        | cons r3 rn =>
          cases rn
          cases r3 with
          | lst h3 r3 =>
            refine ⟨_, _, rfl, .inr (SqL.of (b2.sub _ _ h3)), e2, F2, O2, _, b2, o2, w2, ?_⟩
            rintro vs H3 ⟨F3, O3, as, env3, b3, o3, st3, fr3, w3⟩
            exact q _ _ ⟨F3, O3, .s _ :: as, env3, b3, o3, (r3.mono fr3.fz).stas.app st3, (fr1.trans fr2).trans fr3, w3⟩
      · exact w2.elim⟩
section
variable {Tq : List (Addr × Str)} {Z : Zb Tq} {X : Cx} {e a b c o tg iter elt : Expr} {es : List Expr} {env : Env} {pos : Pos} {P : R → Env → Prop}
/-- a tuple with stars -/
theorem w_tupX {x1 : _} (h : WAx Z X es env fun as env1 => absorbS as env1 fun ds env2 => ds.length ≤ sizeLine ∧ P (.t (.va (.tuple ds))) env2) : WE Z X (.Tuple es x1 pos) env P :=
  we_of (pe_tup (pa_Ax (Z := Z))) fun σ H F O b o => ⟨env, F, O, _, b, o, h, fun vs H1 ⟨F1, O1, as, env1, b1, o1, st1, fr1, h1⟩ => by
    obtain ⟨F2, O2, ds, env2, b2, o2, r2, fr2, z, q⟩ := absorb_ok st1 b1 o1 (absorbS_flat h1)
    refine ⟨by rw [r2.len]; exact z, fun p hp => ?_⟩
    exact ((NewV.tup b2.sub r2 hp (k := fun t => t = .va (.tuple ds)) rfl).post b2 o2 (fun t e => by subst e; exact q)).from (fr1.trans fr2)⟩
theorem w_lstX (h : WAx Z X es env fun as env1 => absorbS as env1 fun ds env2 => ds.length ≤ sizeLine ∧ ∀ p, P (.t (.lst p ds)) env2) : WE Z X (.List es pos) env P :=
  we_of (pe_lst (pa_Ax (Z := Z))) fun σ H F O b o => ⟨env, F, O, _, b, o, h, fun vs H1 ⟨F1, O1, as, env1, b1, o1, st1, fr1, h1⟩ => by
    obtain ⟨F2, O2, ds, env2, b2, o2, r2, fr2, z, q⟩ := absorb_ok st1 b1 o1 (absorbS_flat h1)
    refine ⟨by rw [r2.len]; exact z, fun p hp => ?_⟩
    exact ((NewV.lst b2.sub r2 hp (k := fun t => t = .lst p ds) rfl).post b2 o2 (fun t e => by subst e; exact q p)).from (fr1.trans fr2)⟩
/-! ### x += e -/
def addI (d1 d2 : D) (k : T → Prop) : Prop := match d1, d2 with
  | .int i, .int j => k (.va (.int (i + j)))
  | _, _ => False
theorem dip_add : DOp X (inplaceOp .Add) addI := by
  intro pins s σ H F v1 v2 u1 u2 d1 d2 k I sF w1 w2 r1 r2 hg
  cases d1 with
  | int i =>
    cases d2 with
    | int j =>
      cases w1.int
      cases w2.int
      exact in_add pins s σ H _ _ u1 u2 _ I r1 r2 ⟨i, j, rfl, rfl, NewV.val sF (.int _) hg⟩
    | _ => exact hg.elim
  | _ => exact hg.elim
theorem dip_sub : DOp X (inplaceOp .Sub) subD := by
  intro pins s σ H F v1 v2 u1 u2 d1 d2 k I sF w1 w2 r1 r2 hg
  cases d1 with
  | int i =>
    cases d2 with
    | int j =>
      cases w1.int
      cases w2.int
      exact in_sub pins s σ H _ _ u1 u2 _ I r1 r2 ⟨i, j, rfl, rfl, NewV.val sF (.int _) hg⟩
    | _ => exact hg.elim
  | _ => exact hg.elim
/-! ### comprehensions that leave the frame as it is -/
theorem wipeE_wipeE (e : Env) (vs : List Nat) : wipeE (wipeE e vs) vs = wipeE e vs := by
  apply List.ext_getElem?
  intro i
  have hl : ∀ (e : Env) (ws : List Nat), (wipeE e ws).length = e.length := fun e ws => by
    induction ws with
    | nil => rfl
    | cons w ws ih => unfold wipeE; rw [List.length_set, ih]
  rw [wipeE_get, wipeE_get, hl]
  by_cases h : i ∈ vs
  · rw [if_pos h, if_pos h]
  · rw [if_neg h, if_neg h]
structure FMo (f : TF) : Prop where
  mo : ∀ {d : D} {e : Env} {k k' : Env → Prop}, f d e k → (∀ e', k e' → k' e') → f d e k'
structure FMos (f : TFs) : Prop where
  mo : ∀ {d : List D} {e : Env} {k k' : Env → Prop}, f d e k → (∀ e', k e' → k' e') → f d e k'
theorem fm_name {i : Nat} : FMo (fName i) := ⟨fun h hk => ⟨h.1, hk _ h.2⟩⟩
theorem fm_nil : FMos fNil := ⟨fun h hk => ⟨h.1, hk _ h.2⟩⟩
theorem fm_cons {f : TF} {fs : TFs} (h1 : FMo f) (h2 : FMos fs) : FMos (fCons f fs) := ⟨fun {d e k k'} h hk => by
  cases d with
  | nil => exact h.elim
  | cons d r => exact h1.mo h fun e' w => h2.mo w hk⟩
theorem fm_tup {n : Nat} {fs : TFs} (h1 : FMos fs) : FMo (fTup n fs) := ⟨fun {d e k k'} h hk => by
  unfold fTup at h ⊢
  split at h
  · exact ⟨h.1, h1.mo h.2 hk⟩
  · exact h.elim⟩
theorem fm_tup2 {i j : Nat} : FMo (fTup 2 (fCons (fName i) (fCons (fName j) fNil))) := fm_tup (fm_cons fm_name (fm_cons fm_name fm_nil))
/-- [elt for x in ds]: ds are xs seen by enc, elt of x is g x; env0: the frame behind it -/
theorem lc_map {scope : Scope} {f : TF} (fm : FMo f) {vs : List Nat} {ds : List D} {e1 : Env} {α : Type} (enc : α → D) (xs : List α) (g : α → D) (env0 : Env) (h0 : wipeE e1 vs = env0) (hd : ds = xs.map enc) (hl : xs.length < sizeLine)
    (step : ∀ (k : Nat) x, xs[k]? = some x → f (enc x) env0 fun e' => Blk X scope fun X' => WA Z X' elt e' fun a e3 => absorb [a] e3 fun ds e4 => ds = [g x] ∧ wipeE e4 vs = env0)
    (fin : ∀ p, P (.t (.lst p (xs.map g))) env0) : LcI Z X scope f elt vs (fun e k => k true e) P ds e1 := by
  subst hd
  refine ⟨fun k acc e => e = env0 ∧ acc = (xs.take k).map g, ⟨h0, rfl⟩, ?_, ?_⟩
  · rintro k d acc e hk ⟨rfl, rfl⟩
    rw [List.getElem?_map, Option.map_eq_some_iff] at hk
    obtain ⟨x, hx, rfl⟩ := hk
    have q := step k x hx
    have up : ∀ {e' : Env}, (Blk X scope fun X' => WA Z X' elt e' fun a e3 => absorb [a] e3 fun ds e4 => ds = [g x] ∧ wipeE e4 vs = e) → ((true = true → ElI Z X scope elt vs (fun acc e0 => e0 = e ∧ acc = (xs.take (k + 1)).map g) ((xs.take k).map g) e') ∧ (true = false → (fun acc e0 => e0 = e ∧ acc = (xs.take (k + 1)).map g) ((xs.take k).map g) (wipeE e' vs))) := fun {e'} w => by
      refine ⟨fun _ s H C cl fp => ?_, fun z => nomatch z⟩
      refine WE.imp (w s H C cl fp) fun r e3 hr => ?_
      have ab : ∀ {a : A} {e3 : Env}, absorb [a] e3 (fun ds e4 => ds = [g x] ∧ wipeE e4 vs = e) → absorb [a] e3 fun ds e4 => match ds with | [y] => ((xs.take k).map g).length < sizeLine ∧ (fun acc e0 => e0 = e ∧ acc = (xs.take (k + 1)).map g) ((xs.take k).map g ++ [y]) (wipeE e4 vs) | _ => False := fun {a e3} h => by
        have fin : ∀ {y : D} {e4 : Env}, [y] = [g x] ∧ wipeE e4 vs = e → ((xs.take k).map g).length < sizeLine ∧ (wipeE e4 vs = e ∧ (xs.take k).map g ++ [y] = (xs.take (k + 1)).map g) := fun {y e4} ⟨h1, h2⟩ => by
          cases h1
          refine ⟨?_, h2, ?_⟩
          · rw [List.length_map, List.length_take]; omega
          · rw [List.take_add_one, hx]; simp
        cases a with
        | va d => exact fin h
        | bor a i p =>
          unfold absorb at h ⊢
          split at h
          · refine ⟨h.1, ?_⟩
            have h := h.2
            split at h
            · exact fin h
            · exact h.elim
          · exact h.elim
      cases r with
      | bor a i p => exact ab hr
      | t t =>
        unfold toA at hr ⊢
        simp only at hr ⊢
        split at hr
        · rename_i d hf
          exact ab (a := .va d) hr
        · exact hr.elim
    exact fm.mo q fun e' w => up w
  · rintro acc e ⟨rfl, rfl⟩ p
    rw [List.length_map, List.take_length]
    exact fin p
end
end QL

/-! QW: data whose text is short; data that may be compared. -/
namespace QL
open PySem PySem.Spec PyProof.Rows L2
mutual
def nodes : D → Nat
  | .list xs => 1 + nodesA xs
  | .tuple xs => 1 + nodesA xs
  | _ => 1
def nodesA : List D → Nat
  | [] => 0
  | x :: xs => nodes x + nodesA xs
end
mutual
/-- no text, no dict; ints below 2 ** 200 -/
def smallD : D → Bool
  | .list xs => smallA xs
  | .tuple xs => smallA xs
  | .int i => decide (i.natAbs < 2 ^ 200)
  | .none => true
  | .bool _ => true
  | _ => false
def smallA : List D → Bool
  | [] => true
  | x :: xs => smallD x && smallA xs
end
theorem small_int {i : Int} (h : i.natAbs < 2 ^ 200) : (PyData.shown (.int i)).length ≤ 256 ∧ (PyData.int i).weight ≤ 200 ∧ i.natAbs.log2 < 1920 := by
  have l : i.natAbs.log2 < 200 := by
    by_cases z : i.natAbs = 0
    · rw [z]; decide
    · exact (Nat.log2_lt z).mpr h
  refine ⟨?_, ?_, by omega⟩
  · show (PySem.Str.ofString (toString i)).length ≤ 256
    have big : (2 : Nat) ^ 200 < 10 ^ 61 := by decide
    by_cases z : i < 0
    · rw [len_text_neg z]
      have := PyProof.Rows.toString_length_le (v := 0 - i) (by omega) (k := 61) (by decide) (by omega)
      omega
    · have := PyProof.Rows.toString_length_le (v := i) (by omega) (k := 61) (by decide) (by omega)
      omega
  · show (if i == 0 then 0 else i.natAbs.log2 + 1) ≤ 200
    split <;> omega
mutual
theorem show_sm : ∀ d : D, smallD d = true → d.leavesShort 256 = true ∧ d.weight + 1 ≤ 203 * nodes d ∧ d.showable = true ∧ d.hasDict = false ∧ d.canLay0 = true
  | .none, _ => ⟨rfl, (by decide : 0 + 1 ≤ 203 * 1), rfl, rfl, rfl⟩
  | .bool _, _ => ⟨rfl, (by decide : 0 + 1 ≤ 203 * 1), rfl, rfl, rfl⟩
  | .int i, h => by
    obtain ⟨h1, h2, h3⟩ := small_int (of_decide_eq_true (by simpa only [smallD] using h))
    exact ⟨by simp only [PyData.leavesShort, decide_eq_true_eq]; exact h1, (by simp only [nodes]; omega), by simp only [PyData.showable, decide_eq_true_eq]; exact h3, rfl, rfl⟩
  | .str _, h => by simp [smallD] at h
  | .dict _, h => by simp [smallD] at h
  | .list xs, h => by
    obtain ⟨h1, h2, h3, h4, h5⟩ := show_smA xs (by simpa only [smallD] using h)
    exact ⟨by simpa only [PyData.leavesShort] using h1, by simp only [PyData.weight, nodes]; omega, by simpa only [PyData.showable] using h3, by simpa only [PyData.hasDict] using h4, by simpa only [PyData.canLay0] using h5⟩
  | .tuple xs, h => by
    obtain ⟨h1, h2, h3, h4, h5⟩ := show_smA xs (by simpa only [smallD] using h)
    exact ⟨by simpa only [PyData.leavesShort] using h1, by simp only [PyData.weight, nodes]; omega, by simpa only [PyData.showable] using h3, by simpa only [PyData.hasDict] using h4, by simpa only [PyData.canLay0] using h5⟩
theorem show_smA : ∀ ds : List D, smallA ds = true → PyData.leavesShortAll 256 ds = true ∧ PyData.weightAll ds ≤ 203 * nodesA ds ∧ PyData.showableAll ds = true ∧ PyData.hasDictAll ds = false ∧ PyData.canLayAll0 ds = true
  | [], _ => ⟨rfl, Nat.zero_le _, rfl, rfl, rfl⟩
  | d :: ds, h => by
    simp only [smallA, Bool.and_eq_true] at h
    obtain ⟨h1, h2, h3, h4, h5⟩ := show_sm d h.1
    obtain ⟨g1, g2, g3, g4, g5⟩ := show_smA ds h.2
    have np : 1 ≤ nodes d := by cases d <;> simp only [nodes] <;> omega
    exact ⟨by simp only [PyData.leavesShortAll, h1, g1, Bool.and_self], by simp only [PyData.weightAll, nodesA]; omega, by simp only [PyData.showableAll, h3, g3, Bool.and_self], by simp only [PyData.hasDictAll, h4, g4, Bool.or_self], by simp only [PyData.canLayAll0, h5, g5, Bool.and_self]⟩
end
theorem show0 {d : D} (h : smallD d = true) (hn : nodes d ≤ 300) (hd : d.depth ≤ 60) : showOk0 d := by
  obtain ⟨h1, h2, h3, h4, _⟩ := show_sm d h
  refine ⟨h4, h3, by omega, ?_⟩
  have := PyData.shown_le 256 (by decide) d h1
  show d.shown.length ≤ 16777216
  omega
theorem shaped_sm {d : D} (h : smallD d = true) (hd : d.depth ≤ 60) : SeqAt.shaped d = true := by
  unfold SeqAt.shaped
  rw [(show_sm d h).2.2.2.2, Bool.true_and]
  exact decide_eq_true (by omega)
theorem smallA_map {α : Type} {f : α → D} : ∀ {xs : List α}, (∀ x ∈ xs, smallD (f x) = true) → smallA (xs.map f) = true
  | [], _ => rfl
  | x :: xs, h => by simp only [List.map_cons, smallA, h x List.mem_cons_self, smallA_map (fun y hy => h y (List.mem_cons_of_mem _ hy)), Bool.and_self]
theorem nodesA_map {α : Type} {f : α → D} {k : Nat} : ∀ {xs : List α}, (∀ x ∈ xs, nodes (f x) ≤ k) → nodesA (xs.map f) ≤ k * xs.length
  | [], _ => Nat.zero_le _
  | x :: xs, h => by
    have h1 := h x List.mem_cons_self
    have h2 := nodesA_map (xs := xs) fun y hy => h y (List.mem_cons_of_mem _ hy)
    simp only [List.map_cons, nodesA, List.length_cons, Nat.mul_add, Nat.mul_one]
    omega
theorem depthAll_map {α : Type} {f : α → D} {k : Nat} : ∀ {xs : List α}, (∀ x ∈ xs, (f x).depth ≤ k) → PyData.depthAll (xs.map f) ≤ k
  | [], _ => Nat.zero_le _
  | x :: xs, h => by
    have h1 := h x List.mem_cons_self
    have h2 := depthAll_map (xs := xs) fun y hy => h y (List.mem_cons_of_mem _ hy)
    simp only [List.map_cons, PyData.depthAll]
    omega
theorem iDs_small {ns : List Int} (h : ∀ x ∈ ns, x.natAbs < 2 ^ 200) : smallA (iDs ns) = true := smallA_map fun x hx => by simp only [smallD, decide_eq_true_eq]; exact h x hx
theorem iDs_nodes (ns : List Int) : nodesA (iDs ns) ≤ ns.length := by
  have h : nodesA (iDs ns) ≤ 1 * ns.length := nodesA_map fun x _ => by simp only [nodes]; omega
  omega
theorem iDs_depth (ns : List Int) : PyData.depthAll (iDs ns) = 0 := Nat.le_zero.mp (depthAll_map fun x _ => Nat.le_refl 0)
end QL

/-! LM: mathematics of layouts: sums, lines, layouts, least costs, the table. -/
namespace LM
open PySem
def sumsF (a : Int) : List Int → List Int
  | [] => [a]
  | w :: r => a :: sumsF (a + w + 1) r
theorem sumsF_len : ∀ (a : Int) (ws : List Int), (sumsF a ws).length = ws.length + 1
  | _, [] => rfl
  | a, w :: r => congrArg (· + 1) (sumsF_len (a + w + 1) r)
theorem sumsF_snoc : ∀ (a : Int) (ws : List Int) (w : Int), ∃ z, (sumsF a ws).getLast? = some z ∧ sumsF a (ws ++ [w]) = sumsF a ws ++ [z + w + 1]
  | a, [], w => ⟨a, rfl, rfl⟩
  | a, x :: r, w => by
    obtain ⟨z, h1, h2⟩ := sumsF_snoc (a + x + 1) r w
    refine ⟨z, ?_, ?_⟩
    · show (a :: sumsF (a + x + 1) r).getLast? = some z
      rw [List.getLast?_cons, h1]
      rfl
    · show a :: sumsF (a + x + 1) (r ++ [w]) = _
      rw [h2]
      rfl
theorem sumsF_get : ∀ (ws : List Int) (a : Int) (j : Nat), j ≤ ws.length → (sumsF a ws).getD j 0 = a + (ws.take j).sum + j
  | [], a, j, h => by
    have : j = 0 := Nat.le_zero.mp h
    subst this
    simp [sumsF]
  | w :: r, a, 0, _ => by simp [sumsF]
  | w :: r, a, j + 1, h => by
    have ih := sumsF_get r (a + w + 1) j (Nat.le_of_succ_le_succ h)
    show (sumsF (a + w + 1) r).getD j 0 = _
    rw [ih, List.take_succ_cons, List.sum_cons]
    omega
theorem atI_getD {xs : List Int} {i : Nat} (h : i < xs.length) : L2.atI xs (i : Int) = some (xs.getD i 0) := by
  refine L2.atI_nat ?_
  rw [List.getD_eq_getElem?_getD, List.getElem?_eq_getElem h]
  rfl
/-- words of a width -/
structure Wd (wd : Int) (ws : List Int) : Prop where
  w1 : 1 ≤ wd
  w2 : wd ≤ 1000000000
  len : ws.length ≤ 1000
  wrd : ∀ x ∈ ws, 1 ≤ x ∧ x ≤ wd
def sm (ws : List Int) (j : Nat) : Int := (sumsF 0 ws).getD j 0
/-- the length of a line -/
def ln (ws : List Int) (i j : Nat) : Int := sm ws j - sm ws i - 1
def sq (wd : Int) (ws : List Int) (i j : Nat) : Int := (wd - ln ws i j) ^ 2
theorem sm_at (ws : List Int) {j : Nat} (h : j ≤ ws.length) : L2.atI (sumsF 0 ws) (j : Int) = some (sm ws j) := atI_getD (by rw [sumsF_len]; omega)
theorem sm_eq (ws : List Int) {j : Nat} (h : j ≤ ws.length) : sm ws j = (ws.take j).sum + j := by
  unfold sm; rw [sumsF_get ws 0 j h]; omega
theorem sm_succ (ws : List Int) {j : Nat} (h : j < ws.length) : sm ws (j + 1) = sm ws j + ws[j] + 1 := by
  rw [sm_eq ws (by omega), sm_eq ws (by omega), List.take_add_one, List.getElem?_eq_getElem h, List.sum_append]
  simp
  omega
section
variable {wd : Int} {ws : List Int} (W : Wd wd ws)
include W
theorem sm_step {j : Nat} (h : j < ws.length) : sm ws j + 2 ≤ sm ws (j + 1) ∧ sm ws (j + 1) ≤ sm ws j + wd + 1 := by
  have := W.wrd ws[j] (List.getElem_mem h)
  rw [sm_succ ws h]; omega
theorem sm_mono {i j : Nat} (hij : i ≤ j) (h : j ≤ ws.length) : sm ws i + 2 * ((j : Int) - i) ≤ sm ws j ∧ sm ws j ≤ sm ws i + (wd + 1) * ((j : Int) - i) := by
  induction j with
  | zero =>
    have : i = 0 := by omega
    subst this; simp
  | succ j ih =>
    by_cases e : i = j + 1
    · subst e; simp
    · have h1 := ih (by omega) (by omega)
      have h2 := sm_step W (j := j) (by omega)
      have e2 : (wd + 1) * (((j + 1 : Nat) : Int) - i) = (wd + 1) * ((j : Int) - i) + (wd + 1) := by
        have : (((j + 1 : Nat) : Int) - i) = ((j : Int) - i) + 1 := by omega
        rw [this, Int.mul_add]; omega
      rw [e2]
      omega
theorem sm_bd {j : Nat} (h : j ≤ ws.length) : 0 ≤ sm ws j ∧ sm ws j ≤ 1000000001000 := by
  have h1 := sm_mono W (Nat.zero_le j) h
  have h0 : sm ws 0 = 0 := by rw [sm_eq ws (Nat.zero_le _)]; simp
  have h2 := W.len
  have h3 : (wd + 1) * ((j : Int) - (0 : Nat)) ≤ 1000000001 * 1000 := Int.mul_le_mul (by have := W.w2; omega) (by omega) (by omega) (by decide)
  omega
theorem ln_bd {i j : Nat} (hi : i ≤ ws.length) (hj : j ≤ ws.length) : -1000000001001 ≤ ln ws i j ∧ ln ws i j ≤ 1000000001000 := by
  have h1 := sm_bd W hi
  have h2 := sm_bd W hj
  unfold ln; omega
theorem ln_anti {i i' j : Nat} (h : i ≤ i') (h2 : i' ≤ j) (hj : j ≤ ws.length) : ln ws i' j ≤ ln ws i j := by
  have := (sm_mono W h (by omega)).1
  unfold ln; omega
theorem ln_mono {i j j' : Nat} (h : j ≤ j') (hj : j' ≤ ws.length) : ln ws i j ≤ ln ws i j' := by
  have := (sm_mono W h hj).1
  unfold ln; omega
theorem ln_one {j : Nat} (h : j < ws.length) : ln ws j (j + 1) = ws[j] := by
  unfold ln; rw [sm_succ ws h]; omega
theorem ln_fit1 {j : Nat} (h : j < ws.length) : ln ws j (j + 1) ≤ wd := by
  rw [ln_one W h]; exact (W.wrd ws[j] (List.getElem_mem h)).2
theorem ln_pos {i j : Nat} (h : i < j) (hj : j ≤ ws.length) : 1 ≤ ln ws i j := by
  have := (sm_mono W (Nat.le_of_lt h) hj).1
  unfold ln; omega
theorem sq_bd {i j : Nat} (hi : i ≤ ws.length) (hj : j ≤ ws.length) : 0 ≤ sq wd ws i j ∧ sq wd ws i j ≤ 10000000000000000000000000 := by
  have h1 := ln_bd W hi hj
  have := W.w1; have := W.w2
  unfold sq
  generalize ln ws i j = x at h1
  have h2 : (wd - x).natAbs ≤ 2000000000000 := by omega
  generalize wd - x = y at h2
  have e : y ^ 2 = ((y.natAbs * y.natAbs : Nat) : Int) := by rw [Int.pow_succ, Int.pow_succ, Int.pow_zero, Int.one_mul, Int.natAbs_mul_self]
  rw [e]
  have := Nat.mul_le_mul h2 h2
  omega
end
/-! ### the places at which a line can begin -/
def bgF (wd : Int) (ws : List Int) (e : Nat) : Nat → List Nat
  | 0 => []
  | b + 1 => if ln ws b e ≤ wd then b :: bgF wd ws e b else []
/-- the latest one first -/
def bg (wd : Int) (ws : List Int) (e : Nat) : List Nat := bgF wd ws e e
theorem bgF_mem {wd : Int} {ws : List Int} (W : Wd wd ws) {e : Nat} (he : e ≤ ws.length) : ∀ {m b : Nat}, m ≤ e → (b ∈ bgF wd ws e m ↔ b < m ∧ ln ws b e ≤ wd)
  | 0, b, _ => by simp [bgF]
  | m + 1, b, hm => by
    unfold bgF
    by_cases h : ln ws m e ≤ wd
    · rw [if_pos h, List.mem_cons, bgF_mem W he (by omega : m ≤ e)]
      constructor
      · rintro (rfl | ⟨h1, h2⟩)
        · exact ⟨by omega, h⟩
        · exact ⟨by omega, h2⟩
      · rintro ⟨h1, h2⟩
        by_cases e1 : b = m
        · exact .inl e1
        · exact .inr ⟨by omega, h2⟩
    · rw [if_neg h]
      constructor
      · intro z; cases z
      · rintro ⟨h1, h2⟩
        have := ln_anti W (i := b) (i' := m) (j := e) (by omega) (by omega) he
        omega
theorem bg_mem {wd : Int} {ws : List Int} (W : Wd wd ws) {e b : Nat} (he : e ≤ ws.length) : b ∈ bg wd ws e ↔ b < e ∧ ln ws b e ≤ wd := bgF_mem W he (Nat.le_refl e)
theorem bg_ne {wd : Int} {ws : List Int} (W : Wd wd ws) {e : Nat} (h0 : 0 < e) (he : e ≤ ws.length) : bg wd ws e ≠ [] := by
  obtain ⟨e, rfl⟩ : ∃ e', e = e' + 1 := ⟨e - 1, by omega⟩
  have : e ∈ bg wd ws (e + 1) := (bg_mem W he).mpr ⟨by omega, ln_fit1 W (by omega)⟩
  exact List.ne_nil_of_mem this
theorem bg_len {wd : Int} {ws : List Int} {e : Nat} : (bg wd ws e).length ≤ e := by
  have key : ∀ m, (bgF wd ws e m).length ≤ m := fun m => by
    induction m with
    | zero => exact Nat.le_refl _
    | succ m ih => unfold bgF; split <;> simp <;> omega
  exact key e
/-! ### the least of pairs -/
def minP (a : Int × Int) (xs : List (Int × Int)) : Int × Int := xs.foldl (fun a y => if y.1 < a.1 ∨ (y.1 = a.1 ∧ y.2 < a.2) then y else a) a
def pD (p : Int × Int) : PyData := .tuple [.int p.1, .int p.2]
theorem minD_pairs (xs : List (Int × Int)) : ∀ a, W.minD (pD a) (xs.map pD) = pD (minP a xs) := by
  unfold W.minD minP
  induction xs with
  | nil => intro a; rfl
  | cons x xs ih =>
    intro a
    rw [List.map_cons, List.foldl_cons, List.foldl_cons]
    have e : W.dataLt (pD x) (pD a) = decide (x.1 < a.1 ∨ (x.1 = a.1 ∧ x.2 < a.2)) := W.dataLt_ii _ _ _ _
    rw [e]
    by_cases h : x.1 < a.1 ∨ (x.1 = a.1 ∧ x.2 < a.2)
    · rw [if_pos (decide_eq_true h), if_pos h]; exact ih x
    · rw [if_neg (by simpa using h), if_neg h]; exact ih a
theorem minP_spec (xs : List (Int × Int)) : ∀ a, minP a xs ∈ a :: xs ∧ ∀ y ∈ a :: xs, (minP a xs).1 < y.1 ∨ ((minP a xs).1 = y.1 ∧ (minP a xs).2 ≤ y.2) := by
  induction xs with
  | nil => intro a; exact ⟨List.mem_cons_self, fun y hy => by rw [List.mem_singleton.mp hy]; exact .inr ⟨rfl, Int.le_refl _⟩⟩
  | cons x xs ih =>
    intro a
    have e : minP a (x :: xs) = minP (if x.1 < a.1 ∨ (x.1 = a.1 ∧ x.2 < a.2) then x else a) xs := rfl
    rw [e]
    by_cases h : x.1 < a.1 ∨ (x.1 = a.1 ∧ x.2 < a.2)
    · rw [if_pos h]
      obtain ⟨h1, h2⟩ := ih x
      refine ⟨List.mem_cons_of_mem _ h1, fun y hy => ?_⟩
      rcases List.mem_cons.mp hy with rfl | hy
      · have := h2 x List.mem_cons_self
        omega
      · exact h2 y hy
    · rw [if_neg h]
      obtain ⟨h1, h2⟩ := ih a
      refine ⟨?_, fun y hy => ?_⟩
      · rcases List.mem_cons.mp h1 with e | e
        · rw [e]; exact List.mem_cons_self
        · exact List.mem_cons_of_mem _ (List.mem_cons_of_mem _ e)
      · rcases List.mem_cons.mp hy with rfl | hy
        · exact h2 y List.mem_cons_self
        · rcases List.mem_cons.mp hy with rfl | hy
          · have := h2 a List.mem_cons_self
            omega
          · exact h2 y (List.mem_cons_of_mem _ hy)
def minL : List (Int × Int) → Int × Int
  | [] => (0, 0)
  | a :: xs => minP a xs
/-- the least, of equal ones the latest place: costs f at the places bs -/
def best (f : Nat → Int) (bs : List Nat) : Int × Int := minL (bs.map fun b => (f b, -(b : Int)))
theorem best_spec (f : Nat → Int) {bs : List Nat} (h : bs ≠ []) : ∃ b ∈ bs, best f bs = (f b, -(b : Int)) ∧ ∀ c ∈ bs, f b < f c ∨ (f b = f c ∧ c ≤ b) := by
  cases bs with
  | nil => exact absurd rfl h
  | cons a bs =>
    obtain ⟨h1, h2⟩ := minP_spec (bs.map fun b => (f b, -(b : Int))) (f a, -(a : Int))
    have e : best f (a :: bs) = minP (f a, -(a : Int)) (bs.map fun b => (f b, -(b : Int))) := rfl
    rw [← e] at h1 h2
    have m : best f (a :: bs) ∈ (a :: bs).map fun b => (f b, -(b : Int)) := h1
    obtain ⟨b, hb, eb⟩ := List.mem_map.mp m
    refine ⟨b, hb, eb.symm, fun c hc => ?_⟩
    have := h2 (f c, -(c : Int)) (by have : (f c, -(c : Int)) ∈ (a :: bs).map fun b => (f b, -(b : Int)) := List.mem_map.mpr ⟨c, hc, rfl⟩; exact this)
    rw [← eb] at this
    simp only at this
    omega
/-! ### the table -/
/-- costs and befores of the ends up to n -/
def tab (wd : Int) (ws : List Int) : Nat → List (Int × Nat)
  | 0 => [(0, 0)]
  | n + 1 =>
    let t := tab wd ws n
    let p := best (fun b => (t.getD b (0, 0)).1 + sq wd ws b (n + 1)) (bg wd ws (n + 1))
    t ++ [(p.1, (-p.2).toNat)]
theorem tab_len (wd : Int) (ws : List Int) : ∀ n, (tab wd ws n).length = n + 1
  | 0 => rfl
  | n + 1 => by unfold tab; simp [tab_len wd ws n]
theorem tab_pre (wd : Int) (ws : List Int) {m n : Nat} (h : m ≤ n) : (tab wd ws n).take (m + 1) = tab wd ws m := by
  induction n with
  | zero =>
    have : m = 0 := by omega
    subst this; rfl
  | succ n ih =>
    by_cases e : m = n + 1
    · subst e
      rw [List.take_of_length_le]; rw [tab_len]; omega
    · show List.take (m + 1) (tab wd ws n ++ _) = _
      rw [List.take_append_of_le_length (by rw [tab_len]; omega)]
      exact ih (by omega)
/-- the least full cost up to an end; where its last line begins -/
def C (wd : Int) (ws : List Int) (e : Nat) : Int := ((tab wd ws e).getD e (0, 0)).1
def B (wd : Int) (ws : List Int) (e : Nat) : Nat := ((tab wd ws e).getD e (0, 0)).2
theorem tab_get {wd : Int} {ws : List Int} {m n : Nat} (h : m ≤ n) : (tab wd ws n).getD m (0, 0) = (C wd ws m, B wd ws m) := by
  have e := tab_pre wd ws h
  have : (tab wd ws n).getD m (0, 0) = (tab wd ws m).getD m (0, 0) := by
    rw [← e, List.getD_eq_getElem?_getD, List.getD_eq_getElem?_getD, List.getElem?_take]
    simp
  rw [this]
  rfl
theorem tab_eq (wd : Int) (ws : List Int) (n : Nat) : tab wd ws n = (List.range (n + 1)).map fun e => (C wd ws e, B wd ws e) := by
  apply List.ext_getElem?
  intro i
  by_cases h : i < n + 1
  · have := tab_get (wd := wd) (ws := ws) (m := i) (n := n) (by omega)
    rw [List.getD_eq_getElem?_getD] at this
    rw [List.getElem?_map, List.getElem?_range h]
    have l : i < (tab wd ws n).length := by rw [tab_len]; exact h
    rw [List.getElem?_eq_getElem l] at this ⊢
    simp at this
    simp [this]
  · rw [List.getElem?_eq_none (by rw [tab_len]; omega), List.getElem?_eq_none (by simp; omega)]
theorem C0 (wd : Int) (ws : List Int) : C wd ws 0 = 0 := rfl
theorem B0 (wd : Int) (ws : List Int) : B wd ws 0 = 0 := rfl
theorem CB_succ (wd : Int) (ws : List Int) (n : Nat) : best (fun b => C wd ws b + sq wd ws b (n + 1)) (bg wd ws (n + 1)) = best (fun b => ((tab wd ws n).getD b (0, 0)).1 + sq wd ws b (n + 1)) (bg wd ws (n + 1)) := by
  unfold best
  congr 1
  apply List.map_congr_left
  intro b hb
  have : b ≤ n := by
    have key : ∀ m, m ≤ n + 1 → b ∈ bgF wd ws (n + 1) m → b < m := fun m => by
      induction m with
      | zero => intro _ z; cases z
      | succ m ih =>
        intro hm z
        unfold bgF at z
        split at z
        · rcases List.mem_cons.mp z with rfl | z
          · omega
          · have := ih (by omega) z; omega
        · cases z
    have := key (n + 1) (Nat.le_refl _) hb
    omega
  show (C wd ws b + sq wd ws b (n + 1), -(b : Int)) = (((tab wd ws n).getD b (0, 0)).1 + sq wd ws b (n + 1), -(b : Int))
  rw [tab_get this]
theorem CB_at {wd : Int} {ws : List Int} (W : Wd wd ws) {e : Nat} (h0 : 0 < e) (he : e ≤ ws.length) : B wd ws e < e ∧ ln ws (B wd ws e) e ≤ wd ∧ C wd ws e = C wd ws (B wd ws e) + sq wd ws (B wd ws e) e ∧
    best (fun b => C wd ws b + sq wd ws b e) (bg wd ws e) = (C wd ws e, -(B wd ws e : Int)) ∧ ∀ b, b < e → ln ws b e ≤ wd → C wd ws e < C wd ws b + sq wd ws b e ∨ (C wd ws e = C wd ws b + sq wd ws b e ∧ b ≤ B wd ws e) := by
  obtain ⟨n, rfl⟩ : ∃ n, e = n + 1 := ⟨e - 1, by omega⟩
  obtain ⟨b, hb, eb, hm⟩ := best_spec (fun b => C wd ws b + sq wd ws b (n + 1)) (bg_ne W h0 he)
  have eg : (tab wd ws (n + 1)).getD (n + 1) (0, 0) = ((C wd ws b + sq wd ws b (n + 1)), b) := by
    show (tab wd ws n ++ [((best (fun b => ((tab wd ws n).getD b (0, 0)).1 + sq wd ws b (n + 1)) (bg wd ws (n + 1))).1, (-(best (fun b => ((tab wd ws n).getD b (0, 0)).1 + sq wd ws b (n + 1)) (bg wd ws (n + 1))).2).toNat)]).getD (n + 1) (0, 0) = _
    rw [← CB_succ, eb]
    simp only
    rw [List.getD_eq_getElem?_getD, List.getElem?_append_right (by rw [tab_len]; omega), tab_len]
    simp
  have eC : C wd ws (n + 1) = C wd ws b + sq wd ws b (n + 1) := by unfold C; rw [eg]; rfl
  have eB : B wd ws (n + 1) = b := by unfold B; rw [eg]
  have hb2 := (bg_mem W he).mp hb
  rw [eB, eC]
  refine ⟨hb2.1, hb2.2, rfl, eb, fun c hc hl => ?_⟩
  exact hm c ((bg_mem W he).mpr ⟨hc, hl⟩)
theorem C_bd {wd : Int} {ws : List Int} (W : Wd wd ws) : ∀ e, e ≤ ws.length → 0 ≤ C wd ws e ∧ C wd ws e ≤ 10000000000000000000000000 * e := by
  intro e
  induction e using Nat.strongRecOn with
  | _ e ih =>
    intro he
    by_cases h0 : e = 0
    · subst h0; rw [C0]; simp
    · obtain ⟨h1, h2, h3, _, _⟩ := CB_at W (by omega : 0 < e) he
      have i := ih _ h1 (by omega)
      have s := sq_bd W (i := B wd ws e) (j := e) (by omega) he
      rw [h3]
      omega
/-! ### ways -/
def wayN (B : Nat → Nat) : Nat → Nat → List Nat
  | 0, _ => []
  | k + 1, e => if e = 0 then [] else wayN B k (B e) ++ [e]
/-- the ends up to a place -/
def way (wd : Int) (ws : List Int) (e : Nat) : List Nat := wayN (B wd ws) e e
theorem wayN_one {f : Nat → Nat} {n : Nat} (hf : ∀ e, 0 < e → e ≤ n → f e < e) : ∀ k e, e ≤ k → e ≤ n → wayN f (k + 1) e = wayN f k e
  | 0, e, he, _ => by
    have : e = 0 := by omega
    subst this; rfl
  | k + 1, e, he, hn => by
    by_cases h0 : e = 0
    · subst h0; rfl
    · have := hf e (by omega) hn
      show (if e = 0 then [] else wayN f (k + 1) (f e) ++ [e]) = (if e = 0 then [] else wayN f k (f e) ++ [e])
      rw [if_neg h0, if_neg h0, wayN_one hf k (f e) (by omega) (by omega)]
theorem wayN_more {f : Nat → Nat} {n : Nat} (hf : ∀ e, 0 < e → e ≤ n → f e < e) (d e : Nat) (hn : e ≤ n) : wayN f (e + d) e = wayN f e e := by
  induction d with
  | zero => rfl
  | succ d ih =>
    have := wayN_one hf (e + d) e (by omega) hn
    rw [← ih, ← this]
    rfl
theorem way0 (wd : Int) (ws : List Int) : way wd ws 0 = [] := rfl
theorem way_step {wd : Int} {ws : List Int} (W : Wd wd ws) {e : Nat} (h0 : 0 < e) (he : e ≤ ws.length) : way wd ws e = way wd ws (B wd ws e) ++ [e] := by
  obtain ⟨m, rfl⟩ : ∃ m, e = m + 1 := ⟨e - 1, by omega⟩
  have hf : ∀ e, 0 < e → e ≤ ws.length → B wd ws e < e := fun e h1 h2 => (CB_at W h1 h2).1
  have := hf (m + 1) h0 he
  show (if m + 1 = 0 then [] else wayN (B wd ws) m (B wd ws (m + 1)) ++ [m + 1]) = _
  rw [if_neg (by omega)]
  show _ = wayN (B wd ws) (B wd ws (m + 1)) (B wd ws (m + 1)) ++ [m + 1]
  have e1 := wayN_more hf (m - B wd ws (m + 1)) (B wd ws (m + 1)) (by omega)
  have e2 : B wd ws (m + 1) + (m - B wd ws (m + 1)) = m := by omega
  rw [e2] at e1
  rw [e1]
end LM

/-! LN: layouts and which are best. -/
namespace LM
open PySem
def prsN (ns : List Nat) : List (Nat × Nat) := (0 :: ns.dropLast).zip ns
theorem prsN_snoc (ns : List Nat) (h : Nat) : prsN (ns ++ [h]) = prsN ns ++ [(ns.getLastD 0, h)] := by
  unfold prsN
  rw [List.dropLast_concat]
  rcases List.eq_nil_or_concat ns with e | ⟨ms, l, e⟩
  · subst e; rfl
  · rw [List.concat_eq_append] at e
    subst e
    rw [List.dropLast_concat]
    have e1 : (0 :: (ms ++ [l])) = (0 :: ms) ++ [l] := rfl
    rw [e1, List.zip_append (by simp)]
    simp
def sqsN (wd : Int) (ws : List Int) (ns : List Nat) : List Int := (prsN ns).map fun p => sq wd ws p.1 p.2
theorem sqsN_snoc (wd : Int) (ws : List Int) (ns : List Nat) (h : Nat) : sqsN wd ws (ns ++ [h]) = sqsN wd ws ns ++ [sq wd ws (ns.getLastD 0) h] := by
  unfold sqsN; rw [prsN_snoc, List.map_append]; rfl
def fc (wd : Int) (ws : List Int) (ns : List Nat) : Int := (sqsN wd ws ns).sum
def cost (wd : Int) (ws : List Int) (ns : List Nat) : Int := (sqsN wd ws ns).dropLast.sum
theorem fc_nil (wd : Int) (ws : List Int) : fc wd ws [] = 0 := rfl
theorem fc_snoc (wd : Int) (ws : List Int) (ns : List Nat) (h : Nat) : fc wd ws (ns ++ [h]) = fc wd ws ns + sq wd ws (ns.getLastD 0) h := by
  unfold fc; rw [sqsN_snoc, List.sum_append]; simp
theorem cost_snoc (wd : Int) (ws : List Int) (ns : List Nat) (h : Nat) : cost wd ws (ns ++ [h]) = fc wd ws ns := by
  unfold cost fc; rw [sqsN_snoc, List.dropLast_concat]
theorem cost_nil (wd : Int) (ws : List Int) : cost wd ws [] = 0 := rfl
/-- the layouts of the first words; their ends -/
inductive Lay (wd : Int) (ws : List Int) : List Nat → Nat → Prop
  | nil : Lay wd ws [] 0
  | snoc {ns : List Nat} {l h : Nat} : Lay wd ws ns l → l < h → ln ws l h ≤ wd → Lay wd ws (ns ++ [h]) h
theorem Lay.last {wd : Int} {ws : List Int} {ns : List Nat} {l : Nat} (c : Lay wd ws ns l) : ns.getLastD 0 = l := by
  cases c with
  | nil => rfl
  | snoc _ _ _ => simp
theorem Lay.inv {wd : Int} {ws : List Int} {ns : List Nat} {h e : Nat} (c : Lay wd ws (ns ++ [h]) e) : e = h ∧ ∃ l, Lay wd ws ns l ∧ l < h ∧ ln ws l h ≤ wd := by
  generalize hm : ns ++ [h] = ms at c
  cases c with
  | nil => simp at hm
  | snoc c1 h1 h2 =>
    obtain ⟨e1, e2⟩ := List.append_inj' hm rfl
    cases e2
    subst e1
    exact ⟨rfl, _, c1, h1, h2⟩
theorem Lay.ne {wd : Int} {ws : List Int} {ns : List Nat} {e : Nat} (c : Lay wd ws ns e) (h : 0 < e) : ∃ ms l, ns = ms ++ [e] ∧ Lay wd ws ms l ∧ l < e ∧ ln ws l e ≤ wd := by
  cases c with
  | nil => exact absurd h (Nat.lt_irrefl 0)
  | snoc c1 h1 h2 => exact ⟨_, _, rfl, c1, h1, h2⟩
theorem Lay.zero {wd : Int} {ws : List Int} {ns : List Nat} (c : Lay wd ws ns 0) : ns = [] := by
  cases c with
  | nil => rfl
  | snoc c1 h1 h2 => exact absurd h1 (Nat.not_lt_zero _)
theorem Lay.len {wd : Int} {ws : List Int} {ns : List Nat} {l : Nat} (c : Lay wd ws ns l) : ns.length ≤ l := by
  induction c with
  | nil => exact Nat.le_refl _
  | snoc _ h _ ih => rw [List.length_append, List.length_singleton]; omega
theorem Lay.mem {wd : Int} {ws : List Int} {ns : List Nat} {l : Nat} (c : Lay wd ws ns l) : ∀ x ∈ ns, 1 ≤ x ∧ x ≤ l := by
  induction c with
  | nil => intro x hx; cases hx
  | snoc _ h _ ih =>
    intro x hx
    rcases List.mem_append.mp hx with z | z
    · have := ih x z; omega
    · rw [List.mem_singleton.mp z]; omega
theorem Lay.prs {wd : Int} {ws : List Int} {ns : List Nat} {l : Nat} (c : Lay wd ws ns l) : ∀ p ∈ prsN ns, p.1 < p.2 ∧ p.2 ≤ l ∧ ln ws p.1 p.2 ≤ wd := by
  induction c with
  | nil => intro p hp; cases hp
  | @snoc ns l h c hl hf ih =>
    intro p hp
    rw [prsN_snoc] at hp
    rcases List.mem_append.mp hp with z | z
    · have := ih p z; omega
    · rw [List.mem_singleton.mp z, c.last]; exact ⟨hl, Nat.le_refl _, hf⟩
/-- later: the reversed ends as a tuple -/
def rv (ns : List Nat) : List Int := ns.reverse.map fun (n : Nat) => (n : Int)
theorem rv_snoc (ns : List Nat) (h : Nat) : rv (ns ++ [h]) = (h : Int) :: rv ns := by unfold rv; simp
theorem rv_inj {ns ms : List Nat} (h : rv ns = rv ms) : ns = ms := by
  unfold rv at h
  have := List.map_inj_right (f := fun (n : Nat) => (n : Int)) (fun a b e => by exact Int.ofNat.inj e) |>.mp h
  exact List.reverse_inj.mp this
section
variable {wd : Int} {ws : List Int} (W : Wd wd ws)
include W
theorem way_lay : ∀ e, e ≤ ws.length → Lay wd ws (way wd ws e) e ∧ fc wd ws (way wd ws e) = C wd ws e := by
  intro e
  induction e using Nat.strongRecOn with
  | _ e ih =>
    intro he
    by_cases h0 : e = 0
    · subst h0; exact ⟨.nil, rfl⟩
    · obtain ⟨h1, h2, h3, _, _⟩ := CB_at W (by omega : 0 < e) he
      obtain ⟨i1, i2⟩ := ih _ h1 (by omega)
      rw [way_step W (by omega) he]
      exact ⟨.snoc i1 h1 h2, by rw [fc_snoc, i1.last, i2, h3]⟩
theorem opt_full {ns : List Nat} {e : Nat} (c : Lay wd ws ns e) : e ≤ ws.length → C wd ws e ≤ fc wd ws ns ∧ (fc wd ws ns = C wd ws e → rv ns ≤ rv (way wd ws e)) := by
  induction c with
  | nil => intro _; exact ⟨Int.le_refl _, fun _ => List.le_refl _⟩
  | @snoc ns l h c hl hf ih =>
    intro he
    obtain ⟨i1, i2⟩ := ih (by omega)
    obtain ⟨h1, h2, h3, _, h5⟩ := CB_at W (by omega : 0 < h) he
    have q := h5 l hl hf
    rw [fc_snoc, c.last]
    refine ⟨by omega, fun e => ?_⟩
    rw [way_step W (by omega) he, rv_snoc, rv_snoc, List.cons_le_cons_iff]
    refine .inr ⟨rfl, ?_⟩
    have e1 : fc wd ws ns = C wd ws l := by omega
    have q2 : l ≤ B wd ws h := by omega
    by_cases e2 : l = B wd ws h
    · subst e2; exact i2 e1
    · have lb : l < B wd ws h := by omega
      rw [way_step W (e := B wd ws h) (by omega) (by omega), rv_snoc]
      by_cases l0 : l = 0
      · subst l0
        rw [c.zero]
        exact List.nil_le _
      · obtain ⟨ms, l', e3, _⟩ := c.ne (by omega)
        rw [e3, rv_snoc, List.cons_le_cons_iff]
        exact .inl (by omega)
end
/-! ### the best layout -/
def LS (wd : Int) (ws : List Int) : Nat := if ws.length = 0 then 0 else (-(best (C wd ws) (bg wd ws ws.length)).2).toNat
def bestLay (wd : Int) (ws : List Int) : List Nat := if ws.length = 0 then [] else way wd ws (LS wd ws) ++ [ws.length]
section
variable {wd : Int} {ws : List Int} (W : Wd wd ws)
include W
theorem LS_at (h0 : 0 < ws.length) : LS wd ws < ws.length ∧ ln ws (LS wd ws) ws.length ≤ wd ∧ best (C wd ws) (bg wd ws ws.length) = (C wd ws (LS wd ws), -(LS wd ws : Int)) ∧ ∀ b, b < ws.length → ln ws b ws.length ≤ wd → C wd ws (LS wd ws) < C wd ws b ∨ (C wd ws (LS wd ws) = C wd ws b ∧ b ≤ LS wd ws) := by
  obtain ⟨b, hb, eb, hm⟩ := best_spec (C wd ws) (bg_ne W h0 (Nat.le_refl _))
  have e : LS wd ws = b := by unfold LS; rw [if_neg (by omega), eb]; simp
  have hb2 := (bg_mem W (Nat.le_refl _)).mp hb
  rw [e]
  exact ⟨hb2.1, hb2.2, eb, fun c h1 h2 => hm c ((bg_mem W (Nat.le_refl _)).mpr ⟨h1, h2⟩)⟩
theorem LS_le : LS wd ws ≤ ws.length := by
  by_cases h : ws.length = 0
  · unfold LS; rw [if_pos h]; omega
  · have := (LS_at W (by omega)).1; omega
theorem best_lay : Lay wd ws (bestLay wd ws) ws.length ∧ cost wd ws (bestLay wd ws) = C wd ws (LS wd ws) := by
  by_cases h : ws.length = 0
  · unfold bestLay LS
    rw [if_pos h, if_pos h, h]
    exact ⟨.nil, rfl⟩
  · obtain ⟨h1, h2, h3, h4⟩ := LS_at W (by omega)
    obtain ⟨i1, i2⟩ := way_lay W (LS wd ws) (by omega)
    unfold bestLay
    rw [if_neg h]
    exact ⟨.snoc i1 h1 h2, by rw [cost_snoc, i2]⟩
theorem best_opt {ns : List Nat} (c : Lay wd ws ns ws.length) : cost wd ws (bestLay wd ws) ≤ cost wd ws ns ∧ (cost wd ws ns = cost wd ws (bestLay wd ws) → rv ns ≤ rv (bestLay wd ws)) := by
  rw [(best_lay W).2]
  by_cases h : ws.length = 0
  · rw [h] at c
    have e := c.zero
    subst e
    have e2 : LS wd ws = 0 := by unfold LS; rw [if_pos h]
    rw [e2]
    exact ⟨Int.le_refl _, fun _ => List.nil_le _⟩
  · obtain ⟨h1, h2, h3, h4⟩ := LS_at W (by omega)
    obtain ⟨ms, l, rfl, c1, hl, hf⟩ := c.ne (by omega)
    obtain ⟨i1, i2⟩ := opt_full W c1 (by omega)
    have q := h4 l hl hf
    rw [cost_snoc]
    refine ⟨by omega, fun e => ?_⟩
    unfold bestLay
    rw [if_neg h, rv_snoc, rv_snoc, List.cons_le_cons_iff]
    refine .inr ⟨rfl, ?_⟩
    have e1 : fc wd ws ms = C wd ws l := by omega
    by_cases e2 : l = LS wd ws
    · rw [← e2]; exact i2 e1
    · have lb : l < LS wd ws := by omega
      rw [way_step W (e := LS wd ws) (by omega) (by omega), rv_snoc]
      by_cases l0 : l = 0
      · subst l0
        rw [c1.zero]
        exact List.nil_le _
      · obtain ⟨ms', l', e3, _⟩ := c1.ne (by omega)
        rw [e3, rv_snoc, List.cons_le_cons_iff]
        exact .inl (by omega)
end
/-- the only one -/
theorem only_best {wd : Int} {ws : List Int} (W : Wd wd ws) {ns : List Nat} (c : Lay wd ws ns ws.length) (h1 : ∀ ms, Lay wd ws ms ws.length → cost wd ws ns ≤ cost wd ws ms) (h2 : ∀ ms, Lay wd ws ms ws.length → cost wd ws ms = cost wd ws ns → rv ms ≤ rv ns) : ns = bestLay wd ws := by
  have b := best_lay W
  have o := best_opt W c
  have e : cost wd ws ns = cost wd ws (bestLay wd ws) := Int.le_antisymm (h1 _ b.1) o.1
  exact rv_inj (List.le_antisymm (o.2 e) (h2 _ b.1 e.symm))
theorem only_full {wd : Int} {ws : List Int} (W : Wd wd ws) {ns : List Nat} (c : Lay wd ws ns ws.length) (h1 : ∀ ms, Lay wd ws ms ws.length → fc wd ws ns ≤ fc wd ws ms) (h2 : ∀ ms, Lay wd ws ms ws.length → fc wd ws ms = fc wd ws ns → rv ms ≤ rv ns) : ns = way wd ws ws.length := by
  have b := way_lay W ws.length (Nat.le_refl _)
  have o := opt_full W c (Nat.le_refl _)
  have e : fc wd ws ns = fc wd ws (way wd ws ws.length) := Int.le_antisymm (h1 _ b.1) (by rw [b.2]; exact o.1)
  exact rv_inj (List.le_antisymm (o.2 (by rw [e, b.2])) (h2 _ b.1 e.symm))
abbrev nDs (ns : List Nat) : List PyData := ns.map fun (n : Nat) => PyData.int (n : Int)
end LM

/-! QP: t[::-1]; a list of one thing sorted; comprehensions with an if. -/
namespace PySem.HTR
open PySem PySem.Spec PyProof.Rows HT PySem.SeqAt PySem.MeetsSeq PySem.MeetsSeq2 PySem.MeetsSeq3
open PySem.AutoSeq1 (wpAny_loadPart')
section
variable {prog : Program} {w : World} {A : Around} {s : Shared} {E : Value → Shared → Prop}
theorem adjust_rev (n : Nat) : Builtin.Slice.sliceAdjust none none (-1) (n : Int) = ((n : Int) - 1, -1) := by
  unfold Builtin.Slice.sliceAdjust
  simp
theorem places_rev (n : Nat) : Builtin.Slice.slicePlaces ((n : Int) - 1) (-1) (-1) = n := by
  unfold Builtin.Slice.slicePlaces
  simp
  omega
theorem sliceApplied_rev {sl : Addr} {vl vu vs : Value} {n : Nat} {Q : Int × Int × Nat → Shared → Prop} (hs : s.heap.IsSliceOf sl vl vu vs) (pl : IsPart vl none) (pu : IsPart vu none) (ps : IsPart vs (some (-1)))
    (h : Q ((n : Int) - 1, -1, n) s) : wpAny (model prog w) A (Builtin.Slice.sliceApplied (.ref sl) (pure (n : Int))) Q E s := by
  obtain ⟨os, hos, hcs, hds⟩ := id hs
  unfold Builtin.Slice.sliceApplied Builtin.Slice.sliceFields
  refine wpAny_bind (wpAny_bind (wpAny_field hos hds (x := vl) rfl (wpAny_bind (wpAny_field hos hds (x := vu) rfl (wpAny_bind (wpAny_field hos hds (x := vs) rfl (wpAny_pure ?_)))))))
  refine wpAny_bind (slicePart_ ps ?_)
  show wpAny _ _ (if ((-1 : Int) == 0) = true then _ else _) _ _ s
  rw [if_neg (by decide)]
  refine wpAny_bind (slicePart_ pl (wpAny_bind (slicePart_ pu (wpAny_bind (wpAny_pure ?_)))))
  show wpAny _ _ (match Builtin.Slice.sliceAdjust none none (-1) (n : Int) with | (lo, hi) => pure (lo, (-1 : Int), Builtin.Slice.slicePlaces lo hi (-1))) _ _ s
  rw [adjust_rev]
  show wpAny _ _ (pure ((n : Int) - 1, (-1 : Int), Builtin.Slice.slicePlaces ((n : Int) - 1) (-1) (-1))) _ _ s
  rw [places_rev]
  exact wpAny_pure h
theorem pick_rev (xs : Array Value) : ((List.range xs.size).filterMap fun (m : Nat) => xs[(((xs.size : Int) - 1) + (m : Int) * (-1)).toNat]?).toArray = xs.toList.reverse.toArray := by
  have e : (List.range xs.size).filterMap (fun (m : Nat) => xs[(((xs.size : Int) - 1) + (m : Int) * (-1)).toNat]?) = ((List.range xs.size).map fun k => xs.size - 1 - k).filterMap (xs[·]?) := by
    rw [List.filterMap_map]
    congr 1
    funext m
    have : (((xs.size : Int) - 1) + (m : Int) * (-1)).toNat = xs.size - 1 - m := by omega
    rw [this]
    rfl
  rw [e, PySem.W.krv_range, List.filterMap_reverse, PySem.W.krv_all]
theorem getItem_tuple_rev {t sl : Addr} {items : Array Value} {vl vu vs : Value} {Q : Value → Shared → Prop} (ht : IsTup s.heap t items) (hs : s.heap.IsSliceOf sl vl vu vs) (pl : IsPart vl none) (pu : IsPart vu none) (ps : IsPart vs (some (-1)))
    (h : Q (.ref s.heap.objs.size) { s with heap := s.heap.push { cls := .type "tuple", data := .seq items.toList.reverse.toArray } }) (hsz : items.size ≤ sizeLine) : wpAny (model prog w) A (getItem (.ref t) (.ref sl)) Q E s := by
  have htake : sizeOk (.seq items.toList.reverse.toArray) := by
    show items.toList.reverse.toArray.size ≤ sizeLine
    simpa using hsz
  obtain ⟨os, hos, hcs, hds⟩ := id hs
  have hTs : s.TypeIs (.ref sl) "slice" := ⟨os, hos, hcs⟩
  unfold getItem
  try with_reducible refine wpAny_holding ?_
  first | refine wpAny_bind (wpAny_pure ?_) | skip
  refine wpAny_bind (wpAny_sequenceKey ht.typeIs (by decide) ?_)
  refine wpAny_bind (wpAny_callSpecial?_slot (name := Str.ofString "__getitem__") ht.typeIs PyProof.Rows.slot_tuple_getitem
    (wpAny_call_entry PyProof.Rows.slot_tuple_getitem ht.typeIs entry_tuple_getitem ?_ (args_tuple_getitem _ _)))
  show wpAny _ _ (Builtin.Tuple.tupleItemsOf (.ref t) >>= _) _ _ s
  refine wpAny_bind (tupleItemsOf_ ht ?_)
  refine wpAny_bind (wpAny_typeOf hTs ?_)
  rw [if_pos (by decide)]
  refine wpAny_bind (sliceApplied_rev hs pl pu ps ?_)
  have hno : ¬ ((((items.size : Int) - 1) == 0 && (-1 : Int) == 1 && items.size == items.size) = true) := by simp
  show wpAny _ _ (if ((((items.size : Int) - 1) == 0 && (-1 : Int) == 1 && items.size == items.size) = true) then _ else _) _ _ s
  rw [if_neg hno, pick_rev]
  first
    | exact wpAny_bind (m := Builtin.Tuple.tupleExact _) (wpAny_newObj_type (wpAny_pure ⟨_, rfl, wpAny_pure h⟩) htake)
    | exact wpAny_bind (m := Builtin.Tuple.tupleExact _) (wpAny_newObj_type (wpAny_bind (wpAny_pure (wpAny_pure ⟨_, rfl, wpAny_pure h⟩))) htake)
end
end PySem.HTR
namespace QL
open PySem PySem.Spec PyProof.Rows L2
section
variable {Tq : List (Addr × Str)} {Z : Zb Tq} {X : Cx} {e a b c o tg iter elt : Expr} {es : List Expr} {env : Env} {pos p1 p2 p3 : Pos} {P : R → Env → Prop} {k : Nat}
/-- t[::-1], t a tuple or a list -/
def tRevA (K : PySem.W.Frag) (te : TE) : TE := fun σ H Q => te σ H fun x H1 => ∃ a xs, x = .ref a ∧ ((SqL K H1 a xs ∧ ∀ p, H1 p = none → Q (.ref p) (upd H1 p (.lst xs.reverse))) ∨ (SqT K H1 a xs ∧ ∀ p, H1 p = none → Q (.ref p) (upd H1 p (.tup xs.reverse))))
theorem pe_revA {te : TE} (he : PE X e te) : PE X (.Subscript e (.Slice none none (some (.UnaryOp .USub (.Constant (.int 1) k p1) p2)) p3) pos) (tRevA X.K te) := by
  refine ⟨fun pins s σ H Q I h => ?_⟩
  refine Subscript_ (thn (he.run pins s σ H _ I h) fun v s1 ⟨x, H1, I1, r1, q1⟩ => ?_)
  obtain ⟨a, xs, ex, q⟩ := q1
  subst ex
  cases r1
  have hst : L2.PO X (some (.UnaryOp .USub (.Constant (.int 1) k p1) p2)) (tPart (tUn (rU fun i => .int (-i)) (tC (.int 1)))) := po_some (pe_un un_neg pe_int)
  refine wpAny_Slice (thn (po_none.run pins s1 σ H1 (fun o H2 => o = none ∧ H2 = H1) I1 ⟨rfl, rfl⟩) fun vl s2 ⟨l, H2, I2, pl, el, e2⟩ => ?_)
  subst el e2
  refine thn (po_none.run pins s2 σ H2 (fun o H3 => o = none ∧ H3 = H2) I2 ⟨rfl, rfl⟩) fun vu s3 ⟨u, H3, I3, pu, eu, e3⟩ => ?_
  subst eu e3
  refine thn (hst.run pins s3 σ H3 (fun o H4 => o = some (-1) ∧ H4 = H3) I3 ⟨1, rfl, -1, rfl, rfl, rfl⟩) fun vs s4 ⟨o, H4, I4, ps, eo, e4⟩ => ?_
  subst eo e4
  have I5 : Inv X pins σ H4 { s4 with heap := s4.heap.push { cls := .type "slice", data := .fields #[vl, vu, vs] } } := I4.kept (t' := s4.toks) fun b ob q => Heap.get?_push_of_some _ q
  show wpAny (model X.prog X.w) X.A (subscriptTail e (.Slice none none (some (.UnaryOp .USub (.Constant (.int 1) k p1) p2)) p3) (.ref a) (.ref s4.heap.objs.size)) (EP X pins σ Q) X.xe { s4 with heap := s4.heap.push { cls := .type "slice", data := .fields #[vl, vu, vs] } }
  rcases q with ⟨hx, q⟩ | ⟨hx, q⟩
  · obtain ⟨its, r, ht, hz⟩ := I5.list hx
    have hlen := r.length
    refine tail_any (ops := [.ref a, .ref s4.heap.objs.size]) ht.isList.typeIs (PySem.slot_list_getitem.lookup) ?_ (by with_unfolding_all rfl)
    refine wpAny_getItem_list_slice ht.isList (Heap.IsSliceOf.new _ vl vu vs) pl pu ps (by decide) ?_ (by rw [List.size_toArray]; omega)
    rw [PySem.W.krv_pick]
    refine ⟨.ref _, _, I5.laid (t' := s4.toks) (o := .lst xs.reverse) (fun b ob q => Heap.get?_push_of_some _ q) (Nat.le_refl _) ?_, rfl, q _ (I5.hok.fresh (Nat.le_refl _))⟩
    exact ⟨by rw [List.length_reverse]; exact hz, _, 0, r.reverse, Heap.get?_push_size _ rfl⟩
  · obtain ⟨its, r, ht, hz⟩ := I5.tuple hx
    have hlen := r.length
    refine tail_any (ops := [.ref a, .ref s4.heap.objs.size]) ht.typeIs (PyProof.Rows.slot_tuple_getitem.lookup) ?_ (by with_unfolding_all rfl)
    refine PySem.HTR.getItem_tuple_rev ht (Heap.IsSliceOf.new _ vl vu vs) pl pu ps ?_ (by rw [List.size_toArray]; omega)
    refine ⟨.ref _, _, I5.laid (t' := s4.toks) (o := .tup xs.reverse) (fun b ob q => Heap.get?_push_of_some _ q) (Nat.le_refl _) ?_, rfl, q _ (I5.hok.fresh (Nat.le_refl _))⟩
    refine ⟨by rw [List.length_reverse]; exact hz, its.reverse, r.reverse, ?_⟩
    exact IsTup.new _ _
theorem WE.to {r0 : R} {e1 : Env} (h : WE Z X e env fun r e2 => r = r0 ∧ e2 = e1) (k : P r0 e1) : WE Z X e env P := WE.imp h fun _ _ ⟨a, b⟩ => by subst a b; exact k
theorem tLc_mono {σ : L2.St} {H : Hp} {g : TG} {tt : TT} {te : TE} {vs : List Nat} {Q Q' : VK} (hq : ∀ v H, Q v H → Q' v H) (h : tLc (tI Z X tg iter) g tt te vs σ H Q) : tLc (tI Z X tg iter) g tt te vs σ H Q' := by
  obtain ⟨env, F, O, P, b, o, w, k⟩ := h
  refine ⟨env, F, O, P, b, o, w, fun J H1 F1 O1 ds e1 b1 o1 fr gv p D hD => ?_⟩
  obtain ⟨W, h0, hs⟩ := k J H1 F1 O1 ds e1 b1 o1 fr gv p D hD
  exact ⟨W, h0, fun i m H hw => (hs i m H hw).imp (fun z => ⟨z.1, hq _ _ z.2⟩) id⟩
/-- y = [..], y a local name -/
theorem ws_setLc (i : Nat) {y : Str} {py pos' : Pos} {g : TG} {f : TF} {ix : List Nat} {scope : Scope} {own : List (Str × Nat)} {PO : Out → Prop} (hc : X.calm = true) (hN : X.N.Nodup) (ok : BlkOk X.N X.env.scope scope own) (hg : Blk X scope fun X' => PG X' tg g) (gk : GOk Z g f ix) (hix : ∀ i ∈ ix, i ∈ own.map (·.2))
    (h : WI Z X tg iter env (LcI Z X scope f elt (own.map (·.2)) (fun e k => k true e) fun r e1 => storeR r i e1 fun e2 => PO (.nx e2))) (hy : X.N[i]? = some y := by rfl) (hyl : X.env.scope.names.lookup y = some .local := by rfl)
    (hsw : swapsWith (.ListComp elt [⟨tg, iter, [], 0⟩] scope pos') (some (.Name y py)) pos.line X.env = pure true := by exact sw_true rfl rfl rfl (by decide +kernel)) (hs : ∀ x, foldedSetIterable iter X.env x = pure x := by intro _; rfl) :
    WS Z X (.Assign [.Name y py] (.ListComp elt [⟨tg, iter, [], 0⟩] scope pos') pos) env PO :=
  ws_of (ps_setLc hc hN hy hyl hsw (pi_I (Z := Z)) ok hg (fun _ _ _ _ _ => pts_nil) (pe_AB (Z := Z)) hs) fun σ H F O b o =>
    tLc_mono (fun v H1 ⟨F1, O1, r, e1, b1, st, fr, p⟩ => by
      obtain ⟨F2, O2, e2, b2, o2, fr2, q⟩ := storeR_ok b1 st p
      exact ⟨F2, O2, e2, b2, o2, fr.trans fr2, q⟩) (lc_read gk hix (fun σ H F O env k Q b o t q => q true H F O env b o (Frm.refl _ _ _) t) b o h)
theorem ws_setLcIf (i : Nat) {y : Str} {py pos' : Pos} {g : TG} {f : TF} {ix : List Nat} {scope : Scope} {own : List (Str × Nat)} {PO : Out → Prop} (hc : X.calm = true) (hN : X.N.Nodup) (ok : BlkOk X.N X.env.scope scope own) (hg : Blk X scope fun X' => PG X' tg g) (gk : GOk Z g f ix) (hix : ∀ i ∈ ix, i ∈ own.map (·.2))
    (h : WI Z X tg iter env (LcI Z X scope f elt (own.map (·.2)) (fun e k => Blk X scope fun X' => WT Z X' c e k) fun r e1 => storeR r i e1 fun e2 => PO (.nx e2))) (hy : X.N[i]? = some y := by rfl) (hyl : X.env.scope.names.lookup y = some .local := by rfl)
    (hsw : swapsWith (.ListComp elt [⟨tg, iter, [c], 0⟩] scope pos') (some (.Name y py)) pos.line X.env = pure true := by exact sw_true rfl rfl rfl (by decide +kernel)) (hs : ∀ x, foldedSetIterable iter X.env x = pure x := by intro _; rfl) :
    WS Z X (.Assign [.Name y py] (.ListComp elt [⟨tg, iter, [c], 0⟩] scope pos') pos) env PO :=
  ws_of (ps_setLc hc hN hy hyl hsw (pi_I (Z := Z)) ok hg (fun s H C cl fp => pts_one (pt_TB (Z := Z) s H C cl fp)) (pe_AB (Z := Z)) hs) fun σ H F O b o =>
    tLc_mono (fun v H1 ⟨F1, O1, r, e1, b1, st, fr, p⟩ => by
      obtain ⟨F2, O2, e2, b2, o2, fr2, q⟩ := storeR_ok b1 st p
      exact ⟨F2, O2, e2, b2, o2, fr.trans fr2, q⟩) (lc_read gk hix (fun σ H F O env k Q b o t q => ⟨env, F, O, k, b, o, t, fun v H' ⟨F1, O1, e1, b1, o1, fr1, p⟩ => q v H' F1 O1 e1 b1 o1 fr1 p⟩) b o h)
/-- a name's list, frozen from here on -/
def varF (env : Env) (i : Nat) (k : R → Env → Prop) : Prop := match env[i]? with
  | some (some (.lst a ds)) => k (.t (.va (.list ds))) (setP i [] (.va (.list ds)) env)
  | some (some (.dic a kvs)) => k (.t (.va (.dict (kvs.map fun p => (kD p.1, p.2))))) (setP i [] (.va (.dict (kvs.map fun p => (kD p.1, p.2)))) env)
  | _ => False
theorem w_varF (i : Nat) {x : Str} (h : varF env i P) (hN : X.N[i]? = some x := by rfl) (hv : Vis X.env.scope x := by first | exact Or.inl rfl | exact Or.inr (Or.inl rfl) | exact Or.inr (Or.inr rfl))
    (hd : (x == ("__debug__" : Str)) = false := by decide) (hcd : (x == ("__classdict__" : Str)) = false := by decide) : WE Z X (.Name x pos) env P := we_of (pe_var hN hv hd hcd) fun σ H F O b o => by
  unfold varF at h
  have fin : ∀ {a : Addr} {t : T} {d : D}, env[i]? = some (some t) → t.addr = some a → frzT t = some d → P (.t (.va d)) (setP i [] (.va d) env) → tVar i σ H (Post Z σ H F O P) := fun {a t d} hi ha hf q => by
    obtain ⟨w, hw, Oj, O', h1, h2, h3⟩ := o.focusI hi
    have hg : getP i [] env = some t := by unfold getP; rw [hi]; rfl
    obtain ⟨F', O1, ds, e1, b1, o1, r1, fr1, q1⟩ := absorb_ok (k := fun ds e => ∃ d, ds = [d] ∧ P (.t (.va d)) e) (.cons (a := .bor a i []) rfl .nil) b o (by
      unfold absorb; simp only [hg]; exact ⟨ha, by simp only [hf]; exact ⟨d, rfl, q⟩⟩)
    obtain ⟨d', ed, q1⟩ := q1
    subst ed
    cases r1 with
    | cons r1 _ =>
      have hw' := h1.ref ha
      subst hw'
      exact ⟨_, hw, F', O1, .t (.va d'), e1, b1, ⟨O1, [], (List.append_nil O1).symm, o1, .va r1⟩, fr1, q1⟩
  split at h
  · rename_i a ds hi; exact fin hi rfl rfl h
  · rename_i a ds hi; exact fin hi rfl rfl h
  · exact h.elim
def revG (d : D) (k : T → Prop) : Prop := match d with
  | .tuple xs => k (.va (.tuple xs.reverse))
  | .list xs => ∀ p, k (.lst p xs.reverse)
  | _ => False
theorem w_rev (h : WA Z X e env fun a1 e1 => View a1 e1 fun d => revG d fun t => P (.t t) e1) : WE Z X (.Subscript e (.Slice none none (some (.UnaryOp .USub (.Constant (.int 1) k p1) p2)) p3) pos) env P :=
  we_of (pe_revA (pe_A (Z := Z))) fun σ H F O b o => ⟨env, F, O, _, b, o, h, fun v H1 ⟨F1, O1, a1, e1, b1, o1, st, fr, q⟩ => by
    obtain ⟨d, w, q⟩ := View.vw q o1 st
    unfold revG at q
    split at q
    · obtain ⟨p, vs, rfl, h1, r1⟩ := w.tup
      exact ⟨p, vs, rfl, .inr ⟨SqT.of (b1.sub _ _ h1), fun p' hp' => ((NewV.tup b1.sub r1.rev hp' (k := fun t => t = .va (.tuple _)) rfl).post b1 o1 (fun t e => by subst e; exact q)).from fr⟩⟩
    · obtain ⟨p, vs, rfl, h1, r1⟩ := w.lst' b1.sub
      exact ⟨p, vs, rfl, .inl ⟨SqL.of h1, fun p' hp' => ((NewV.lst b1.sub r1.rev hp' (k := fun t => t = .lst p' _) rfl).post b1 o1 (fun t e => by subst e; exact q p')).from fr⟩⟩
    · exact q.elim⟩
/-- [elt for x in ds if c]: c of x is t x -/
theorem lc_filt {scope : Scope} {f : TF} (fm : FMo f) {vs : List Nat} {ds : List D} {e1 : Env} {α : Type} (enc : α → D) (xs : List α) (t : α → Bool) (g : α → D) (env0 : Env) (h0 : wipeE e1 vs = env0) (hd : ds = xs.map enc) (hl : xs.length < sizeLine)
    (step : ∀ (k : Nat) x, xs[k]? = some x → f (enc x) env0 fun e' => Blk X scope fun X' => WT Z X' c e' fun bb e2 => bb = t x ∧ (t x = true → Blk X scope fun X' => WA Z X' elt e2 fun a e3 => absorb [a] e3 fun ds e4 => ds = [g x] ∧ wipeE e4 vs = env0) ∧ (t x = false → wipeE e2 vs = env0))
    (fin : ∀ p, P (.t (.lst p ((xs.filter t).map g))) env0) : LcI Z X scope f elt vs (fun e k => Blk X scope fun X' => WT Z X' c e k) P ds e1 := by
  subst hd
  refine ⟨fun k acc e => e = env0 ∧ acc = ((xs.take k).filter t).map g, ⟨h0, rfl⟩, ?_, ?_⟩
  · rintro k d acc e hk ⟨rfl, rfl⟩
    rw [List.getElem?_map, Option.map_eq_some_iff] at hk
    obtain ⟨x, hx, rfl⟩ := hk
    have q := step k x hx
    have tk : xs.take (k + 1) = xs.take k ++ [x] := by rw [List.take_add_one, hx]; rfl
    refine fm.mo q fun e' w s H C cl fp => ?_
    refine WT.imp (w s H C cl fp) fun bb e2 ⟨hb, hT, hF⟩ => ?_
    subst hb
    refine ⟨fun ht s2 H2 C2 cl2 fp2 => ?_, fun hf => ⟨hF hf, ?_⟩⟩
    · refine WE.imp (hT ht s2 H2 C2 cl2 fp2) fun r e3 hr => ?_
      have ab : ∀ {a : A} {e3 : Env}, absorb [a] e3 (fun ds e4 => ds = [g x] ∧ wipeE e4 vs = e) → absorb [a] e3 fun ds e4 => match ds with | [y] => (((xs.take k).filter t).map g).length < sizeLine ∧ (fun acc e0 => e0 = e ∧ acc = ((xs.take (k + 1)).filter t).map g) (((xs.take k).filter t).map g ++ [y]) (wipeE e4 vs) | _ => False := fun {a e3} h => by
        have fin : ∀ {y : D} {e4 : Env}, [y] = [g x] ∧ wipeE e4 vs = e → (((xs.take k).filter t).map g).length < sizeLine ∧ (wipeE e4 vs = e ∧ ((xs.take k).filter t).map g ++ [y] = ((xs.take (k + 1)).filter t).map g) := fun {y e4} ⟨h1, h2⟩ => by
          cases h1
          refine ⟨?_, h2, ?_⟩
          · rw [List.length_map]
            have := List.length_filter_le t (xs.take k)
            rw [List.length_take] at this
            omega
          · rw [tk, List.filter_append]; simp [ht]
        cases a with
        | va d => exact fin h
        | bor a i p =>
          unfold absorb at h ⊢
          split at h
          · refine ⟨h.1, ?_⟩
            have h := h.2
            split at h
            · exact fin h
            · exact h.elim
          · exact h.elim
      cases r with
      | bor a i p => exact ab hr
      | t t =>
        unfold toA at hr ⊢
        simp only at hr ⊢
        split at hr
        · exact ab (a := .va _) hr
        · exact hr.elim
    · show ((xs.take k).filter t).map g = ((xs.take (k + 1)).filter t).map g
      rw [tk, List.filter_append]; simp [hf]
  · rintro acc e ⟨rfl, rfl⟩ p
    rw [List.length_map, List.take_length]
    exact fin p
end
end QL

/-! QR: o.m(..), o.f where o is made on the spot. -/
namespace QL
open PySem PySem.Spec PyProof.Rows L2
section
variable {Tq : List (Addr × Str)} {Z : Zb Tq} {X : Cx} {e a b c o value : Expr} {es : List Expr} {env : Env} {pos pos' apos p : Pos} {P : R → Env → Prop} {f x m : Str} {k : Nat} {C : Addr} {ps : List Str} {sp : Spc}
def callT (sp : Spc) (tx : T) (as : List A) (env : Env) (PT : T → Env → Prop) (ET : Ex → Env → Prop) : Prop :=
  deref as env fun ts e2 => sp (tx :: ts) (fun t ts' => match ts' with
      | _ :: ts'' => putb as ts'' e2 fun e3 => PT t e3
      | _ => False)
    (fun ex ts' => match ts' with
      | _ :: ts'' => putb as ts'' e2 fun e3 => ET ex e3
      | [] => False)
theorem call_own {fI : Addr} {fd : FuncData} {ET : Ex → Env → Prop} {as : List A} {vs : List V} {us us0 : List Value} {kw : List (Str × Value)} {pins : List (Addr × Obj)} {s : Shared} {σ : L2.St} {H F : Hp} {O Ox : List Addr} {vx : V} {ux : Value} {tx : T}
    (G : FnG X.prog X.w X.K X.mg X.base Tq k fI fd ps sp) (hr : Room k X.A) (hg : X.A.guards = some []) (tk : Takes X (wxOf Z ET)) (hb : BindsTo s fd ⟨us0, kw⟩ (ps.zip (ux :: us))) (I : Inv X pins σ H s) (b : Bas Z F H (O ++ Ox)) (o : OwE F H O σ env) (wx : Ow F H Ox vx tx) (rx : RelV vx ux)
    (st : StAs F vs as) (r : Vals vs us) (h : callT sp tx as env (fun t e => P (.t t) e) ET) : wpAny (model X.prog X.w) X.A (call (.ref fI) us0 kw) (EP X pins σ (Post Z σ H F (O ++ Ox) P)) X.xe s := by
  obtain ⟨ts, e2, Oc, Or, pm, sv, o2, h⟩ := deref_ok st o h
  have ex : ∀ c ∈ Or, Held H c := o2.held
  have pm2 : (O ++ Ox).Perm ((Ox ++ Oc) ++ Or) := (List.perm_append_comm (l₁ := O)).trans (by rw [List.append_assoc]; exact pm.append_left Ox)
  have bc := (b.perm pm2).left.entry
  have sv2 : StV F H (Ox ++ Oc) (vx :: vs) (tx :: ts) := .cons wx sv
  have r2 : Vals (vx :: vs) (ux :: us) := .cons rx r
  refine wpAny_call (codeAny_mono (G.run X.A X.stack s H ⟨us0, kw⟩ (ux :: us) (vx :: vs) F (Ox ++ Oc) (tx :: ts) _ _
    (fun cls d H' => ∃ e ts' F' O', Bas ⟨H, F, Ox ++ Oc, (b.perm pm2).left.tabs⟩ F' H' O' ∧ StVO F' H' O' (vx :: vs) ts' ∧ ExAt F' e cls d ∧ (match ts' with | _ :: ts'' => putb as ts'' e2 fun e3 => ET e e3 | [] => False)) (b.perm pm2).left.tabs hr hg I.env0 hb r2 bc sv2 h
    fun e ts' cls d H' F' O' b' s' x' q => ⟨e, ts', F', O', b', s', x', q⟩) fun rs s' hq => ?_)
  have back : ∀ {F' H' : Hp} {O1 O2 : List Addr} {ts' : List (Option T)} {kk : Env → Prop}, Bas ⟨H, F, Ox ++ Oc, (b.perm pm2).left.tabs⟩ F' H' (O1 ++ O2) → StVO F' H' O1 vs ts' → putb as ts' e2 kk →
      ∃ e3 O3, OwE F' H' O3 σ e3 ∧ Bas Z F' H' (O3 ++ O2) ∧ Frm Tq H F (O ++ Ox) H' F' (O3 ++ O2) ∧ kk e3 := fun {F' H' O1 O2 ts' kk} b' s' q => by
    have fr := b'.abs
    have b3 := Bas.frame fr (b.perm pm2) b' ex
    have keep := fr.rest (R := Or) (pm2.nodup b.nd) ex
    obtain ⟨e3, O3, Od, o3, p3, q3⟩ := putb_ok st s' (o2.stay fr.fz keep) q
    have p4 : ((O1 ++ O2) ++ Or).Perm ((O3 ++ O2) ++ Od) := by
      have e1 : ((O1 ++ O2) ++ Or).Perm ((O1 ++ Or) ++ O2) := by
        rw [List.append_assoc, List.append_assoc]
        exact List.perm_append_comm.append_left O1
      have e2 : ((O3 ++ O2) ++ Od).Perm ((O3 ++ Od) ++ O2) := by
        rw [List.append_assoc, List.append_assoc]
        exact List.perm_append_comm.append_left O3
      exact e1.trans ((p3.append_right O2).trans e2.symm)
    exact ⟨e3, O3, o3, (b3.perm p4).left, (fr.frame (R := Or)).perm (fun c => pm2.symm.mem_iff) (fun c hc => p4.mem_iff.mpr (List.mem_append_left _ hc)), q3⟩
  cases rs with
  | error e =>
    refine tk e s' (XE.of_call I (fun cls d H' hE => ?_) hq)
    obtain ⟨y, ts', F', O', b', sv', xa, q⟩ := hE
    cases sv' with
    | un sv' =>
      obtain ⟨e3, O3, o3, b3, fr3, q3⟩ := back (O2 := []) (by rw [List.append_nil]; exact b') sv' q
      rw [List.append_nil] at b3 fr3
      exact ⟨F', O3, e3, y, b3, o3, xa, q3⟩
    | cons w sv' =>
      rename_i Ou O1' u ts''
      obtain ⟨e3, O3, o3, b3, fr3, q3⟩ := back (O1 := O1') (O2 := Ou) (b'.perm List.perm_append_comm) sv' q
      exact ⟨F', O3, e3, y, b3.left, o3, xa, q3⟩
  | ok fl =>
    cases fl with
    | ret u =>
      refine EP.imp (fun v H' q => ?_) u s' (I.after hq)
      obtain ⟨F', O1, O2, t, ts', b', sv', w', q⟩ := q
      cases sv' with
      | un sv' =>
        obtain ⟨e3, O3, o3, b3, fr3, q3⟩ := back b' sv' q
        exact ⟨F', O3 ++ O2, .t t, e3, b3, ⟨O3, O2, rfl, o3, w'⟩, fr3, q3⟩
      | cons wu sv' =>
        rename_i Ou O1' u' ts''
        have pmx : ((Ou ++ O1') ++ O2).Perm (O1' ++ (O2 ++ Ou)) := by
          rw [List.append_assoc]
          refine List.perm_append_comm.trans ?_
          rw [List.append_assoc]
        obtain ⟨e3, O3, o3, b3, fr3, q3⟩ := back (O1 := O1') (O2 := O2 ++ Ou) (b'.perm pmx) sv' q
        rw [← List.append_assoc] at b3 fr3
        exact ⟨F', O3 ++ O2, .t t, e3, b3.left, ⟨O3, O2, rfl, o3, w'⟩, fr3.perm (fun _ => Iff.rfl) fun c hc => List.mem_append_left _ hc, q3⟩
    | next => exact hq.elim
    | brk => exact hq.elim
    | cont => exact hq.elim
/-- the receiver is made on the spot -/
def methTR {Tq : List (Addr × Str)} (as : List Expr) (Z : Zb Tq) (X : Cx) (C : Addr) (m : Str) (r : R) (e1 : Env) (k : T → List A → Env → Prop) : Prop := match r with
  | .t (.ins a C' fs) => (C' = C ∧ fs.lookup m = none) ∧ WAs Z X as e1 fun as' e2 => k (.ins a C fs) as' e2
  | _ => False
theorem methTR_ok {σ : L2.St} {F H : Hp} {O : List Addr} {v : V} {r : R} {e1 : Env} {kk : T → List A → Env → Prop} (st : StR F H O σ e1 v r) (h : methTR es Z X C m r e1 kk) :
    ∃ a fs dx vs Oa Ob, v = .ref a ∧ H a = some (.ins C dx vs) ∧ vs.lookup m = none ∧ O = Oa ++ Ob ∧ OwE F H Oa σ e1 ∧ Ow F H Ob v (.ins a C fs) ∧ WAs Z X es e1 fun as' e2 => kk (.ins a C fs) as' e2 := by
  unfold methTR at h
  split at h
  · rename_i a C' fs
    obtain ⟨⟨rfl, hm⟩, h⟩ := h
    obtain ⟨Oa, Ob, rfl, o1, w1⟩ := st
    cases w1 with
    | ins ha hd rr =>
      refine ⟨_, fs, _, _, Oa, _, rfl, ha, ?_, rfl, o1, .ins ha hd rr, h⟩
      rcases rr.look (f := m) with ⟨_, e2⟩ | ⟨t, w, Ot, e2, _, _⟩
      · exact e2
      · rw [hm] at e2; cases e2
  · exact h.elim
theorem w_methT {pl : Sem Bool} (G : Mf X.prog X.w X.K X.mg X.base Tq k C m ps sp) (hr : Room k X.A) (hgd : X.A.guards = some [])
    (h : WE Z X o env fun r e1 => methTR (e :: es) Z X C m r e1 fun tx as e2 => callT sp tx as e2 (fun t e => P (.t t) e) fun _ _ => False)
    (hst : starEach (e :: es) X.env = (false, eval e X.env) :: starEach es X.env := by rfl) (hpl : (backTo pos (starEach es X.env)).any (·.1) = false := by rfl)
    (ht : eval (.Call (.Attribute o m apos) (e :: es) [] pos) X.env = (do
      let ov ← eval o X.env
      standAt apos.atName
      let (f, first) ← holding [ov] (getMethod ov m pl)
      callWith pos f first (backTo pos (starEach (e :: es) X.env)) (backToKw pos (keywordEach [] X.env))) := by rfl) :
    WE Z X (.Call (.Attribute o m apos) (e :: es) [] pos) env P := fun pins s σ H F O I b o0 => by
  obtain ⟨f, fd, g, c, hm, hb⟩ := G.ex
  refine PySem.W.methodCall_KW (pl := pl) (thn (h pins s σ H F O I b o0) fun u s1 ⟨v, H1, I1, rx, F1, O1, r, e1, b1, st, fr, q⟩ => ?_) ht
  obtain ⟨a, fs, dx, vs, Oa, Ob, rfl, ha, hl, rfl, o1, wx, q⟩ := methTR_ok st q
  obtain rfl : u = Value.ref a := rx
  refine getmeth_ok I1 ha c hm hl ?_
  refine PySem.W.callWith_K (first := [.ref a]) (h₀ := X.base) I1.ok.mod.kin hm.kp (thn ((pa_As (Z := Z)).run pos pins s1 σ H1 (PostAs Z σ H1 F1 Oa _) I1 ⟨e1, F1, Oa, _, b1.left, o1, q, fun _ _ q => q⟩) fun us s2 ⟨vs2, H2, I2, r2, F2, O2, as, e2, b2, o2, st2, fr2, q2⟩ => ⟨I2.kIn, ?_⟩) hst hpl
  have exb := wx.held
  have b3 := Bas.frame fr2 b1 b2 exb
  have wx2 := wx.stay fr2.fz (fr2.rest b1.nd exb)
  have hl2 : (Value.ref a :: us ++ []).length = ps.length := by
    obtain ⟨ts, e3, Oc, Or, pm, sv, o3, hh⟩ := deref_ok st2 o2 q2
    rw [← g.len _ _ _ hh, List.append_nil]
    show us.length + 1 = ts.length + 1
    rw [← sv.len, ← r2.length]
  have hb2 := hb s2 (Value.ref a :: us) I2.kIn hl2
  rw [List.append_nil] at hb2
  exact thn (call_own (us0 := .ref a :: us) (kw := []) g hr hgd takes_no hb2 I2 b3 o2 wx2 rfl st2 r2 q2) (EP.imp fun v H' q => q.from (fr.trans fr2.frame))
theorem w_methT0 {pl : Sem Bool} (G : Mf X.prog X.w X.K X.mg X.base Tq k C m ps sp) (hr : Room k X.A) (hgd : X.A.guards = some [])
    (h : WE Z X o env fun r e1 => methTR [] Z X C m r e1 fun tx as e2 => callT sp tx as e2 (fun t e => P (.t t) e) fun _ _ => False)
    (ht : eval (.Call (.Attribute o m apos) [] [] pos) X.env = (do
      let ov ← eval o X.env
      standAt apos.atName
      let (f, first) ← holding [ov] (getMethod ov m pl)
      callWith pos f first (backTo pos (starEach [] X.env)) (backToKw pos (keywordEach [] X.env))) := by rfl) :
    WE Z X (.Call (.Attribute o m apos) [] [] pos) env P := fun pins s σ H F O I b o0 => by
  obtain ⟨f, fd, g, c, hm, hb⟩ := G.ex
  refine PySem.W.methodCall_KW (pl := pl) (thn (h pins s σ H F O I b o0) fun u s1 ⟨v, H1, I1, rx, F1, O1, r, e1, b1, st, fr, q⟩ => ?_) ht
  obtain ⟨a, fs, dx, vs, Oa, Ob, rfl, ha, hl, rfl, o1, wx, q⟩ := methTR_ok st q
  obtain rfl : u = Value.ref a := rx
  refine getmeth_ok I1 ha c hm hl ?_
  replace q : callT sp (.ins a C fs) [] e1 (fun t e => P (R.t t) e) fun _ _ => False := q
  have hl2 : ([Value.ref a] ++ []).length = ps.length := by
    obtain ⟨ts, e3, Oc, Or, pm, sv, o3, hh⟩ := deref_ok (as := []) (vs := []) .nil o1 q
    cases sv
    rw [← g.len _ _ _ hh]
    rfl
  have hb2 := hb s1 [Value.ref a] I1.kIn hl2
  rw [List.append_nil] at hb2
  exact PySem.W.callWith_K0 (first := [.ref a]) I1.kIn hm.kp (thn (call_own (us0 := [.ref a]) (kw := []) (us := []) (vs := []) (as := []) g hr hgd takes_no hb2 I1 b1 o1 wx rfl .nil .nil q) (EP.imp fun v H' q => q.from fr))
theorem OwF.lookP {F H : Hp} {f : Str} : ∀ {fs : List (Str × T)} {vs : List (Str × V)} {O : List Addr} {t : T}, OwF F H O vs fs → fs.lookup f = some t → ∃ w Oj O', vs.lookup f = some w ∧ Ow F H Oj w t ∧ O.Perm (Oj ++ O')
  | _, _, _, _, .nil, e => nomatch e
  | (n, t0) :: fs, (_, v) :: vs, _, t, .cons (O1 := O1) (O2 := O2) h r, e => by
    rw [List.lookup_cons] at e ⊢
    cases hb : f == n with
    | true => rw [hb] at e; cases e; exact ⟨_, O1, O2, rfl, h, List.Perm.refl _⟩
    | false =>
      rw [hb] at e
      obtain ⟨w, Oj, O', k1, k2, k3⟩ := OwF.lookP r e
      exact ⟨w, Oj, O1 ++ O', k1, k2, perm_mid k3⟩
/-- a field of what is made on the spot -/
def fldTR (K : PySem.W.Frag) (r : R) (f : Str) (k : R → Prop) : Prop := match r with
  | .t (.ins a C fs) => (Cls K C ∧ NoAttr K C f) ∧ (match fs.lookup f with
      | some t => k (.t t)
      | none => False)
  | _ => False
theorem w_fldT (h : WE Z X o env fun r e1 => fldTR X.K r f fun r2 => P r2 e1) (hb : attributeBase o f X.env (eval o X.env) = eval o X.env := by rfl) : WE Z X (.Attribute o f pos) env P :=
  we_of (pe_fld (pe_E (Z := Z)) hb) fun σ H F O b0 o0 => ⟨env, F, O, _, b0, o0, h, fun v H1 ⟨F1, O1, r, e1, b1, st, fr, q⟩ => by
    unfold fldTR at q
    simp only at q
    split at q
    · rename_i a C fs
      obtain ⟨⟨c, n⟩, q⟩ := q
      obtain ⟨Oa, Ob, rfl, o1, wx⟩ := st
      cases wx with
      | @ins _ dx _ vs _ Of ha hd rr =>
        cases hl : fs.lookup f with
        | none => rw [hl] at q; exact q.elim
        | some t =>
          rw [hl] at q
          obtain ⟨w, Oj, O', hv, hw, pm⟩ := rr.lookP hl
          refine ⟨a, C, dx, vs, w, rfl, ha, c, n, hv, ?_⟩
          have pm2 : (Oa ++ (a :: dx :: Of)).Perm ((Oa ++ Oj) ++ (a :: dx :: O')) := by
            rw [List.append_assoc]
            refine List.Perm.append_left Oa ?_
            exact perm_mid (A := [a, dx]) pm
          obtain ⟨b2, fr2⟩ := b1.dropP pm2
          exact ⟨F1, Oa ++ Oj, .t t, e1, b2, ⟨Oa, Oj, rfl, o1, hw⟩, fr.trans fr2, q⟩
    · exact q.elim⟩
end
/-- a promise drawn from another -/
theorem FnG.weaken {P : Program} {w : World} {K : PySem.W.Frag} {mg : Str → Option Value} {base : Heap} {Tq : List (Addr × Str)} {k : Nat} {f : Addr} {fd : FuncData} {ps : List Str} {sp sp' : Spc} (G : FnG P w K mg base Tq k f fd ps sp) (h : ∀ ts QT ET, sp' ts QT ET → sp ts QT ET) : FnG P w K mg base Tq k f fd ps sp' :=
  ⟨fun ts Q E c => G.len ts Q E (h ts Q E c), fun A outer s H args us vs F O ts QT ET E tbs hr hg e0 hb r b sv hsp hE => G.run A outer s H args us vs F O ts QT ET E tbs hr hg e0 hb r b sv (h ts QT ET hsp) hE⟩
end QL

/-! LP: all layouts, found by going on from their beginnings. -/
namespace LM
open PySem
theorem Lay.pre {wd : Int} {ws : List Int} {ns : List Nat} {h : Nat} : ∀ {r : List Nat} {e : Nat}, Lay wd ws (ns ++ h :: r) e → ∃ l, Lay wd ws ns l ∧ l < h ∧ ln ws l h ≤ wd ∧ h ≤ e := fun {r} => by
  generalize hm : r.length = m
  induction m generalizing r with
  | zero =>
    intro e c
    have : r = [] := List.eq_nil_of_length_eq_zero hm
    subst this
    obtain ⟨rfl, l, h1, h2, h3⟩ := c.inv
    exact ⟨l, h1, h2, h3, Nat.le_refl _⟩
  | succ m ih =>
    intro e c
    rcases List.eq_nil_or_concat r with z | ⟨r', x, z⟩
    · subst z; cases hm
    · rw [List.concat_eq_append] at z
      subst z
      have e1 : ns ++ h :: (r' ++ [x]) = (ns ++ h :: r') ++ [x] := by simp
      rw [e1] at c
      obtain ⟨rfl, l, h1, h2, h3⟩ := c.inv
      obtain ⟨l', k1, k2, k3, k4⟩ := ih (r := r') (by simpa using hm) h1
      exact ⟨l', k1, k2, k3, by omega⟩
theorem Lay.uniq {wd : Int} {ws : List Int} {ns : List Nat} {l l' : Nat} (c : Lay wd ws ns l) (c' : Lay wd ws ns l') : l = l' := by rw [← c.last, ← c'.last]
def wgt (n : Nat) (wt : List (List Nat × Nat)) : Nat := (wt.map fun p => 2 ^ (n - p.2)).sum
theorem wgt_snoc (n : Nat) (wt : List (List Nat × Nat)) (p : List Nat × Nat) : wgt n (wt ++ [p]) = wgt n wt + 2 ^ (n - p.2) := by
  unfold wgt
  rw [List.map_append, List.sum_append]
  simp
theorem wgt_len (n : Nat) : ∀ wt : List (List Nat × Nat), wt.length ≤ wgt n wt
  | [] => Nat.le_refl _
  | p :: wt => by
    have := wgt_len n wt
    have h : 1 ≤ 2 ^ (n - p.2) := Nat.one_le_two_pow
    unfold wgt at this ⊢
    rw [List.map_cons, List.sum_cons, List.length_cons]
    omega
abbrev tN (ns : List Nat) : PyData := .tuple (nDs ns)
def wtD (wt : List (List Nat × Nat)) : List PyData := wt.map fun p => tN p.1
open QL in
theorem tN_small {wd : Int} {ws : List Int} {ns : List Nat} {l : Nat} (c : Lay wd ws ns l) (h : l ≤ 1000) : smallD (tN ns) = true ∧ (tN ns).depth ≤ 1 := by
  have e : nDs ns = iDs (ns.map fun (n : Nat) => (n : Int)) := by simp [nDs, iDs]
  refine ⟨?_, ?_⟩
  · simp only [smallD, e]
    refine iDs_small fun x hx => ?_
    obtain ⟨n, hn, rfl⟩ := List.mem_map.mp hx
    have := c.mem n hn
    have b : (1000 : Nat) < 2 ^ 200 := by decide
    omega
  · simp only [PyData.depth, e, iDs_depth]; omega
/-- found and waiting -/
structure Fnd (wd : Int) (ws : List Int) (fs : List (List Nat)) (wt : List (List Nat × Nat)) : Prop where
  f : ∀ ns ∈ fs, Lay wd ws ns ws.length
  g : ∀ p ∈ wt, Lay wd ws p.1 p.2 ∧ p.2 ≤ ws.length
  all : ∀ ns, Lay wd ws ns ws.length → ns ∈ fs ∨ ∃ p ∈ wt, p.1 <+: ns
  le : fs.length + wgt ws.length wt ≤ 2 ^ ws.length
/-- the children so far of what was taken -/
structure Kid (wd : Int) (ws : List Int) (ns : List Nat) (l j : Nat) (wt0 wt : List (List Nat × Nat)) : Prop where
  old : ∀ p ∈ wt0, p ∈ wt
  g : ∀ p ∈ wt, p ∈ wt0 ∨ (Lay wd ws p.1 p.2 ∧ p.2 ≤ ws.length)
  new : ∀ h, l < h → h ≤ l + j → ln ws l h ≤ wd → (ns ++ [h], h) ∈ wt
  le : wgt ws.length wt + 2 ^ (ws.length - l - j) ≤ wgt ws.length wt0 + 2 ^ (ws.length - l)
theorem Kid.zero {wd : Int} {ws : List Int} {ns : List Nat} {l : Nat} {wt0 : List (List Nat × Nat)} : Kid wd ws ns l 0 wt0 wt0 :=
  ⟨fun _ h => h, fun _ h => .inl h, fun h h1 h2 _ => by omega, Nat.le_refl _⟩
theorem Kid.yes {wd : Int} {ws : List Int} {ns : List Nat} {l j : Nat} {wt0 wt : List (List Nat × Nat)} (K : Kid wd ws ns l j wt0 wt) (c : Lay wd ws ns l) (hj : l + 1 + j ≤ ws.length) (hf : ln ws l (l + 1 + j) ≤ wd) : Kid wd ws ns l (j + 1) wt0 (wt ++ [(ns ++ [l + 1 + j], l + 1 + j)]) := by
  refine ⟨fun p hp => List.mem_append_left _ (K.old p hp), fun p hp => ?_, fun h h1 h2 h3 => ?_, ?_⟩
  · rcases List.mem_append.mp hp with z | z
    · exact K.g p z
    · rw [List.mem_singleton.mp z]; exact .inr ⟨.snoc c (by omega) hf, hj⟩
  · by_cases e : h = l + 1 + j
    · subst e; exact List.mem_append_right _ (List.mem_singleton.mpr rfl)
    · exact List.mem_append_left _ (K.new h h1 (by omega) h3)
  · have := K.le
    rw [wgt_snoc]
    have e1 : ws.length - l - j = (ws.length - (l + 1 + j)) + 1 := by omega
    have e2 : ws.length - l - (j + 1) = ws.length - (l + 1 + j) := by omega
    rw [e1, Nat.pow_succ] at this
    rw [e2]
    show wgt ws.length wt + 2 ^ (ws.length - (l + 1 + j)) + _ ≤ _
    omega
theorem Kid.no {wd : Int} {ws : List Int} {ns : List Nat} {l j : Nat} {wt0 wt : List (List Nat × Nat)} (K : Kid wd ws ns l j wt0 wt) (hf : ¬ ln ws l (l + 1 + j) ≤ wd) : Kid wd ws ns l (j + 1) wt0 wt := by
  refine ⟨K.old, K.g, fun h h1 h2 h3 => ?_, ?_⟩
  · by_cases e : h = l + 1 + j
    · subst e; exact absurd h3 hf
    · exact K.new h h1 (by omega) h3
  · have := K.le
    have : 2 ^ (ws.length - l - (j + 1)) ≤ 2 ^ (ws.length - l - j) := Nat.pow_le_pow_right (by decide) (by omega)
    omega
theorem Fnd.next {wd : Int} {ws : List Int} {fs fs' : List (List Nat)} {ns : List Nat} {l : Nat} {wt0 wt : List (List Nat × Nat)} (F : Fnd wd ws fs (wt0 ++ [(ns, l)])) (K : Kid wd ws ns l (ws.length - l) wt0 wt) (hf : (l = ws.length ∧ fs' = fs ++ [ns]) ∨ (l ≠ ws.length ∧ fs' = fs)) :
    Fnd wd ws fs' wt ∧ wgt ws.length wt < wgt ws.length (wt0 ++ [(ns, l)]) := by
  have hc := F.g (ns, l) (List.mem_append_right _ (List.mem_singleton.mpr rfl))
  have hle := K.le
  have e0 : ws.length - l - (ws.length - l) = 0 := by omega
  rw [e0, Nat.pow_zero] at hle
  have hw := wgt_snoc ws.length wt0 (ns, l)
  have hF := F.le
  simp only at hw
  have sub : ∀ x, x ∈ fs → x ∈ fs' := fun x hx => by
    rcases hf with ⟨_, rfl⟩ | ⟨_, rfl⟩
    · exact List.mem_append_left _ hx
    · exact hx
  refine ⟨⟨fun x hx => ?_, fun p hp => ?_, fun ms hm => ?_, ?_⟩, by rw [hw]; omega⟩
  · rcases hf with ⟨e, rfl⟩ | ⟨_, rfl⟩
    · rcases List.mem_append.mp hx with z | z
      · exact F.f x z
      · rw [List.mem_singleton.mp z, ← e]; exact hc.1
    · exact F.f x hx
  · rcases K.g p hp with z | z
    · exact F.g p (List.mem_append_left _ z)
    · exact z
  · rcases F.all ms hm with z | ⟨p, hp, z⟩
    · exact .inl (sub _ z)
    · rcases List.mem_append.mp hp with y | y
      · exact .inr ⟨p, K.old p y, z⟩
      · rw [List.mem_singleton.mp y] at z
        obtain ⟨r, hr⟩ := z
        cases r with
        | nil =>
          rw [List.append_nil] at hr
          subst hr
          have := hm.uniq hc.1
          rcases hf with ⟨_, rfl⟩ | ⟨e, _⟩
          · exact .inl (List.mem_append_right _ (List.mem_singleton.mpr rfl))
          · exact absurd this.symm e
        | cons h r =>
          rw [← hr] at hm
          obtain ⟨l', k1, k2, k3, k4⟩ := hm.pre
          have := k1.uniq hc.1
          subst this
          exact .inr ⟨_, K.new h k2 (by omega) k3, ⟨r, by rw [← hr]; simp⟩⟩
  · rcases hf with ⟨e, rfl⟩ | ⟨_, rfl⟩
    · rw [List.length_append, List.length_singleton]; omega
    · omega
end LM

/-! LQ: least of rows of data, sorted tuples, what is shown. -/
namespace LM
open PySem QL
theorem hasDict_map {α : Type} {f : α → PyData} (h : ∀ x, (f x).hasDict = false) : ∀ xs : List α, PyData.hasDictAll (xs.map f) = false
  | [] => rfl
  | x :: xs => by show ((f x).hasDict || PyData.hasDictAll (xs.map f)) = false; rw [h x, hasDict_map h xs]; rfl
theorem min_ints {ns : List Int} (h : ns ≠ []) : ∃ x xs m, ns.map PyData.int = x :: xs ∧ W.minD x xs = .int m ∧ m ∈ ns ∧ (∀ y ∈ ns, m ≤ y) ∧ PyData.hasDictAll (x :: xs) = false ∧ W.AlikeAll (x :: xs) ∧ PyData.depthAll (x :: xs) ≤ 60 := by
  cases ns with
  | nil => exact absurd rfl h
  | cons n ns =>
    have key : ∀ (ns : List Int) (a : Int), (ns.foldl min a) ∈ a :: ns ∧ ∀ y ∈ a :: ns, ns.foldl min a ≤ y := fun ns => by
      induction ns with
      | nil => intro a; exact ⟨List.mem_cons_self, fun y hy => by rw [List.mem_singleton.mp hy]; exact Int.le_refl _⟩
      | cons b ns ih =>
        intro a
        obtain ⟨h1, h2⟩ := ih (min a b)
        rw [List.foldl_cons]
        refine ⟨?_, fun y hy => ?_⟩
        · rcases List.mem_cons.mp h1 with e | e
          · rw [e]
            rcases Int.le_total a b with z | z
            · rw [Int.min_eq_left z]; exact List.mem_cons_self
            · rw [Int.min_eq_right z]; exact List.mem_cons_of_mem _ List.mem_cons_self
          · exact List.mem_cons_of_mem _ (List.mem_cons_of_mem _ e)
        · have h3 := h2 (min a b) List.mem_cons_self
          rcases List.mem_cons.mp hy with rfl | hy
          · omega
          · rcases List.mem_cons.mp hy with rfl | hy
            · omega
            · exact h2 y (List.mem_cons_of_mem _ hy)
    refine ⟨.int n, ns.map .int, ns.foldl min n, rfl, W.minD_ints n ns, (key ns n).1, (key ns n).2, ?_, ?_, ?_⟩
    · exact hasDict_map (f := PyData.int) (fun _ => rfl) (n :: ns)
    · rw [← List.map_cons (f := PyData.int)]
      refine ⟨fun x hx y hy => ?_, fun x hx => ?_⟩
      · obtain ⟨p, _, rfl⟩ := List.mem_map.mp hx
        obtain ⟨q, _, rfl⟩ := List.mem_map.mp hy
        rfl
      · obtain ⟨p, _, rfl⟩ := List.mem_map.mp hx
        exact fun z => nomatch z
    · rw [← List.map_cons (f := PyData.int)]
      refine Nat.le_trans (depthAll_map (k := 0) fun p _ => ?_) (by decide)
      simp [PyData.depth]
theorem alike_nDs (ns ms : List Nat) : W.alikeAll (nDs ns) (nDs ms) = true := by
  induction ns generalizing ms with
  | nil => cases ms <;> rfl
  | cons n ns ih =>
    cases ms with
    | nil => rfl
    | cons m ms => exact ih ms
/-- priced layouts -/
abbrev enS (x : Int × List Nat) : PyData := .tuple [.int x.1, tN x.2]
theorem alike_enS (x y : Int × List Nat) : W.alike (enS x) (enS y) = true := by
  show (W.alike (.int x.1) (.int y.1) && (W.alikeAll (nDs x.2) (nDs y.2) && true)) = true
  rw [alike_nDs]; rfl
theorem dataLt_enS (x y : Int × List Nat) (h : x.1 ≠ y.1) : W.dataLt (enS x) (enS y) = decide (x.1 < y.1) := by
  have e : W.dataLt (enS x) (enS y) = _ := W.dataLt_pair (x := .int x.1) (y := tN x.2) (x' := .int y.1) (y' := tN y.2) rfl (alike_nDs x.2 y.2)
  rw [e, W.dataLt_int]
  have : PyData.eqv (.int x.1) (.int y.1) = false := by simp [PyData.eqv, h]
  rw [this]
  rfl
theorem min_enS {S : List (Int × List Nat)} (h : S ≠ []) : ∃ x xs m t, S.map enS = x :: xs ∧ W.minD x xs = enS (m, t) ∧ (m, t) ∈ S ∧ (∀ y ∈ S, m ≤ y.1) ∧ PyData.hasDictAll (x :: xs) = false ∧ W.AlikeAll (x :: xs) ∧ PyData.depthAll (x :: xs) ≤ 60 := by
  cases S with
  | nil => exact absurd rfl h
  | cons s S =>
    have key : ∀ (S : List (Int × List Nat)) (a : Int × List Nat), ∃ b, W.minD (enS a) (S.map enS) = enS b ∧ b ∈ a :: S ∧ ∀ y ∈ a :: S, b.1 ≤ y.1 := fun S => by
      induction S with
      | nil => intro a; exact ⟨a, rfl, List.mem_cons_self, fun y hy => by rw [List.mem_singleton.mp hy]; exact Int.le_refl _⟩
      | cons y S ih =>
        intro a
        have e : W.minD (enS a) ((y :: S).map enS) = W.minD (if W.dataLt (enS y) (enS a) then enS y else enS a) (S.map enS) := rfl
        by_cases hl : W.dataLt (enS y) (enS a) = true
        · obtain ⟨b, h1, h2, h3⟩ := ih y
          have hya : y.1 ≤ a.1 := by
            by_cases q : y.1 = a.1
            · omega
            · rw [dataLt_enS y a q] at hl; have := of_decide_eq_true hl; omega
          refine ⟨b, by rw [e, if_pos hl, h1], List.mem_cons_of_mem _ h2, fun z hz => ?_⟩
          rcases List.mem_cons.mp hz with rfl | hz
          · have := h3 y List.mem_cons_self; omega
          · exact h3 z hz
        · obtain ⟨b, h1, h2, h3⟩ := ih a
          have hay : a.1 ≤ y.1 := by
            by_cases q : y.1 = a.1
            · omega
            · rw [dataLt_enS y a q] at hl; have : ¬ y.1 < a.1 := by simpa using hl
              omega
          refine ⟨b, by rw [e, if_neg hl, h1], ?_, fun z hz => ?_⟩
          · rcases List.mem_cons.mp h2 with e2 | e2
            · rw [e2]; exact List.mem_cons_self
            · exact List.mem_cons_of_mem _ (List.mem_cons_of_mem _ e2)
          · rcases List.mem_cons.mp hz with rfl | hz
            · exact h3 z List.mem_cons_self
            · rcases List.mem_cons.mp hz with rfl | hz
              · have := h3 a List.mem_cons_self; omega
              · exact h3 z (List.mem_cons_of_mem _ hz)
    obtain ⟨b, h1, h2, h3⟩ := key S s
    refine ⟨enS s, S.map enS, b.1, b.2, rfl, h1, h2, h3, ?_, ?_, ?_⟩
    · refine hasDict_map (f := enS) (fun x => ?_) (s :: S)
      show (false || (PyData.hasDictAll (nDs x.2) || false)) = false
      rw [hasDict_map (f := fun (n : Nat) => PyData.int (n : Int)) (fun _ => rfl) x.2]; rfl
    · rw [← List.map_cons (f := enS)]
      refine ⟨fun x hx y hy => ?_, fun x hx => ?_⟩
      · obtain ⟨p, _, rfl⟩ := List.mem_map.mp hx
        obtain ⟨q, _, rfl⟩ := List.mem_map.mp hy
        exact alike_enS p q
      · obtain ⟨p, _, rfl⟩ := List.mem_map.mp hx
        exact fun z => nomatch z
    · rw [← List.map_cons (f := enS)]
      refine Nat.le_trans (depthAll_map (k := 2) fun p _ => ?_) (by decide)
      have : PyData.depthAll (nDs p.2) ≤ 0 := depthAll_map (k := 0) fun n _ => by simp [PyData.depth]
      simp only [PyData.depth, PyData.depthAll]
      omega
/-! ### sorted tuples -/
abbrev tI (xs : List Int) : PyData := .tuple (iDs xs)
theorem dataLe_tI (xs ys : List Int) : W.dataLe false id (tI xs) (tI ys) = decide (xs ≤ ys) := by
  rw [W.dataLe_eq]
  show (!W.dataLt (tI ys) (tI xs)) = _
  rw [W.dataLt_tuple]
  have e : PyProof.Rows.lexLt PyProof.Rows.itemOrd (W.keyToksAll (iDs ys)) (W.keyToksAll (iDs xs)) = decide (ys < xs) := W.dataLt_ints ys xs
  rw [e]
  by_cases h : ys < xs
  · rw [decide_eq_true h, decide_eq_false (List.not_le.mpr h)]; rfl
  · rw [decide_eq_false h, decide_eq_true (List.not_lt.mp h)]; rfl
theorem rev_nDs (ns : List Nat) : (nDs ns).reverse = iDs (rv ns) := by unfold rv; simp [nDs, iDs]
theorem rev_iDs (ns : List Nat) : (iDs (rv ns)).reverse = nDs ns := by rw [← rev_nDs, List.reverse_reverse]
/-- layouts, the later ones first -/
def desc (Ls : List (List Nat)) : List (List Nat) := (Ls.mergeSort fun a b => decide (rv a ≤ rv b)).reverse
theorem desc_perm (Ls : List (List Nat)) : (desc Ls).Perm Ls := (List.reverse_perm _).trans (List.mergeSort_perm _ _)
theorem desc_sorted (Ls : List (List Nat)) : (desc Ls).Pairwise fun a b => rv b ≤ rv a := by
  unfold desc
  rw [List.pairwise_reverse]
  have := List.pairwise_mergeSort (le := fun a b => decide (rv a ≤ rv b)) (fun a b c h1 h2 => by
    simp only [decide_eq_true_eq] at h1 h2 ⊢; exact List.le_trans h1 h2) (fun a b => by
    rcases List.le_total (rv a) (rv b) with h | h <;> simp [h]) Ls
  exact this.imp fun h => by simpa using h
theorem sort_rows (Ls : List (List Nat)) : (Ls.map fun ns => PyData.tuple (nDs ns).reverse).mergeSort (W.dataLe false id) = (desc Ls).reverse.map fun ns => tI (rv ns) := by
  unfold desc
  rw [List.reverse_reverse]
  have e : (Ls.map fun ns => PyData.tuple (nDs ns).reverse) = Ls.map fun ns => tI (rv ns) := List.map_congr_left fun ns _ => by rw [rev_nDs]
  rw [e, List.map_mergeSort]
  intro a _ b _
  exact (dataLe_tI _ _).symm
theorem desc_head {Ls : List (List Nat)} (h : Ls ≠ []) : ∃ ns r, desc Ls = ns :: r ∧ ns ∈ Ls ∧ ∀ ms ∈ Ls, rv ms ≤ rv ns := by
  have p := desc_perm Ls
  have s := desc_sorted Ls
  cases hd : desc Ls with
  | nil => rw [hd] at p; exact absurd (List.nil_perm.mp p) h
  | cons ns r =>
    rw [hd] at p s
    refine ⟨ns, r, rfl, p.mem_iff.mp List.mem_cons_self, fun ms hm => ?_⟩
    rcases List.mem_cons.mp (p.mem_iff.mpr hm) with e | e
    · rw [e]; exact List.le_refl _
    · exact (List.pairwise_cons.mp s).1 ms e
/-- the first of the chosen ones -/
theorem chosen_gen {fs : List (List Nat)} {f : List Nat → Int} {b : List Nat} (hb : b ∈ fs) (hle : ∀ ns ∈ fs, f b ≤ f ns) (hl : ∀ ns ∈ fs, f ns = f b → rv ns ≤ rv b) {m : Int} (h1 : ∃ x ∈ fs.map (fun ns => (f ns, ns)), x.1 = m) (h2 : ∀ y ∈ fs.map (fun ns => (f ns, ns)), m ≤ y.1) :
    m = f b ∧ ∃ r, desc (((fs.map fun ns => (f ns, ns)).filter fun x => decide (x.1 = m)).map (·.2)) = b :: r := by
  have hm : m = f b := by
    obtain ⟨x, hx, rfl⟩ := h1
    obtain ⟨ns, hn, rfl⟩ := List.mem_map.mp hx
    have := h2 (f b, b) (List.mem_map.mpr ⟨b, hb, rfl⟩)
    have := hle ns hn
    simp only at *
    omega
  refine ⟨hm, ?_⟩
  have mem : ∀ ns, ns ∈ (((fs.map fun ns => (f ns, ns)).filter fun x => decide (x.1 = m)).map (·.2)) ↔ ns ∈ fs ∧ f ns = m := fun ns => by
    simp only [List.mem_map, List.mem_filter, decide_eq_true_eq]
    constructor
    · rintro ⟨x, ⟨⟨y, h1, rfl⟩, h2⟩, rfl⟩
      exact ⟨h1, h2⟩
    · rintro ⟨h1, h2⟩
      exact ⟨(f ns, ns), ⟨⟨ns, h1, rfl⟩, h2⟩, rfl⟩
  obtain ⟨ns, r, e1, e2, e3⟩ := desc_head (List.ne_nil_of_mem ((mem b).mpr ⟨hb, hm.symm⟩))
  have k1 := (mem ns).mp e2
  have k2 := hl ns k1.1 (by rw [k1.2, hm])
  have k3 := e3 b ((mem b).mpr ⟨hb, hm.symm⟩)
  have : ns = b := rv_inj (List.le_antisymm k2 k3)
  rw [this] at e1
  exact ⟨r, e1⟩
theorem chosen_best {wd : Int} {ws : List Int} (W : Wd wd ws) {fs : List (List Nat)} (hfs : ∀ ns, ns ∈ fs ↔ Lay wd ws ns ws.length) {m : Int} (h1 : ∃ x ∈ fs.map (fun ns => (cost wd ws ns, ns)), x.1 = m) (h2 : ∀ y ∈ fs.map (fun ns => (cost wd ws ns, ns)), m ≤ y.1) :
    m = C wd ws (LS wd ws) ∧ L2.atI ((desc (((fs.map fun ns => (cost wd ws ns, ns)).filter fun x => decide (x.1 = m)).map (·.2))).map tN) 0 = some (tN (bestLay wd ws)) := by
  have b := best_lay W
  obtain ⟨e1, r, e2⟩ := chosen_gen (f := cost wd ws) ((hfs _).mpr b.1) (fun ns h => (best_opt W ((hfs ns).mp h)).1) (fun ns h => (best_opt W ((hfs ns).mp h)).2) h1 h2
  rw [b.2] at e1
  exact ⟨e1, by rw [e2]; exact L2.atI_nat (j := 0) rfl⟩
theorem chosen_closed {wd : Int} {ws : List Int} (W : Wd wd ws) {fs : List (List Nat)} (hfs : ∀ ns, ns ∈ fs ↔ Lay wd ws ns ws.length) {m : Int} (h1 : ∃ x ∈ fs.map (fun ns => (fc wd ws ns, ns)), x.1 = m) (h2 : ∀ y ∈ fs.map (fun ns => (fc wd ws ns, ns)), m ≤ y.1) :
    m = C wd ws ws.length ∧ L2.atI ((desc (((fs.map fun ns => (fc wd ws ns, ns)).filter fun x => decide (x.1 = m)).map (·.2))).map tN) 0 = some (tN (way wd ws ws.length)) := by
  have b := way_lay W ws.length (Nat.le_refl _)
  obtain ⟨e1, r, e2⟩ := chosen_gen (f := fc wd ws) ((hfs _).mpr b.1) (fun ns h => by rw [b.2]; exact (opt_full W ((hfs ns).mp h) (Nat.le_refl _)).1) (fun ns h e => (opt_full W ((hfs ns).mp h) (Nat.le_refl _)).2 (by rw [e, b.2])) h1 h2
  rw [b.2] at e1
  exact ⟨e1, by rw [e2]; exact L2.atI_nat (j := 0) rfl⟩
/-- what is asked of the priced layouts -/
theorem priced_side {wd : Int} {ws : List Int} (W : Wd wd ws) {fs : List (List Nat)} (f : List Nat → Int) (hfs : ∀ ns, ns ∈ fs ↔ Lay wd ws ns ws.length) (hl : fs.length ≤ 2 ^ ws.length) (h15 : ws.length ≤ 15) : (fs.map fun ns => (f ns, ns)) ≠ [] ∧ (fs.map fun ns => (f ns, ns)).length ≤ 40000 ∧ ((∀ x ∈ fs.map (fun ns => (f ns, ns)), x.2 ≠ []) ∨ ∃ x, (fs.map fun ns => (f ns, ns)) = [x]) := by
  have p : 2 ^ ws.length ≤ 2 ^ 15 := Nat.pow_le_pow_right (by decide) h15
  have hne : fs ≠ [] := List.ne_nil_of_mem ((hfs _).mpr (best_lay W).1)
  refine ⟨by simpa using hne, by rw [List.length_map]; omega, ?_⟩
  by_cases h0 : ws.length = 0
  · rw [h0] at hl
    cases fs with
    | nil => exact absurd rfl hne
    | cons a r =>
      cases r with
      | nil => exact .inr ⟨_, rfl⟩
      | cons b r => simp at hl
  · refine .inl fun x hx => ?_
    obtain ⟨ns, hn, rfl⟩ := List.mem_map.mp hx
    obtain ⟨ms, l, e, _⟩ := ((hfs ns).mp hn).ne (by omega)
    rw [e]
    simp
theorem ne_self {x : Str} {Q : Prop} (h : (!decide (x = x)) = true) : Q := by simp at h
/-! ### what is shown -/
theorem sh_row {wd : Int} {ws : List Int} (W : Wd wd ws) (h : ws.length ≤ 290) : showOk0 (.tuple (iDs ws)) := by
  refine show0 ?_ ?_ ?_
  · simp only [smallD]
    refine iDs_small fun x hx => ?_
    have := W.wrd x hx
    have := W.w2
    have b : (1000000000 : Nat) < 2 ^ 200 := by decide
    omega
  · have := iDs_nodes ws
    simp only [nodes]; omega
  · simp only [PyData.depth, iDs_depth]; omega
theorem nDs_eq (ns : List Nat) : nDs ns = iDs (ns.map fun (n : Nat) => (n : Int)) := by simp [nDs, iDs]
theorem sh_lay2 {wd : Int} {ws : List Int} {ns : List Nat} {l : Nat} (c : Lay wd ws ns l) (h : l ≤ 100) : showOk0 (.list [tN ns, tN ns]) := by
  have t := (tN_small c (by omega)).1
  have d := (tN_small c (by omega)).2
  have n : nodes (tN ns) ≤ 101 := by
    have := iDs_nodes (ns.map fun (n : Nat) => (n : Int))
    have := c.len
    simp only [nodes, nDs_eq]
    rw [List.length_map] at *
    omega
  refine show0 ?_ ?_ ?_
  · simp only [smallD, smallA, Bool.and_true, Bool.and_eq_true]
    simp only [smallD] at t
    exact ⟨t, t⟩
  · show 1 + (nodes (tN ns) + (nodes (tN ns) + 0)) ≤ 300
    omega
  · simp only [PyData.depth, PyData.depthAll] at d ⊢
    omega
theorem sh_int2 {a b : Int} (ha : a.natAbs < 2 ^ 200) (hb : b.natAbs < 2 ^ 200) : showOk0 (.list [.int a, .int b]) :=
  show0 (by simp only [smallD, smallA, Bool.and_true, Bool.and_eq_true, decide_eq_true_eq]; exact ⟨ha, hb⟩) (by simp only [nodes, nodesA]; omega) (by simp only [PyData.depth, PyData.depthAll]; omega)
theorem C_small {wd : Int} {ws : List Int} (W : Wd wd ws) {e : Nat} (he : e ≤ ws.length) : (C wd ws e).natAbs < 2 ^ 200 := by
  have h := C_bd W e he
  have := W.len
  have b : (10000000000000000000000000 : Nat) * 1000 < 2 ^ 200 := by decide
  omega
end LM

/-! LR: chains of lines, parts of texts, texts turned about. -/
namespace LM
open PySem
/-- lines from l to r -/
inductive Seg (wd : Int) (ws : List Int) : Nat → List Nat → Nat → Prop
  | nil {l : Nat} : Seg wd ws l [] l
  | cons {l h r : Nat} {ns : List Nat} : l < h → ln ws l h ≤ wd → Seg wd ws h ns r → Seg wd ws l (h :: ns) r
def sc (wd : Int) (ws : List Int) : Nat → List Nat → Int
  | _, [] => 0
  | l, h :: r => sq wd ws l h + sc wd ws h r
theorem Seg.app {wd : Int} {ws : List Int} {l m : Nat} {ns : List Nat} (a : Seg wd ws l ns m) : ∀ {ms : List Nat} {r : Nat}, Seg wd ws m ms r → Seg wd ws l (ns ++ ms) r := by
  induction a with
  | nil => exact fun h => h
  | cons h1 h2 _ ih => exact fun h => .cons h1 h2 (ih h)
theorem sc_app {wd : Int} {ws : List Int} : ∀ {ns : List Nat} {l : Nat} {ms : List Nat}, sc wd ws l (ns ++ ms) = sc wd ws l ns + sc wd ws (ns.getLastD l) ms
  | [], l, ms => by simp [sc]
  | h :: r, l, ms => by
    show sq wd ws l h + sc wd ws h (r ++ ms) = sq wd ws l h + sc wd ws h r + _
    rw [sc_app (ns := r) (l := h), List.getLastD_cons]
    omega
theorem Seg.last {wd : Int} {ws : List Int} {l r : Nat} {ns : List Nat} (a : Seg wd ws l ns r) : ns.getLastD l = r := by
  induction a with
  | nil => rfl
  | cons h1 h2 _ ih => rw [List.getLastD_cons]; exact ih
theorem Seg.le {wd : Int} {ws : List Int} {l r : Nat} {ns : List Nat} (a : Seg wd ws l ns r) : l ≤ r ∧ ns.length ≤ r - l := by
  induction a with
  | nil => exact ⟨Nat.le_refl _, Nat.zero_le _⟩
  | cons h1 h2 _ ih => exact ⟨by omega, by rw [List.length_cons]; omega⟩
theorem Seg.mem {wd : Int} {ws : List Int} {l r : Nat} {ns : List Nat} (a : Seg wd ws l ns r) : ∀ x ∈ ns, l < x ∧ x ≤ r := by
  induction a with
  | nil => intro x hx; cases hx
  | cons h1 h2 a ih =>
    intro x hx
    rcases List.mem_cons.mp hx with e | e
    · subst e; exact ⟨h1, a.le.1⟩
    · have := ih x e; omega
theorem Lay.seg {wd : Int} {ws : List Int} {ns : List Nat} {e : Nat} (c : Lay wd ws ns e) : Seg wd ws 0 ns e ∧ fc wd ws ns = sc wd ws 0 ns := by
  induction c with
  | nil => exact ⟨.nil, rfl⟩
  | @snoc ns l h c h1 h2 ih =>
    refine ⟨ih.1.app (.cons h1 h2 .nil), ?_⟩
    rw [fc_snoc, sc_app, ih.2, ih.1.last]
    simp [sc]
theorem Seg.layG {wd : Int} {ws : List Int} {l r : Nat} {ns : List Nat} (a : Seg wd ws l ns r) : ∀ {ms : List Nat}, Lay wd ws ms l → Lay wd ws (ms ++ ns) r := by
  induction a with
  | nil => intro ms h; rw [List.append_nil]; exact h
  | @cons l h r ns h1 h2 a ih => intro ms c; have := ih (c.snoc h1 h2); rwa [List.append_assoc] at this
theorem Seg.lay {wd : Int} {ws : List Int} {r : Nat} {ns : List Nat} (a : Seg wd ws 0 ns r) : Lay wd ws ns r := a.layG .nil
theorem Seg.inv {wd : Int} {ws : List Int} : ∀ {ns : List Nat} {l : Nat} {ms : List Nat} {r : Nat}, Seg wd ws l (ns ++ ms) r → Seg wd ws l ns (ns.getLastD l) ∧ Seg wd ws (ns.getLastD l) ms r
  | [], l, ms, r, a => ⟨.nil, a⟩
  | h :: t, l, ms, r, a => by
    have a' : Seg wd ws l (h :: (t ++ ms)) r := a
    cases a' with
    | cons h1 h2 b =>
      have := Seg.inv b
      rw [List.getLastD_cons]
      exact ⟨.cons h1 h2 this.1, this.2⟩
/-- two texts that have alike lines -/
theorem Seg.move {wd : Int} {ws vs : List Int} {l r : Nat} {ns : List Nat} (f : Nat → Nat) (n : Nat) (hf : ∀ i j, i < j → j ≤ n → f i < f j ∧ ln vs (f i) (f j) = ln ws i j) (a : Seg wd ws l ns r) : r ≤ n → Seg wd vs (f l) (ns.map f) (f r) ∧ sc wd vs (f l) (ns.map f) = sc wd ws l ns := by
  induction a with
  | nil => exact fun _ => ⟨.nil, rfl⟩
  | @cons l h r ns h1 h2 a ih =>
    intro hr
    have e := hf l h h1 (by have := a.le.1; omega)
    refine ⟨.cons e.1 (by rw [e.2]; exact h2) (ih hr).1, ?_⟩
    show sq wd vs (f l) (f h) + sc wd vs (f h) (ns.map f) = sq wd ws l h + sc wd ws h ns
    rw [(ih hr).2]
    unfold sq
    rw [e.2]
/-! ### lines of parts -/
theorem ln_sum (ws : List Int) {i j : Nat} (h : i ≤ j) (hj : j ≤ ws.length) : ln ws i j = ((ws.drop i).take (j - i)).sum + j - i - 1 := by
  unfold ln
  rw [sm_eq ws (j := i) (by omega), sm_eq ws hj]
  have e : ws.take j = ws.take i ++ (ws.drop i).take (j - i) := by
    have : j = i + (j - i) := by omega
    conv => lhs; rw [this, List.take_add]
  rw [e, List.sum_append]
  omega
theorem ln_take {ws : List Int} {m i j : Nat} (h : i ≤ j) (hj : j ≤ m) (hm : m ≤ ws.length) : ln (ws.take m) i j = ln ws i j := by
  rw [ln_sum ws h (by omega), ln_sum _ h (by rw [List.length_take]; omega), List.drop_take, List.take_take, Nat.min_eq_left (by omega)]
theorem ln_drop {ws : List Int} {m i j : Nat} (h : i ≤ j) (hj : j + m ≤ ws.length) : ln (ws.drop m) i j = ln ws (i + m) (j + m) := by
  rw [ln_sum ws (by omega) hj, ln_sum _ h (by rw [List.length_drop]; omega), List.drop_drop, Nat.add_comm m i, show j + m - (i + m) = j - i by omega]
  omega
theorem ln_appL {ws vs : List Int} {i j : Nat} (h : i ≤ j) (hj : j ≤ ws.length) : ln (ws ++ vs) i j = ln ws i j := by
  have := ln_take (ws := ws ++ vs) (m := ws.length) h hj (by rw [List.length_append]; omega)
  rw [List.take_left] at this
  exact this.symm
theorem ln_appR {ws vs : List Int} {i j : Nat} (h : i ≤ j) (hj : j ≤ vs.length) : ln (ws ++ vs) (i + ws.length) (j + ws.length) = ln vs i j := by
  have := ln_drop (ws := ws ++ vs) (m := ws.length) h (by rw [List.length_append]; omega)
  rw [List.drop_left] at this
  exact this.symm
theorem ln_rev {ws : List Int} {i j : Nat} (h : i ≤ j) (hj : j ≤ ws.length) : ln ws.reverse (ws.length - j) (ws.length - i) = ln ws i j := by
  rw [ln_sum ws h hj, ln_sum _ (by omega) (by rw [List.length_reverse]; omega)]
  have e : ((ws.reverse.drop (ws.length - j)).take (ws.length - i - (ws.length - j))).sum = ((ws.drop i).take (j - i)).sum := by
    rw [show ws.length - i - (ws.length - j) = j - i by omega]
    have e1 : ws.reverse.drop (ws.length - j) = (ws.take j).reverse := by
      rw [List.reverse_take]
    rw [e1, List.take_reverse, List.length_take, Nat.min_eq_left hj, show j - (j - i) = i by omega, List.drop_take, List.sum_reverse]
  rw [e]
  omega
theorem Wd.take {wd : Int} {ws : List Int} (W : Wd wd ws) (m : Nat) : Wd wd (ws.take m) := ⟨W.w1, W.w2, by rw [List.length_take]; have := W.len; omega, fun x hx => W.wrd x (List.mem_of_mem_take hx)⟩
theorem Wd.drop {wd : Int} {ws : List Int} (W : Wd wd ws) (m : Nat) : Wd wd (ws.drop m) := ⟨W.w1, W.w2, by rw [List.length_drop]; have := W.len; omega, fun x hx => W.wrd x (List.mem_of_mem_drop hx)⟩
theorem Wd.rev {wd : Int} {ws : List Int} (W : Wd wd ws) : Wd wd ws.reverse := ⟨W.w1, W.w2, by rw [List.length_reverse]; exact W.len, fun x hx => W.wrd x (List.mem_reverse.mp hx)⟩
theorem Wd.app {wd : Int} {ws vs : List Int} (W : Wd wd ws) (h : ws.length + vs.length ≤ 1000) (hv : ∀ x ∈ vs, 1 ≤ x ∧ x ≤ wd) : Wd wd (ws ++ vs) := ⟨W.w1, W.w2, by rw [List.length_append]; exact h, fun x hx => (List.mem_append.mp hx).elim (W.wrd x) (hv x)⟩
/-! ### the table of a text is that of each text that begins so -/
theorem bgF_congr {wd : Int} {ws vs : List Int} {e : Nat} (h : ∀ i, i < e → ln ws i e = ln vs i e) : ∀ m, m ≤ e → bgF wd ws e m = bgF wd vs e m
  | 0, _ => rfl
  | m + 1, hm => by
    show (if ln ws m e ≤ wd then m :: bgF wd ws e m else []) = (if ln vs m e ≤ wd then m :: bgF wd vs e m else [])
    rw [h m (by omega), bgF_congr h m (by omega)]
theorem bg_congr {wd : Int} {ws vs : List Int} {e : Nat} (h : ∀ i, i < e → ln ws i e = ln vs i e) : bg wd ws e = bg wd vs e := bgF_congr h e (Nat.le_refl e)
theorem best_congr {f g : Nat → Int} {bs : List Nat} (h : ∀ b ∈ bs, f b = g b) : best f bs = best g bs := by
  unfold best
  rw [List.map_congr_left (fun b hb => by rw [h b hb])]
theorem bgF_lt {wd : Int} {ws : List Int} {e : Nat} : ∀ {m b : Nat}, b ∈ bgF wd ws e m → b < m
  | 0, b, h => by cases h
  | m + 1, b, h => by
    have h : b ∈ (if ln ws m e ≤ wd then m :: bgF wd ws e m else []) := h
    split at h
    · rcases List.mem_cons.mp h with z | z
      · omega
      · have := bgF_lt z; omega
    · cases h
theorem tab_congr {wd : Int} {ws vs : List Int} : ∀ n, (∀ i j, i < j → j ≤ n → ln ws i j = ln vs i j) → tab wd ws n = tab wd vs n
  | 0, _ => rfl
  | n + 1, h => by
    have ih := tab_congr (wd := wd) n fun i j h1 h2 => h i j h1 (by omega)
    have e1 : bg wd ws (n + 1) = bg wd vs (n + 1) := bg_congr fun i hi => h i (n + 1) hi (Nat.le_refl _)
    have e2 : best (fun b => ((tab wd ws n).getD b (0, 0)).1 + sq wd ws b (n + 1)) (bg wd ws (n + 1)) = best (fun b => ((tab wd vs n).getD b (0, 0)).1 + sq wd vs b (n + 1)) (bg wd vs (n + 1)) := by
      rw [ih, e1]
      refine best_congr fun b hb => ?_
      unfold sq
      rw [h b (n + 1) (bgF_lt hb) (Nat.le_refl _)]
    show tab wd ws n ++ [((best (fun b => ((tab wd ws n).getD b (0, 0)).1 + sq wd ws b (n + 1)) (bg wd ws (n + 1))).1, (-(best (fun b => ((tab wd ws n).getD b (0, 0)).1 + sq wd ws b (n + 1)) (bg wd ws (n + 1))).2).toNat)] = tab wd vs n ++ [((best (fun b => ((tab wd vs n).getD b (0, 0)).1 + sq wd vs b (n + 1)) (bg wd vs (n + 1))).1, (-(best (fun b => ((tab wd vs n).getD b (0, 0)).1 + sq wd vs b (n + 1)) (bg wd vs (n + 1))).2).toNat)]
    rw [e2, ih]
theorem CB_congr {wd : Int} {ws vs : List Int} {n : Nat} (h : ∀ i j, i < j → j ≤ n → ln ws i j = ln vs i j) {e : Nat} (he : e ≤ n) : C wd ws e = C wd vs e ∧ B wd ws e = B wd vs e := by
  unfold C B
  rw [tab_congr e fun i j h1 h2 => h i j h1 (by omega)]
  exact ⟨rfl, rfl⟩
theorem wayN_congr {f g : Nat → Nat} {n : Nat} (h : ∀ e, e ≤ n → f e = g e) (hf : ∀ e, 0 < e → e ≤ n → f e < e) : ∀ k e, e ≤ n → wayN f k e = wayN g k e
  | 0, _, _ => rfl
  | k + 1, e, he => by
    show (if e = 0 then [] else wayN f k (f e) ++ [e]) = (if e = 0 then [] else wayN g k (g e) ++ [e])
    by_cases h0 : e = 0
    · rw [if_pos h0, if_pos h0]
    · rw [if_neg h0, if_neg h0, ← h e he, wayN_congr h hf k (f e) (by have := hf e (by omega) he; omega)]
theorem way_congr {wd : Int} {ws vs : List Int} (W : Wd wd ws) {n : Nat} (hn : n ≤ ws.length) (h : ∀ i j, i < j → j ≤ n → ln ws i j = ln vs i j) {e : Nat} (he : e ≤ n) : way wd ws e = way wd vs e :=
  wayN_congr (n := n) (fun e he => (CB_congr h he).2) (fun e h0 h1 => (CB_at W h0 (by omega)).1) e e he
/-- parts in front -/
theorem C_take {wd : Int} {ws : List Int} (W : Wd wd ws) {m e : Nat} (hm : m ≤ ws.length) (he : e ≤ m) : C wd (ws.take m) e = C wd ws e ∧ B wd (ws.take m) e = B wd ws e ∧ way wd (ws.take m) e = way wd ws e := by
  have h : ∀ i j, i < j → j ≤ m → ln (ws.take m) i j = ln ws i j := fun i j h1 h2 => ln_take (by omega) h2 hm
  have c := CB_congr (wd := wd) h he
  exact ⟨c.1, c.2, way_congr (W.take m) (by rw [List.length_take]; omega) h he⟩
/-- the first ends of a way are a way -/
theorem way_pre {wd : Int} {ws : List Int} (W : Wd wd ws) : ∀ e, e ≤ ws.length → ∀ k x, (way wd ws e)[k]? = some x → (way wd ws e).take (k + 1) = way wd ws x := by
  intro e
  induction e using Nat.strongRecOn with
  | _ e ih =>
    intro he k x hx
    rcases Nat.eq_zero_or_pos e with h0 | h0
    · subst h0; rw [way0] at hx; cases hx
    · have s := way_step W h0 he
      have hb := (CB_at W h0 he).1
      rw [s] at hx ⊢
      by_cases hk : k < (way wd ws (B wd ws e)).length
      · rw [List.getElem?_append_left hk] at hx
        rw [List.take_append_of_le_length (by omega)]
        exact ih _ hb (by omega) k x hx
      · rw [List.getElem?_append_right (by omega)] at hx
        have hk2 : k = (way wd ws (B wd ws e)).length := by
          have := (List.getElem?_eq_some_iff.mp hx).1
          rw [List.length_singleton] at this
          omega
        rw [hk2, Nat.sub_self] at hx
        have ex : e = x := by simpa using hx
        subst ex
        rw [List.take_of_length_le (by rw [List.length_append, List.length_singleton]; omega)]
        exact s.symm
/-! ### turned about -/
/-- the ends of the lines from the back -/
def trn (ns : List Nat) : List Nat := if ns = [] then [] else ((0 :: ns.dropLast).reverse).map fun x => ns.getLastD 0 - x
def rvs (n : Nat) : Nat → List Nat → List Nat
  | _, [] => []
  | l, h :: t => rvs n h t ++ [n - l]
theorem rvs_eq (n : Nat) : ∀ (ns : List Nat) (l : Nat), rvs n l ns = ((l :: ns).dropLast.reverse).map fun x => n - x
  | [], l => rfl
  | h :: t, l => by
    show rvs n h t ++ [n - l] = _
    rw [rvs_eq n t h]
    show _ = ((l :: (h :: t).dropLast).reverse).map fun x => n - x
    rw [List.reverse_cons, List.map_append]
    rfl
theorem trn_rvs {ns : List Nat} : trn ns = rvs (ns.getLastD 0) 0 ns := by
  cases ns with
  | nil => rfl
  | cons h t =>
    unfold trn
    rw [if_neg (List.cons_ne_nil _ _), rvs_eq]
    rfl
theorem Seg.rev {wd : Int} {ws : List Int} {l r : Nat} {ns : List Nat} (a : Seg wd ws l ns r) : r ≤ ws.length → Seg wd ws.reverse (ws.length - r) (rvs ws.length l ns) (ws.length - l) ∧ sc wd ws.reverse (ws.length - r) (rvs ws.length l ns) = sc wd ws l ns := by
  induction a with
  | nil => exact fun _ => ⟨.nil, rfl⟩
  | @cons l h r ns h1 h2 a ih =>
    intro hr
    have hle := a.le.1
    have e := ln_rev (ws := ws) (i := l) (j := h) (by omega) (by omega)
    obtain ⟨i1, i2⟩ := ih hr
    show Seg wd ws.reverse _ (rvs ws.length h ns ++ [ws.length - l]) _ ∧ sc wd ws.reverse _ (rvs ws.length h ns ++ [ws.length - l]) = _
    refine ⟨i1.app (.cons (by omega) (by rw [e]; exact h2) .nil), ?_⟩
    rw [sc_app, i1.last, i2]
    show sc wd ws h ns + (sq wd ws.reverse (ws.length - h) (ws.length - l) + 0) = sq wd ws l h + sc wd ws h ns
    unfold sq
    rw [e]
    omega
theorem Lay.trn {wd : Int} {ws : List Int} {ns : List Nat} (c : Lay wd ws ns ws.length) : Lay wd ws.reverse (trn ns) ws.reverse.length ∧ fc wd ws.reverse (trn ns) = fc wd ws ns := by
  have s := c.seg
  have r := s.1.rev (Nat.le_refl _)
  rw [Nat.sub_self, Nat.sub_zero] at r
  have e : LM.trn ns = rvs ws.length 0 ns := by rw [trn_rvs, c.last]
  rw [e, List.length_reverse]
  have l := r.1.lay
  exact ⟨l, by rw [l.seg.2, r.2, s.2]⟩
theorem trn_trn {wd : Int} {ws : List Int} {ns : List Nat} {n : Nat} (c : Lay wd ws ns n) : trn (trn ns) = ns := by
  rcases Nat.eq_zero_or_pos n with h0 | h0
  · subst h0; rw [c.zero]; rfl
  · obtain ⟨ms, l, rfl, c1, _⟩ := c.ne h0
    have hm : ∀ x ∈ ms, x ≤ n := fun x hx => (c.mem x (List.mem_append_left _ hx)).2
    have e1 : ∀ ms : List Nat, trn (ms ++ [n]) = ms.reverse.map (fun x => n - x) ++ [n] := fun ms => by
      unfold trn
      rw [if_neg (by simp), List.dropLast_concat, List.reverse_cons, List.map_append]
      simp
    rw [e1, e1, ← List.map_reverse, List.reverse_reverse, List.map_map]
    congr 1
    rw [List.map_congr_left (g := id) (fun x hx => by have := hm x hx; simp only [Function.comp, id]; omega), List.map_id]
theorem C_le_fc {wd : Int} {ws : List Int} (W : Wd wd ws) {ns : List Nat} (c : Lay wd ws ns ws.length) : C wd ws ws.length ≤ fc wd ws ns := (opt_full W c (Nat.le_refl _)).1
theorem C_rev {wd : Int} {ws : List Int} (W : Wd wd ws) : C wd ws.reverse ws.reverse.length = C wd ws ws.length := by
  obtain ⟨a1, a2⟩ := way_lay W ws.length (Nat.le_refl _)
  obtain ⟨b1, b2⟩ := way_lay W.rev ws.reverse.length (Nat.le_refl _)
  have a := a1.trn
  have b := b1.trn
  rw [List.reverse_reverse] at b
  have i := C_le_fc W.rev a.1
  have j := C_le_fc W b.1
  rw [a.2, a2] at i
  rw [b.2, b2] at j
  omega
end LM

/-! LS: words of the width; parts of best layouts. -/
namespace LM
open PySem
theorem best_le_closed {wd : Int} {ws : List Int} (W : Wd wd ws) : C wd ws (LS wd ws) ≤ C wd ws ws.length := by
  by_cases h : ws.length = 0
  · have e : LS wd ws = 0 := by unfold LS; rw [if_pos h]
    rw [e, h]; exact Int.le_refl _
  · obtain ⟨h1, h2, h3, h4⟩ := LS_at W (by omega)
    obtain ⟨b1, b2, b3, _⟩ := CB_at W (e := ws.length) (by omega) (Nat.le_refl _)
    have := h4 _ b1 b2
    have := (sq_bd W (i := B wd ws ws.length) (j := ws.length) (by omega) (Nat.le_refl _)).1
    omega
theorem wide_line {wd : Int} {ws : List Int} (W : Wd wd ws) {i j : Nat} (hi : i + 1 < j) (hj : j ≤ ws.length) (h : ws[j - 1]? = some wd) : wd < ln ws i j := by
  have a := sm_mono W (i := i) (j := j - 1) (by omega) (by omega)
  have b := sm_succ ws (j := j - 1) (by omega)
  have e : ws[j - 1]'(by omega) = wd := (List.getElem?_eq_some_iff.mp h).2
  rw [show j - 1 + 1 = j by omega, e] at b
  unfold ln
  have := a.1
  have := W.w1
  omega
theorem wide_line2 {wd : Int} {ws : List Int} (W : Wd wd ws) {i j : Nat} (hi : i + 1 < j) (hj : j ≤ ws.length) (h : ws[i]? = some wd) : wd < ln ws i j := by
  have a := sm_mono W (i := i + 1) (j := j) (by omega) (by omega)
  have b := sm_succ ws (j := i) (by omega)
  have e : ws[i]'(by omega) = wd := (List.getElem?_eq_some_iff.mp h).2
  rw [e] at b
  unfold ln
  have := a.1
  have := W.w1
  omega
theorem Wd.snocW {wd : Int} {ws : List Int} (W : Wd wd ws) {x : Int} (h : ws.length + 1 ≤ 1000) (h1 : 1 ≤ x) (h2 : x ≤ wd) : Wd wd (ws ++ [x]) := W.app h fun y hy => by rw [List.mem_singleton.mp hy]; exact ⟨h1, h2⟩
theorem Wd.consW {wd : Int} {ws : List Int} (W : Wd wd ws) {x : Int} (h : ws.length + 1 ≤ 1000) (h1 : 1 ≤ x) (h2 : x ≤ wd) : Wd wd ([x] ++ ws) := ⟨W.w1, W.w2, h, fun y hy => (List.mem_cons.mp hy).elim (fun e => by rw [e]; exact ⟨h1, h2⟩) (W.wrd y)⟩
/-- a word of the width behind -/
theorem LS_wide {wd : Int} {ws : List Int} (W : Wd wd ws) (h : ws.length + 1 ≤ 1000) : LS wd (ws ++ [wd]) = ws.length ∧ C wd (ws ++ [wd]) (LS wd (ws ++ [wd])) = C wd ws ws.length := by
  have W' := W.snocW h W.w1 (Int.le_refl wd)
  have hl : (ws ++ [wd]).length = ws.length + 1 := by simp
  obtain ⟨h1, h2, h3, h4⟩ := LS_at W' (by omega)
  have e : LS wd (ws ++ [wd]) = ws.length := by
    by_cases c : LS wd (ws ++ [wd]) = ws.length
    · exact c
    · exact absurd h2 (Int.not_le.mpr (wide_line W' (by omega) (Nat.le_refl _) (by rw [hl]; simp)))
  refine ⟨e, ?_⟩
  rw [e]
  exact (CB_congr (n := ws.length) (fun i j h1 h2 => ln_appL (by omega) h2) (Nat.le_refl _)).1
theorem C_wideL {wd : Int} {ws : List Int} (W : Wd wd ws) (h : ws.length + 1 ≤ 1000) : C wd ([wd] ++ ws) ([wd] ++ ws).length = C wd ws ws.length := by
  have W' := W.consW h W.w1 (Int.le_refl wd)
  have hl : ([wd] ++ ws).length = ws.length + 1 := by simp
  have mv : ∀ i j, i < j → j ≤ ws.length → i + 1 < j + 1 ∧ ln ([wd] ++ ws) (i + 1) (j + 1) = ln ws i j := fun i j h1 h2 => ⟨by omega, ln_appR (ws := [wd]) (vs := ws) (by omega) h2⟩
  have mb : ∀ i j, i < j → j ≤ ws.length + 1 → i - 1 < j - 1 ∨ i = 0 := fun i j h1 h2 => by omega
  have l01 : ln ([wd] ++ ws) 0 1 = wd := by have := ln_one W' (j := 0) (by omega); simpa using this
  have s01 : sq wd ([wd] ++ ws) 0 1 = 0 := by unfold sq; rw [l01, Int.sub_self]; rfl
  obtain ⟨a1, a2⟩ := way_lay W ws.length (Nat.le_refl _)
  obtain ⟨b1, b2⟩ := way_lay W' ([wd] ++ ws).length (Nat.le_refl _)
  have a := a1.seg
  have m := a.1.move (vs := [wd] ++ ws) (· + 1) ws.length mv (Nat.le_refl _)
  have s : Seg wd ([wd] ++ ws) 0 (1 :: (way wd ws ws.length).map (· + 1)) ([wd] ++ ws).length := .cons (by omega) (by rw [l01]; exact Int.le_refl _) (by rw [hl]; exact m.1)
  have i1 := C_le_fc W' s.lay
  rw [s.lay.seg.2] at i1
  have e1 : sc wd ([wd] ++ ws) 0 (1 :: (way wd ws ws.length).map (· + 1)) = C wd ws ws.length := by
    show sq wd ([wd] ++ ws) 0 1 + sc wd ([wd] ++ ws) 1 _ = _
    have := m.2
    rw [s01, this, ← a.2, a2]
    omega
  rw [e1] at i1
  have b := b1.seg
  have key : C wd ws ws.length ≤ fc wd ([wd] ++ ws) (way wd ([wd] ++ ws) ([wd] ++ ws).length) := by
    rw [b.2]
    have bs := b.1
    generalize way wd ([wd] ++ ws) ([wd] ++ ws).length = ns at bs
    cases ns with
    | nil => cases bs
    | cons x r =>
      cases bs with
      | cons h1 h2 c =>
        have hx : x = 1 := by
          have := c.le.1
          by_cases z : x = 1
          · exact z
          · exact absurd h2 (Int.not_le.mpr (wide_line2 W' (by omega) this (by simp)))
        subst hx
        have hn : ∀ y ∈ r, 1 < y ∧ y ≤ ([wd] ++ ws).length := c.mem
        have mk : ∀ {l : Nat} {r : List Nat} {e : Nat}, Seg wd ([wd] ++ ws) l r e → 1 ≤ l → e ≤ ws.length + 1 → Seg wd ws (l - 1) (r.map (· - 1)) (e - 1) ∧ sc wd ws (l - 1) (r.map (· - 1)) = sc wd ([wd] ++ ws) l r := by
          intro l r e c
          induction c with
          | nil => exact fun _ _ => ⟨.nil, rfl⟩
          | @cons l h e ns g1 g2 c ih =>
            intro hl he
            have hle := c.le.1
            have q := (mv (l - 1) (h - 1) (by omega) (by omega)).2
            rw [show l - 1 + 1 = l by omega, show h - 1 + 1 = h by omega] at q
            obtain ⟨i1, i2⟩ := ih (by omega) he
            show Seg wd ws (l - 1) ((h - 1) :: ns.map (· - 1)) (e - 1) ∧ _
            refine ⟨.cons (by omega) (by rw [← q]; exact g2) i1, ?_⟩
            show sq wd ws (l - 1) (h - 1) + sc wd ws (h - 1) (ns.map (· - 1)) = sq wd ([wd] ++ ws) l h + sc wd ([wd] ++ ws) h ns
            rw [i2]
            unfold sq
            rw [q]
        obtain ⟨k1, k2⟩ := mk c (Nat.le_refl _) (by omega)
        have hr : ([wd] ++ ws).length - 1 = ws.length := by omega
        rw [hr] at k1
        have j := C_le_fc W k1.lay
        rw [k1.lay.seg.2] at j
        show _ ≤ sq wd ([wd] ++ ws) 0 1 + sc wd ([wd] ++ ws) 1 r
        rw [s01, ← k2]
        simp only [Nat.sub_self] at j ⊢
        omega
  rw [b2] at key
  omega
theorem ln_all_rev {ws : List Int} : ln ws.reverse 0 ws.length = ln ws 0 ws.length := by
  have := ln_rev (ws := ws) (i := 0) (j := ws.length) (by omega) (Nat.le_refl _)
  rwa [Nat.sub_self, Nat.sub_zero] at this
end LM

/-! LT: what is behind an end of a best layout; begins of a last line. -/
namespace LM
open PySem
theorem Seg.down {wd : Int} {ws vs : List Int} {d n : Nat} (hq : ∀ i j, i < j → j + d ≤ n → ln vs i j = ln ws (i + d) (j + d)) {l r : Nat} {ns : List Nat} (c : Seg wd ws l ns r) : d ≤ l → r ≤ n → Seg wd vs (l - d) (ns.map (· - d)) (r - d) ∧ sc wd vs (l - d) (ns.map (· - d)) = sc wd ws l ns := by
  induction c with
  | nil => exact fun _ _ => ⟨.nil, rfl⟩
  | @cons l h e ns g1 g2 c ih =>
    intro hl he
    have hle := c.le.1
    have q := hq (l - d) (h - d) (by omega) (by omega)
    rw [show l - d + d = l by omega, show h - d + d = h by omega] at q
    obtain ⟨i1, i2⟩ := ih (by omega) he
    show Seg wd vs (l - d) ((h - d) :: ns.map (· - d)) (e - d) ∧ _
    refine ⟨.cons (by omega) (by rw [q]; exact g2) i1, ?_⟩
    show sq wd vs (l - d) (h - d) + sc wd vs (h - d) (ns.map (· - d)) = sq wd ws l h + sc wd ws h ns
    rw [i2]
    unfold sq
    rw [q]
theorem Seg.up {wd : Int} {ws vs : List Int} {d n : Nat} (hq : ∀ i j, i < j → j + d ≤ n → ln vs i j = ln ws (i + d) (j + d)) {l r : Nat} {ns : List Nat} (c : Seg wd vs l ns r) : r + d ≤ n → Seg wd ws (l + d) (ns.map (· + d)) (r + d) ∧ sc wd ws (l + d) (ns.map (· + d)) = sc wd vs l ns := by
  induction c with
  | nil => exact fun _ => ⟨.nil, rfl⟩
  | @cons l h e ns g1 g2 c ih =>
    intro he
    have hle := c.le.1
    have q := hq l h g1 (by omega)
    obtain ⟨i1, i2⟩ := ih he
    show Seg wd ws (l + d) ((h + d) :: ns.map (· + d)) (e + d) ∧ _
    refine ⟨.cons (by omega) (by rw [← q]; exact g2) i1, ?_⟩
    show sq wd ws (l + d) (h + d) + sc wd ws (h + d) (ns.map (· + d)) = sq wd vs l h + sc wd vs h ns
    rw [i2]
    unfold sq
    rw [q]
theorem cost_sc {wd : Int} {ws : List Int} {ns : List Nat} {e : Nat} (c : Lay wd ws ns e) : cost wd ws ns = sc wd ws 0 ns.dropLast := by
  cases c with
  | nil => rfl
  | @snoc ns l h c h1 h2 => rw [cost_snoc, c.seg.2, List.dropLast_concat]
theorem lex_app {p : List Int} (d : Int) : ∀ {a b : List Int}, (∀ y ∈ b, ∀ z ∈ p, z < y + d) → a < b → a.map (· + d) ++ p < b.map (· + d) ++ p
  | a, [], _, h => absurd h (List.not_lt_nil a)
  | [], y :: b, hz, _ => by
    show p < (y + d) :: (b.map (· + d) ++ p)
    cases p with
    | nil => exact List.nil_lt_cons ..
    | cons z p => exact List.cons_lt_cons_iff.mpr (.inl (hz y List.mem_cons_self z List.mem_cons_self))
  | x :: a, y :: b, hz, h => by
    show (x + d) :: (a.map (· + d) ++ p) < (y + d) :: (b.map (· + d) ++ p)
    rw [List.cons_lt_cons_iff] at h ⊢
    rcases h with h | ⟨h, h2⟩
    · exact .inl (by omega)
    · exact .inr ⟨by omega, lex_app d (fun y' hy => hz y' (List.mem_cons_of_mem _ hy)) h2⟩
theorem rv_app (a b : List Nat) : rv (a ++ b) = rv b ++ rv a := by unfold rv; rw [List.reverse_append, List.map_append]
theorem rv_up (a : List Nat) (d : Nat) : rv (a.map (· + d)) = (rv a).map (· + (d : Int)) := by
  unfold rv
  rw [← List.map_reverse, List.map_map, List.map_map]
  refine List.map_congr_left fun x _ => ?_
  simp
theorem map_down_up {a : List Nat} {d : Nat} (h : ∀ x ∈ a, d ≤ x) : (a.map (· - d)).map (· + d) = a := by
  rw [List.map_map]
  conv => rhs; rw [← List.map_id a]
  exact List.map_congr_left fun x hx => by have := h x hx; simp only [Function.comp, id]; omega
/-- what is behind an end of the best layout is the best layout of the words there -/
theorem best_drop {wd : Int} {ws : List Int} (W : Wd wd ws) {pre suf : List Nat} (h : bestLay wd ws = pre ++ suf) (hs : suf ≠ []) :
    pre.getLastD 0 < ws.length ∧ (∀ x ∈ suf, pre.getLastD 0 < x ∧ x ≤ ws.length) ∧ suf.map (· - pre.getLastD 0) = bestLay wd (ws.drop (pre.getLastD 0)) ∧ C wd ws (pre.getLastD 0) + C wd (ws.drop (pre.getLastD 0)) (LS wd (ws.drop (pre.getLastD 0))) = C wd ws (LS wd ws) := by
  obtain ⟨bl, bc⟩ := best_lay W
  rw [h] at bl bc
  obtain ⟨s1, s2⟩ := Seg.inv bl.seg.1
  generalize hf : pre.getLastD 0 = f at s1 s2
  have hm := s2.mem
  have hlt : f < ws.length := by
    obtain ⟨x, hx⟩ := List.exists_mem_of_ne_nil _ hs
    have := hm x hx; omega
  have hdl : (ws.drop f).length = ws.length - f := List.length_drop
  have hq : ∀ i j, i < j → j + f ≤ ws.length → ln (ws.drop f) i j = ln ws (i + f) (j + f) := fun i j h1 h2 => ln_drop (by omega) h2
  -- costs of what is put together
  have price : ∀ ms, Lay wd (ws.drop f) ms (ws.drop f).length → Lay wd ws (pre ++ ms.map (· + f)) ws.length ∧ cost wd ws (pre ++ ms.map (· + f)) = sc wd ws 0 pre + cost wd (ws.drop f) ms := fun ms c => by
    have u := c.seg.1.up hq (by omega)
    rw [hdl, Nat.zero_add, show ws.length - f + f = ws.length by omega] at u
    have L := (s1.app u.1).lay
    refine ⟨L, ?_⟩
    obtain ⟨ms0, l, rfl, c0, hl, _⟩ := c.ne (by omega)
    rw [cost_sc L, cost_sc c, List.dropLast_concat, List.map_append]
    show sc wd ws 0 (pre ++ (ms0.map (· + f) ++ [(ws.drop f).length + f])).dropLast = _
    rw [← List.append_assoc, List.dropLast_concat, sc_app, hf]
    have u0 := c0.seg.1.up hq (by omega)
    rw [Nat.zero_add] at u0
    rw [u0.2]
  have hdn : (suf.map (· - f)).map (· + f) = suf := map_down_up fun x hx => by have := hm x hx; omega
  have dn := s2.down hq (Nat.le_refl _) (Nat.le_refl _)
  rw [Nat.sub_self, ← hdl] at dn
  have Ld := dn.1.lay
  have pd := price _ Ld
  rw [hdn] at pd
  have WD := W.drop f
  have eq : suf.map (· - f) = bestLay wd (ws.drop f) := by
    refine only_best WD Ld (fun ms c => ?_) fun ms c e => ?_
    · have o := (best_opt W (price ms c).1).1
      rw [h, (price ms c).2, pd.2] at o
      omega
    · have o := (best_opt W (price ms c).1).2
      rw [h, (price ms c).2, pd.2] at o
      have o := o (by rw [e])
      rw [← hdn, rv_app, rv_app, rv_up, rv_up] at o
      refine List.not_lt.mp fun lt => ?_
      refine List.not_lt.mpr o (lex_app (f : Int) (fun y hy z hz => ?_) lt)
      unfold rv at hy hz
      obtain ⟨y', hy', rfl⟩ := List.mem_map.mp hy
      obtain ⟨z', hz', rfl⟩ := List.mem_map.mp hz
      have a1 := c.mem y' (List.mem_reverse.mp hy')
      have a2 := s1.mem z' (List.mem_reverse.mp hz')
      omega
  refine ⟨hlt, hm, eq, ?_⟩
  have bd := best_lay WD
  rw [← eq] at bd
  rw [← bd.2, ← bc, pd.2]
  have hc : sc wd ws 0 pre = C wd ws f := by
    rcases List.eq_nil_or_concat pre with e | ⟨p0, x, e⟩
    · subst e; subst hf; rfl
    · rw [List.concat_eq_append] at e
      subst e
      have hx : x = f := by rw [← hf]; simp
      subst hx
      -- a beginning of the way
      have hb : bestLay wd ws = way wd ws (LS wd ws) ++ [ws.length] := by unfold bestLay; rw [if_neg (by omega)]
      obtain ⟨s0, y, e2⟩ : ∃ s0 y, suf = s0 ++ [y] := ⟨suf.dropLast, suf.getLast hs, (List.dropLast_concat_getLast hs).symm⟩
      rw [h, e2, ← List.append_assoc] at hb
      have hw := (List.append_inj' hb rfl).1
      have hk : (way wd ws (LS wd ws))[p0.length]? = some x := by rw [← hw]; simp
      have ht := way_pre W _ (LS_le W) _ _ hk
      rw [← hw, List.append_assoc, List.take_append, List.take_of_length_le (by simp)] at ht
      have ht : p0 ++ [x] = way wd ws x := by
        rw [← ht]
        simp
      have hw2 := way_lay W x (by omega)
      rw [← ht] at hw2
      rw [← hw2.2, hw2.1.seg.2]
  rw [hc]
/-- begins of the last line -/
theorem best_eq {f : Nat → Int} {bs : List Nat} {b : Nat} (hb : b ∈ bs) (h : ∀ c ∈ bs, f b < f c ∨ (f b = f c ∧ c ≤ b)) : best f bs = (f b, -(b : Int)) := by
  obtain ⟨b', hb', e, h'⟩ := best_spec f (List.ne_nil_of_mem hb)
  have := h b' hb'
  have := h' b hb
  have e1 : b = b' := by omega
  rw [e, e1]
theorem last_range {wd : Int} {ws : List Int} (W : Wd wd ws) {lo : Nat} (h0 : lo < ws.length) (h1 : ln ws lo ws.length ≤ wd) (h2 : lo = 0 ∨ ¬ ln ws (lo - 1) ws.length ≤ wd) :
    best (C wd ws) ((List.range (ws.length - lo)).map (lo + ·)) = (C wd ws (LS wd ws), -(LS wd ws : Int)) := by
  obtain ⟨l1, l2, l3, l4⟩ := LS_at W (by omega)
  refine best_eq (List.mem_map.mpr ⟨LS wd ws - lo, List.mem_range.mpr (by omega), ?_⟩) fun c hc => ?_
  · rcases h2 with z | z
    · omega
    · have : lo ≤ LS wd ws := by
        by_cases g : lo ≤ LS wd ws
        · exact g
        · exact absurd (Int.le_trans (ln_anti W (i := LS wd ws) (i' := lo - 1) (j := ws.length) (by omega) (by omega) (Nat.le_refl _)) l2) z
      omega
  · obtain ⟨i, hi, rfl⟩ := List.mem_map.mp hc
    have hi := List.mem_range.mp hi
    exact l4 _ (by omega) (Int.le_trans (ln_anti W (i := lo) (i' := lo + i) (by omega) (by omega) (Nat.le_refl _)) h1)
open L2 QL in
theorem cut_to {α : Type} (f : α → PyData) (xs : List α) (j : Nat) (hj : j ≤ xs.length) : cutD (xs.map f) none (some (j : Int)) = (xs.take j).map f := by
  rw [QL.cutD_map]
  have h1 : HT.sIx xs.length 0 none = 0 := rfl
  rw [h1, HT.sIx_nat, Nat.min_eq_left hj, List.drop_zero, Nat.sub_zero]
open L2 QL in
theorem cut_from {α : Type} (f : α → PyData) (xs : List α) (i : Nat) (hi : i ≤ xs.length) : cutD (xs.map f) (some (i : Int)) none = (xs.drop i).map f := by
  rw [QL.cutD_map]
  have h1 : HT.sIx xs.length xs.length none = xs.length := rfl
  rw [h1, HT.sIx_nat, Nat.min_eq_left hi, List.take_of_length_le (by rw [List.length_drop]; omega)]
open L2 QL in
theorem range_from (lo n : Nat) : rangeD (lo : Int) (n - lo) = ((List.range (n - lo)).map (lo + ·)).map fun (b : Nat) => PyData.int (b : Int) := by
  unfold rangeD
  rw [List.map_map]
  refine List.map_congr_left fun x _ => ?_
  show PyData.int ((lo : Int) + (x : Int)) = PyData.int ((lo + x : Nat) : Int)
  rw [Int.natCast_add]
theorem atI_neg2 {α : Type} (xs : List α) (x y : α) : L2.atI (xs ++ [x, y]) (-2) = some x := by
  have hl : (xs ++ [x, y]).length = xs.length + 2 := by simp
  have e : L2.ixN (xs ++ [x, y]).length (-2) = some xs.length := by
    unfold L2.ixN
    rw [hl, if_neg (by decide), if_pos (by omega)]
    congr 1
    omega
  unfold L2.atI
  rw [e]
  simp
theorem way_last {wd : Int} {ws : List Int} (W : Wd wd ws) {e : Nat} (h0 : 0 < e) (he : e ≤ ws.length) : ∃ p0, 0 :: way wd ws e = p0 ++ [B wd ws e, e] := by
  obtain ⟨b1, _⟩ := CB_at W h0 he
  rw [way_step W h0 he]
  rcases Nat.eq_zero_or_pos (B wd ws e) with z | z
  · rw [z, way0]; exact ⟨[], rfl⟩
  · rw [way_step W (e := B wd ws e) z (by omega)]
    exact ⟨0 :: way wd ws (B wd ws (B wd ws e)), by simp⟩
theorem best_last {wd : Int} {ws : List Int} (W : Wd wd ws) (h0 : 0 < ws.length) : (1 < (bestLay wd ws).length → ∃ p0, bestLay wd ws = p0 ++ [LS wd ws, ws.length]) ∧ (¬ 1 < (bestLay wd ws).length → LS wd ws = 0) := by
  have hb : bestLay wd ws = way wd ws (LS wd ws) ++ [ws.length] := by unfold bestLay; rw [if_neg (by omega)]
  have hl := LS_le W
  rw [hb]
  rcases Nat.eq_zero_or_pos (LS wd ws) with z | z
  · rw [z, way0]; exact ⟨fun h => absurd h (by simp), fun _ => rfl⟩
  · rw [way_step W z hl]
    exact ⟨fun _ => ⟨_, by rw [List.append_assoc]; rfl⟩, fun h => absurd h (by simp)⟩
theorem take_len {ws : List Int} {m : Nat} (h : m ≤ ws.length) : (ws.take m).length = m := by rw [List.length_take, Nat.min_eq_left h]
theorem best_way {wd : Int} {ws : List Int} (W : Wd wd ws) (h0 : 0 < ws.length) : way wd (ws.take (LS wd ws)) (ws.take (LS wd ws)).length ++ [ws.length] = bestLay wd ws ∧ C wd (ws.take (LS wd ws)) (ws.take (LS wd ws)).length = C wd ws (LS wd ws) := by
  have hl := LS_le W
  have hb : bestLay wd ws = way wd ws (LS wd ws) ++ [ws.length] := by unfold bestLay; rw [if_neg (by omega)]
  obtain ⟨c1, _, c3⟩ := C_take W hl (Nat.le_refl _)
  rw [take_len hl, c1, c3, hb]
  exact ⟨rfl, rfl⟩
/-- ends of the best layout and what is behind them -/
theorem best_cut {wd : Int} {ws : List Int} (W : Wd wd ws) {k : Nat} (hk : k < (bestLay wd ws).length) : ∃ f : Nat, f < ws.length ∧ (k = 0 → f = 0) ∧ (0 < k → (bestLay wd ws)[k - 1]? = some f) ∧
    (bestLay wd (ws.drop f)).map (· + f) = (bestLay wd ws).drop k ∧ C wd (ws.take f) (ws.take f).length + C wd (ws.drop f) (LS wd (ws.drop f)) = C wd ws (LS wd ws) := by
  have hd : (bestLay wd ws).drop k ≠ [] := fun z => by have := congrArg List.length z; rw [List.length_drop] at this; simp at this; omega
  obtain ⟨h1, h2, h3, h4⟩ := best_drop W (List.take_append_drop k (bestLay wd ws)).symm hd
  refine ⟨_, h1, fun z => ?_, fun z => ?_, ?_, ?_⟩
  · rw [z]; rfl
  · rw [List.getLastD_eq_getLast?, List.getLast?_take, if_neg (by omega)]
    rw [List.getElem?_eq_getElem (by omega)]
    simp
  · rw [← h3]; exact map_down_up fun x hx => by have := h2 x hx; omega
  · rw [take_len (by omega), (C_take W (by omega : ((bestLay wd ws).take k).getLastD 0 ≤ ws.length) (Nat.le_refl _)).1]
    exact h4
theorem way_cut {wd : Int} {ws : List Int} (W : Wd wd ws) {k : Nat} (hk : k < (way wd ws ws.length).length) : ∃ f : Nat, f ≤ ws.length ∧ (way wd ws ws.length)[k]? = some f ∧ way wd (ws.take f) (ws.take f).length = (way wd ws ws.length).take (k + 1) := by
  have e := List.getElem?_eq_getElem hk
  have hm := (way_lay W ws.length (Nat.le_refl _)).1.mem _ (List.getElem_mem hk)
  refine ⟨_, hm.2, e, ?_⟩
  rw [take_len hm.2, (C_take W hm.2 (Nat.le_refl _)).2.2]
  exact (way_pre W _ (Nat.le_refl _) k _ e).symm
theorem closed_cost_last {wd : Int} {ws : List Int} (W : Wd wd ws) (h0 : 0 < ws.length) : cost wd ws (way wd ws ws.length) + (wd - ln ws (B wd ws ws.length) ws.length) ^ 2 = C wd ws ws.length := by
  obtain ⟨b1, b2, b3, _⟩ := CB_at W h0 (Nat.le_refl _)
  rw [way_step W h0 (Nat.le_refl _), cost_snoc, (way_lay W _ (by omega)).2, b3]
  rfl
end LM

namespace K56
open PySem PySem.Spec PyProof.Rows L2 QL
def topS (i : Nat) : Stmt := PySem.Challenge.pw_settledlines_k56_texts_shown_and_read.main.body.getD i (.Pass ⟨0, 0, 0, 0⟩)
open LM
theorem sc9 : FnScope ["_law_script", "_law_k", "_law_cell", "_law_own"] ["_law_script", "_law_k"] (defScope (topS 23)) := ⟨rfl, rfl, rfl, by decide +kernel, rfl, by decide +kernel, by decide +kernel⟩
theorem sc10 : FnScope ["_law_well_here", "_law_many", "_law_digit", "_law_prime", "_law_mixed"] ["_law_well_here", "_law_many"] (defScope (topS 24)) := ⟨rfl, rfl, rfl, by decide +kernel, rfl, by decide +kernel, by decide +kernel⟩
theorem sc11 : FnScope ["_law_well_here", "_law_some"] ["_law_well_here", "_law_some"] (defScope (topS 25)) := ⟨rfl, rfl, rfl, by decide +kernel, rfl, by decide +kernel, by decide +kernel⟩
section
variable {P : Program} {w : World} {K : PySem.W.Frag} {mg : Str → Option Value} {base : Heap} {Tq : List (Addr × Str)}
/-- the pot's state -/
def PotOk (n : Int) (a b c : Int) : Prop := 0 ≤ a ∧ (0 ≤ b ∧ b < 2305843009213693951) ∧ 0 ≤ c ∧ c ≤ n
theorem PotOk.le {n m a b c : Int} (h : PotOk n a b c) (l : n ≤ m) : PotOk m a b c := ⟨h.1, h.2.1, h.2.2.1, Int.le_trans h.2.2.2 l⟩
abbrev potD (a b c : Int) : List D := [.int a, .int b, .int c]
def spPot (K : PySem.W.Frag) : Spc := fun ts QT _ => ∃ (a : Addr) (ns : List Int) (i : Int), ts = [scT K a ns, .va (.int i)] ∧ (0 ≤ i ∧ i ≤ 100) ∧ ns.length ≤ 63 ∧ ∀ p x y, PotOk 0 x y 0 → QT (.lst p (potD x y 0)) [some (scT K a ns), none]
theorem bits60 : CPowQ (10 ^ 60) 5 := .inr ⟨by decide, by decide +kernel⟩
theorem g_pot {f : Addr} {fd : FuncData} {k : Nat} (Fn : Fun K "_law_well" "_law_well" (topS 23) f fd) (m_len : mg "len" = none) (m_abs : mg "abs" = none) (m_int : mg "int" = none) : FnG P w K mg base Tq (k + 1) f fd ["_law_script", "_law_k"] (spPot K) := by
  refine fn_g Fn sc9 (fun ts Q E h => ?_) fun cdv A outer s H E Z ts QT ET hr hgd hp tk h => ?_
  · obtain ⟨a, ns, i, rfl, _⟩ := h
    rfl
  · obtain ⟨a, ns, i, rfl, hi, hl, q⟩ := h
    have rest : ∀ m : Int, WSs Z (BX P w K mg base ["_law_script", "_law_k", "_law_cell", "_law_own"] "_law_well" (topS 23) f cdv A outer s H E) ((defBody (topS 23)).drop 1) [some (scT K a ns), some (.va (.int i)), some (.va (.int m)), none] (finP QT [scT K a ns, .va (.int i)]) := fun m => by
      refine wss_cons (ws_set 3 (w_bin dop_mul (w_bin dop_mod (w_callB dc_abs m_abs rfl ⟨rfl, (w_var 2 (⟨rfl, (w_bin dop_pow (w_bin dop_pow (w_int ((w_int (⟨rfl, rfl, ?pow1, (w_int (⟨rfl, rfl, ?pow2, ⟨rfl, rfl, ?mod3, (w_callTy dc_int m_int rfl ⟨rfl, (w_cmp dop_ge (w_callB dc_abs m_abs rfl ⟨rfl, (w_var 2 (⟨rfl, (w_bin dop_pow (w_int ((w_int (⟨rfl, rfl, ?pow4, ⟨rfl, rfl, ⟨rfl, ⟨rfl, rfl, ?mul5, ⟨Nat.lt_of_sub_eq_succ rfl, ?nx6⟩⟩⟩⟩⟩)))))⟩))⟩))⟩)⟩⟩))⟩))))))⟩))⟩))) sc9.nd)
      case pow1 => exact .inl ⟨by decide, by decide, by decide⟩
      case pow2 => exact bits60
      case mod3 => exact of_decide_eq_true (p := (0 : Int) < (10 ^ (60 : Int).toNat) ^ (5 : Int).toNat) (by decide +kernel)
      case pow4 => exact .inl ⟨by decide, by decide, by decide⟩
      case mul5 => exact cmul_r (by split <;> decide) (by split <;> decide)
      case nx6 =>
        refine wss_one (ws_ret (w_lst ⟨rfl, (w_var 3 (⟨rfl, (w_bin dop_mod (w_bin dop_add (w_bin dop_add (w_bin dop_mul (w_bin dop_mod (w_var 2 ((w_int (⟨rfl, rfl, ?mod1, (w_int (⟨rfl, rfl, ?mul2, (w_bin dop_mul (w_bin dop_mul (w_int ((w_var 1 (⟨rfl, rfl, ?mul3, (w_var 1 (⟨rfl, rfl, ?mul4, ⟨rfl, rfl, (w_int (⟨rfl, rfl, (w_int (⟨rfl, rfl, ?mod5, ⟨rfl, (w_int (⟨?sz6, fun p => ?ret7⟩))⟩⟩))⟩))⟩⟩))⟩))))))⟩))⟩)))))))))⟩))⟩))
        case mod1 => exact (by decide : (0 : Int) < 2305843009213693951)
        case mul2 => exact cmul_r (by decide) (by decide)
        case mul3 => exact cmul_l (by decide) (by decide)
        case mul4 => exact cmul_r (by omega) (by omega)
        case mod5 => exact (by decide : (0 : Int) < 2305843009213693921)
        case sz6 => exact Nat.le_of_lt (small2000 (n := 3) (by decide))
        case ret7 =>
          refine ⟨rfl, q p _ _ ⟨?_, ⟨Int.emod_nonneg _ (by decide), ?_⟩, Int.le_refl 0, Int.le_refl 0⟩⟩
          · refine Int.mul_nonneg (Int.emod_nonneg _ (by decide +kernel)) (by split <;> decide)
          · exact Int.lt_trans (Int.emod_lt_of_pos _ (by decide)) (by decide)
    refine wss_cons (ws_set 2 (w_ifExp (wt_cmp dop_lt (w_var 1 (w_scLen 0 m_len rfl ⟨rfl, rfl, ⟨_, rfl, fun h => ?_, fun h => ?_⟩⟩)))) sc9.nd)
    · have h1 : i < ns.length := of_decide_eq_true h
      have e : ns[i.toNat]? = some ns[i.toNat] := List.getElem?_eq_getElem (by omega)
      have ei : i = ((i.toNat : Nat) : Int) := by omega
      exact w_scIx 0 1 (m := ns[i.toNat]) rfl rfl ((congrArg (atI ns) ei).trans (atI_nat e)) ⟨Nat.lt_of_sub_eq_succ rfl, rest _⟩
    · exact w_bin dop_add (w_bin dop_mul (w_int (w_var 1 ⟨rfl, rfl, cmul_l (by decide) (by decide), (w_int ⟨rfl, rfl, ⟨Nat.lt_of_sub_eq_succ rfl, rest _⟩⟩)⟩)))
def spTake : Spc := fun ts QT _ => ∃ (p : Addr) (n a b c u : Int), ts = [.lst p (potD a b c), .va (.int u)] ∧ PotOk n a b c ∧ n ≤ 1000000 ∧ (0 < u ∧ u ≤ 1000000000000) ∧ ∀ a' b' c' d, PotOk (n + 1) a' b' c' → 0 ≤ d → d < u → QT (.va (.int d)) [some (.lst p (potD a' b' c')), none]
theorem ix5 (m : Int) : ∃ d, atI [PyData.int 2147483647, .int 2147483629, .int 2147483587, .int 2147483579, .int 2147483563] (m % 5) = some (.int d) ∧ 0 < d ∧ d ≤ 2147483647 := by
  have h0 := Int.emod_nonneg m (b := 5) (by decide)
  have h1 := Int.emod_lt_of_pos m (b := 5) (by decide)
  have : m % 5 = 0 ∨ m % 5 = 1 ∨ m % 5 = 2 ∨ m % 5 = 3 ∨ m % 5 = 4 := by omega
  rcases this with e | e | e | e | e <;> rw [e] <;> exact ⟨_, rfl, by decide, by decide⟩
theorem g_take {f : Addr} {fd : FuncData} {k : Nat} (Fn : Fun K "_law_draw" "_law_draw" (topS 24) f fd) : FnG P w K mg base Tq (k + 1) f fd ["_law_well_here", "_law_many"] spTake := by
  refine fn_g Fn sc10 (fun ts Q E h => ?_) fun cdv A outer s H E Z ts QT ET hr hgd hp tk h => ?_
  · obtain ⟨p, n, a, b, c, u, rfl, _⟩ := h
    rfl
  · obtain ⟨p, n, a, b, c, u, rfl, ⟨ha, ⟨hb0, hb⟩, hc0, hc⟩, hn, ⟨hu0, hu⟩, q⟩ := h
    refine wss_cons (ws_if (wt_cmp dop_gt (w_ix (w_var 0 ((w_int (⟨rfl, rfl, _, rfl, (w_int (⟨rfl, rfl, _, rfl, ⟨fun h => ?then2, fun h => ?else3⟩⟩))⟩)))))))
    case then2 =>
      refine wss_cons (ws_set 2 (w_bin dop_mod (w_ix (w_var 0 ((w_int (⟨rfl, rfl, _, rfl, (w_var 1 (⟨rfl, rfl, hu0, ⟨Nat.lt_of_sub_eq_succ rfl, ?nxa⟩⟩))⟩)))))) sc10.nd)
      refine wss_cons (ws_setix (w_bin dop_fdiv (w_ix (w_var 0 ((w_int (⟨rfl, rfl, _, rfl, (w_var 1 (⟨rfl, rfl, ⟨hu0, by omega⟩, (w_var 0 (⟨_, _, _, rfl, (w_int (⟨_, rfl, _, _, 0, rfl, rfl, rfl, ?nxb⟩))⟩))⟩))⟩)))))))
      refine wss_one (ws_ret (w_var 2 ?_))
      have ha' : 0 ≤ a / u := Int.ediv_nonneg ha (Int.le_of_lt hu0)
      exact ⟨rfl, q _ _ _ _ ⟨ha', ⟨hb0, hb⟩, hc0, by omega⟩ (Int.emod_nonneg _ (by omega)) (Int.emod_lt_of_pos _ hu0)⟩
    case else3 =>
      refine wss_nil ?_
      refine wss_cons (ws_setix (w_bin dop_add (w_ix (w_var 0 ((w_int (⟨rfl, rfl, _, rfl, (w_int (⟨rfl, rfl, (w_var 0 (⟨_, _, _, rfl, (w_int (⟨_, rfl, _, _, 2, rfl, rfl, rfl, ?nxc⟩))⟩))⟩))⟩)))))))
      obtain ⟨pr, hpr, hp0, hp1⟩ := ix5 (c + 1)
      refine wss_cons (ws_set 3 (w_ix (w_lst ⟨rfl, (w_int (⟨rfl, (w_int (⟨rfl, (w_int (⟨rfl, (w_int (⟨rfl, (w_int (⟨Nat.le_of_lt (small2000 (n := 5) (by decide)), fun p => (w_bin dop_mod (w_ix (w_var 0 ((w_int (⟨rfl, rfl, _, rfl, (w_int (⟨rfl, rfl, (by decide : (0 : Int) < 5), ⟨rfl, rfl, _, hpr, ⟨Nat.lt_of_sub_eq_succ rfl, ?nxd⟩⟩⟩))⟩))))))⟩))⟩))⟩))⟩))⟩))⟩)) sc10.nd)
      refine wss_cons (ws_set 4 (w_bin dop_mod (w_bin dop_pow (w_bin dop_add (w_bin dop_add (w_ix (w_var 0 ((w_int (⟨rfl, rfl, _, rfl, (w_bin dop_mul (w_bin dop_mul (w_int ((w_ix (w_var 0 ((w_int (⟨rfl, rfl, _, rfl, ⟨rfl, rfl, ?mulA, (w_ix (w_var 0 ((w_int (⟨rfl, rfl, _, rfl, ⟨rfl, rfl, ?mulB, ⟨rfl, rfl, (w_int (⟨rfl, rfl, (w_int (⟨rfl, rfl, ?pow6, (w_var 3 (⟨rfl, rfl, hp0, ⟨Nat.lt_of_sub_eq_succ rfl, ?nx8⟩⟩))⟩))⟩))⟩⟩⟩)))))⟩⟩)))))))))⟩))))))))) sc10.nd)
      case mulA => exact cmul_l (by decide) (by decide)
      case mulB => exact cmul_r (by omega) (by omega)
      case pow6 =>
        have h1 : 65537 * (c + 1) * (c + 1) ≤ 65537 * 1000001 * 1000001 := Int.mul_le_mul (by omega) (by omega) (by omega) (by decide)
        have h2 : 0 ≤ 65537 * (c + 1) * (c + 1) := Int.mul_nonneg (by omega) (by omega)
        refine .inl ⟨by decide, by decide, ?_⟩
        have h3 : 0 ≤ b + 65537 * (c + 1) * (c + 1) + 37 := by omega
        have h4 : b + 65537 * (c + 1) * (c + 1) + 37 < 2 ^ 64 := by omega
        omega
      case nx8 =>
        have m0 := Int.emod_nonneg ((b + 65537 * (c + 1) * (c + 1) + 37) ^ (3 : Int).toNat) (b := pr) (by omega)
        have m1 := Int.emod_lt_of_pos ((b + 65537 * (c + 1) * (c + 1) + 37) ^ (3 : Int).toNat) hp0
        refine wss_one (ws_ret (w_bin dop_mod (w_bin dop_fdiv (w_bin dop_mod (w_bin dop_mul (w_var 4 ((w_bin dop_add (w_bin dop_mod (w_var 4 ((w_int (⟨rfl, rfl, (by decide : (0 : Int) < 10007), (w_bin dop_mul (w_int ((w_ix (w_var 0 ((w_int (⟨rfl, rfl, _, rfl, ⟨rfl, rfl, ?mul3, ⟨rfl, rfl, ⟨rfl, rfl, ?mul4, (w_int (⟨rfl, rfl, (by decide : (0 : Int) < 2305843009213693907), (w_int (⟨rfl, rfl, ⟨by decide, by decide⟩, (w_var 1 (⟨rfl, rfl, hu0, ?ret8⟩))⟩))⟩))⟩⟩⟩⟩))))))))⟩)))))))))))))
        case mul3 => exact cmul_l (by decide) (by decide)
        case mul4 => exact cmul_l (Int.lt_of_lt_of_le (by decide) m0) (Int.lt_trans m1 (Int.lt_of_le_of_lt hp1 (by decide)))
        case ret8 => exact ⟨rfl, q _ _ _ _ ⟨ha, ⟨hb0, hb⟩, by omega, by omega⟩ (Int.emod_nonneg _ (by omega)) (Int.emod_lt_of_pos _ hu0)⟩
/-- what a draw from some things gives -/
def spOf : Spc := fun ts QT _ => ∃ (p : Addr) (n a b c : Int) (ds : List D) (t2 : T) (r2 : Option T), ts = [.lst p (potD a b c), t2] ∧ ((t2 = .va (.list ds) ∧ r2 = none) ∨ ∃ q, t2 = .lst q ds ∧ r2 = some (.lst q ds)) ∧ PotOk n a b c ∧ n ≤ 1000000 ∧ (0 < ds.length ∧ ds.length ≤ 100000) ∧
  ∀ a' b' c' d, PotOk (n + 1) a' b' c' → d ∈ ds → QT (.va d) [some (.lst p (potD a' b' c')), r2]
theorem at_pos {ds : List D} {d : Int} (h0 : 0 ≤ d) (h1 : d < ds.length) : ∃ y, atI ds d = some y ∧ y ∈ ds := by
  have hl : d.toNat < ds.length := by omega
  have e : ds[d.toNat]? = some ds[d.toNat] := List.getElem?_eq_getElem hl
  have ed : d = ((d.toNat : Nat) : Int) := by omega
  exact ⟨_, (congrArg (atI ds) ed).trans (atI_nat e), List.getElem_mem hl⟩
theorem g_of {f : Addr} {fd : FuncData} {k : Nat} (Fn : Fun K "_law_pick" "_law_pick" (topS 25) f fd) (G__law_draw : Df P w K mg base Tq (k + 1) "_law_draw" ["_law_well_here", "_law_many"] spTake) (m_len : mg "len" = none) : FnG P w K mg base Tq (k + 2) f fd ["_law_well_here", "_law_some"] spOf := by
  refine fn_g Fn sc11 (fun ts Q E h => ?_) fun cdv A outer s H E Z ts QT ET hr hgd hp tk h => ?_
  · obtain ⟨p, n, a, b, c, ds, t2, r2, rfl, _⟩ := h
    rfl
  · obtain ⟨p, n, a, b, c, ds, t2, r2, rfl, h2, hpot, hn, ⟨hl0, hl⟩, q⟩ := h
    rcases h2 with ⟨rfl, rfl⟩ | ⟨z, rfl, rfl⟩
    · refine wss_one (ws_ret (w_ix (w_var 1 ((w_fn G__law_draw hr hgd ⟨rfl, (w_var 0 (⟨rfl, (w_callB dc_len m_len rfl ⟨rfl, (w_var 1 (⟨rfl, ?call1⟩))⟩)⟩))⟩)))))
      refine ⟨rfl, p, n, a, b, c, (ds.length : Int), rfl, hpot, hn, ⟨by omega, by omega⟩, fun a' b' c' d hpot' h0 h1 => ?_⟩
      obtain ⟨y, hy, hm⟩ := at_pos h0 h1
      exact ⟨rfl, rfl, rfl, rfl, y, hy, rfl, q _ _ _ _ hpot' hm⟩
    · refine wss_one (ws_ret (w_ix (w_var 1 ((w_fn G__law_draw hr hgd ⟨rfl, (w_var 0 (⟨rfl, (w_callB dc_len m_len rfl ⟨rfl, (w_var 1 (⟨rfl, ?call2⟩))⟩)⟩))⟩)))))
      refine ⟨rfl, p, n, a, b, c, (ds.length : Int), rfl, hpot, hn, ⟨by omega, by omega⟩, fun a' b' c' d hpot' h0 h1 => ?_⟩
      obtain ⟨y, hy, hm⟩ := at_pos h0 h1
      exact ⟨rfl, rfl, rfl, rfl, y, hy, rfl, rfl, q _ _ _ _ hpot' hm⟩
end
section
variable {P : Program} {w : World} {K : PySem.W.Frag} {mg : Str → Option Value} {base : Heap} {Tq : List (Addr × Str)}
def spOfI : Spc := fun ts QT _ => ∃ (p : Addr) (n a b c : Int) (xs : List Int) (lo hi : Int) (t2 : T) (r2 : Option T), ts = [.lst p (potD a b c), t2] ∧ ((t2 = .va (.list (iDs xs)) ∧ r2 = none) ∨ ∃ q, t2 = .lst q (iDs xs) ∧ r2 = some (.lst q (iDs xs))) ∧ PotOk n a b c ∧ n ≤ 1000000 ∧ (0 < xs.length ∧ xs.length ≤ 100000) ∧ (∀ x ∈ xs, lo ≤ x ∧ x ≤ hi) ∧
  ∀ a' b' c' x, PotOk (n + 1) a' b' c' → lo ≤ x → x ≤ hi → x ∈ xs → QT (.va (.int x)) [some (.lst p (potD a' b' c')), r2]
theorem g_ofI {f : Addr} {fd : FuncData} {k : Nat} (Fn : Fun K "_law_pick" "_law_pick" (topS 25) f fd) (G__law_draw : Df P w K mg base Tq (k + 1) "_law_draw" ["_law_well_here", "_law_many"] spTake) (m_len : mg "len" = none) : FnG P w K mg base Tq (k + 2) f fd ["_law_well_here", "_law_some"] spOfI :=
  (g_of Fn G__law_draw m_len).weaken fun ts QT ET ⟨p, n, a, b, c, xs, lo, hi, t2, r2, e, h0, h1, h2, h3, h4, q⟩ => ⟨p, n, a, b, c, iDs xs, t2, r2, e, h0, h1, h2, by rw [List.length_map]; exact h3, fun a' b' c' d hp hm => by
    obtain ⟨x, hx, rfl⟩ := List.mem_map.mp hm
    exact q a' b' c' x hp (h4 x hx).1 (h4 x hx).2 hx⟩
end
end K56

/-! QS: a, b, c = x, y, z. -/
namespace QL
open PySem PySem.Spec PyProof.Rows L2
section
variable {Tq : List (Addr × Str)} {Z : Zb Tq} {X : Cx} {env : Env} {PO : Out → Prop} {a b c : Expr} {pos : Pos}
theorem ws_par3 (i j l : Nat) {x y z : Str} {px py pz pt : Pos} {kt k2 pt2} (hc : X.calm = true) (hN : X.N.Nodup)
    (h : WAs Z X [a, b, c] env fun as e1 => absorb as e1 fun ds e2 => ∃ d1 d2 d3, ds = [d1, d2, d3] ∧ i < e2.length ∧ j < e2.length ∧ l < e2.length ∧ PO (.nx (((e2.set i (some (.va d1))).set j (some (.va d2))).set l (some (.va d3)))))
    (hi : X.N[i]? = some x := by rfl) (hj : X.N[j]? = some y := by rfl) (hl : X.N[l]? = some z := by rfl) (hij : i ≠ j := by decide) (hil : i ≠ l := by decide) (hjl : j ≠ l := by decide)
    (hx : X.env.scope.names.lookup x = some .local := by rfl) (hy : X.env.scope.names.lookup y = some .local := by rfl) (hz : X.env.scope.names.lookup z = some .local := by rfl)
    (hw : swappedStores [.Tuple [.Name x px, .Name y py, .Name z pz] kt pt] (.Tuple [a, b, c] k2 pt2) X.env = pure (some [x, y, z]) := by rfl)
    (hs : swapsWithSole [.Tuple [.Name x px, .Name y py, .Name z pz] kt pt] (.Tuple [a, b, c] k2 pt2) pos.line X.env = pure false := by rfl) :
    WS Z X (.Assign [.Tuple [.Name x px, .Name y py, .Name z pz] kt pt] (.Tuple [a, b, c] k2 pt2) pos) env PO :=
  ws_of (ps_par3 hc hN hi hj hl hij hil hjl hx hy hz (pa_As (Z := Z)) hw hs) fun σ H F O b0 o => by
    refine ⟨env, F, O, _, b0, o, h, fun vs H1 ⟨F1, O1, as, e1, b1, o1, st1, fr1, h1⟩ => ?_⟩
    obtain ⟨F2, O2, ds, e2, b2, o2, r2, fr2, d1, d2, d3, hd, li, lj, ll, p⟩ := absorb_ok st1 b1 o1 h1
    subst hd
    cases r2 with
    | @cons v1 _ _ _ q1 r2 =>
    cases r2 with
    | @cons v2 _ _ _ q2 r2 =>
    cases r2 with
    | @cons v3 _ _ _ q3 r2 =>
    cases r2
    obtain ⟨O5, P5, o5, p5⟩ := o2.set i (.va q1) li
    obtain ⟨O6, P6, o6, p6⟩ := o5.set j (.va q2) (by rw [List.length_set]; exact lj)
    obtain ⟨O7, P7, o7, p7⟩ := o6.set l (.va q3) (by rw [List.length_set, List.length_set]; exact ll)
    rw [List.nil_append] at p5 p6 p7
    obtain ⟨b5, f5⟩ := b2.dropP p5
    obtain ⟨b6, f6⟩ := b5.dropP p6
    obtain ⟨b7, f7⟩ := b6.dropP p7
    exact ⟨v1, v2, v3, rfl, F2, O7, _, b7, o7, (((fr1.trans fr2).trans f5).trans f6).trans f7, p⟩
theorem rgV_rp {F : Hp} (i j : Int) : RpA F (rgV i j) (rangeD i (j - i).toNat) := by
  unfold rgV rangeD
  generalize List.range (j - i).toNat = ks
  induction ks with
  | nil => exact .nil
  | cons k ks ih => exact .cons (.int _) ih
section
variable {P : R → Env → Prop} {p p2 pos2 : Pos}
theorem w_tupRg2 (hc : X.calm = true) (hm : X.mg "tuple" = none) (hm2 : X.mg "range" = none)
    (h : WE Z X a env fun r1 e1 => ∃ i, r1 = .t (.va (.int i)) ∧ WE Z X b e1 fun r2 e2 => ∃ j, r2 = .t (.va (.int j)) ∧ RgOk i j ∧ P (.t (.va (.tuple (rangeD i (j - i).toNat)))) e2)
    (hg : Gl X "tuple" := by rfl) (hg2 : Gl X "range" := by rfl)
    (na : starEach [a, b] X.env = (false, eval a X.env) :: starEach [b] X.env := by rfl) (nb : starEach [b] X.env = (false, eval b X.env) :: starEach [] X.env := by rfl) (hp : (backTo pos2 (starEach [b] X.env)).any (·.1) = false := by rfl)
    (hs : starEach [.Call (.Name "range" p2) [a, b] [] pos2] X.env = (false, eval (.Call (.Name "range" p2) [a, b] [] pos2) X.env) :: starEach [] X.env := by rfl) :
    WE Z X (.Call (.Name "tuple" p) [.Call (.Name "range" p2) [a, b] [] pos2] [] pos) env P :=
  we_of (pe_tupRg hc hg hm (prg_2 hg2 hm2 (pe_E (Z := Z)) (pe_E (Z := Z)) na nb hp) hs) fun σ H F O b0 o => ⟨env, F, O, _, b0, o, h, fun x H1 h1 => by
    obtain ⟨i, F1, O1, e1, rfl, b1, o1, fr1, p⟩ := post_int h1
    exact ⟨e1, F1, O1, _, b1, o1, p, fun y H2 h2 => by
      obtain ⟨j, F2, O2, e2, rfl, b2, o2, fr2, ok, p⟩ := post_int h2
      exact ⟨i, j, rfl, rfl, ok, fun q hq => ((NewV.tup b2.sub (rgV_rp i j) hq (k := fun t => t = .va (.tuple (rangeD i (j - i).toNat))) rfl).post b2 o2 (fun t e => by subst e; exact p)).from (fr1.trans fr2)⟩⟩⟩
theorem w_lstRg2 (hc : X.calm = true) (hm : X.mg "list" = none) (hm2 : X.mg "range" = none)
    (h : WE Z X a env fun r1 e1 => ∃ i, r1 = .t (.va (.int i)) ∧ WE Z X b e1 fun r2 e2 => ∃ j, r2 = .t (.va (.int j)) ∧ RgOk i j ∧ ∀ q, P (.t (.lst q (rangeD i (j - i).toNat))) e2)
    (hg : Gl X "list" := by rfl) (hg2 : Gl X "range" := by rfl)
    (na : starEach [a, b] X.env = (false, eval a X.env) :: starEach [b] X.env := by rfl) (nb : starEach [b] X.env = (false, eval b X.env) :: starEach [] X.env := by rfl) (hp : (backTo pos2 (starEach [b] X.env)).any (·.1) = false := by rfl)
    (hs : starEach [.Call (.Name "range" p2) [a, b] [] pos2] X.env = (false, eval (.Call (.Name "range" p2) [a, b] [] pos2) X.env) :: starEach [] X.env := by rfl) :
    WE Z X (.Call (.Name "list" p) [.Call (.Name "range" p2) [a, b] [] pos2] [] pos) env P :=
  we_of (pe_listRg hc hg hm (prg_2 hg2 hm2 (pe_E (Z := Z)) (pe_E (Z := Z)) na nb hp) hs) fun σ H F O b0 o => ⟨env, F, O, _, b0, o, h, fun x H1 h1 => by
    obtain ⟨i, F1, O1, e1, rfl, b1, o1, fr1, p⟩ := post_int h1
    exact ⟨e1, F1, O1, _, b1, o1, p, fun y H2 h2 => by
      obtain ⟨j, F2, O2, e2, rfl, b2, o2, fr2, ok, p⟩ := post_int h2
      exact ⟨i, j, rfl, rfl, ok, fun q hq => ((NewV.lst b2.sub (rgV_rp i j) hq (k := fun t => t = .lst q (rangeD i (j - i).toNat)) rfl).post b2 o2 (fun t e => by subst e; exact p q)).from (fr1.trans fr2)⟩⟩⟩
end
end
end QL

/-! QT: dicts: d[k]; dicts locked for good. -/
namespace QL
open PySem PySem.Spec PyProof.Rows L2
def valT (kvs : List (Key × D)) (k : Key) : Option D := (kvs.find? fun kv => decide (kv.1 = k)).map (·.2)
theorem kD_inj : ∀ {a b : Key}, kD a = kD b → a = b
  | .inl _, .inl _, h => by cases h; rfl
  | .inr _, .inr _, h => by cases h; rfl
  | .inl _, .inr _, h => nomatch h
  | .inr _, .inl _, h => nomatch h
theorem RpK.val {F : Hp} : ∀ {kvs : List (Key × V)} {ds : List (Key × D)} {k : Key} {d : D}, RpK F kvs (ds.map fun p => (kD p.1, p.2)) → valT ds k = some d → ∃ v, valV kvs k = some v ∧ Rp F v d
  | [], [], k, d, _, h => nomatch h
  | [], q :: ds, k, d, r, h => nomatch r
  | p :: kvs, [], k, d, r, h => nomatch r
  | p :: kvs, q :: ds, k, d, r, h => by
    obtain ⟨k1, v1⟩ := p
    obtain ⟨k2, d2⟩ := q
    have r' : RpK F ((k1, v1) :: kvs) ((kD k2, d2) :: ds.map fun p => (kD p.1, p.2)) := r
    generalize hz : kD k2 = z at r'
    cases r' with
    | cons r1 r2 =>
      have ek : k2 = k1 := kD_inj hz
      subst ek
      unfold valT valV at *
      rw [List.find?_cons] at h ⊢
      by_cases e : k2 = k
      · simp only [e, decide_true] at h ⊢
        cases h
        exact ⟨v1, rfl, r1⟩
      · simp only [e, decide_false] at h ⊢
        exact RpK.val r2 h
def dixG (d1 d2 : D) (k : T → Prop) : Prop := ∃ (kvs : List (Key × D)) (y : Key) (v : D), d1 = .dict (kvs.map fun p => (kD p.1, p.2)) ∧ d2 = kD y ∧ valT kvs y = some v ∧ k (.va v)
section
variable {Tq : List (Addr × Str)} {Z : Zb Tq} {X : Cx} {env : Env} {P : R → Env → Prop} {a b : Expr} {pos : Pos}
theorem Rp.key {F : Hp} {v : V} {y : Key} (r : Rp F v (kD y)) : v = kV y := by
  cases y with
  | inl i => cases r; rfl
  | inr x => cases r; rfl
theorem w_dix (hu : X.A.units + 1 < cLine) (h : WA Z X a env fun a1 e1 => WA Z X b e1 fun a2 e2 => View a1 e2 fun d1 => View a2 e2 fun d2 => dixG d1 d2 fun t => P (.t t) e2) (hs : NoSl b := by intro _ _; rfl) : WE Z X (.Subscript a b pos) env P :=
  we_of (pe_dget hu (pe_A (Z := Z)) (pe_A (Z := Z)) hs) fun σ H F O b0 o => ⟨env, F, O, _, b0, o, h, fun x H1 ⟨F1, O1, a1, e1, b1, o1, st1, fr1, h1⟩ => ⟨e1, F1, O1, _, b1, o1, h1, fun y H2 ⟨F2, O2, a2, e2, b2, o2, st2, fr2, h2⟩ => by
    obtain ⟨d1, w1, h3⟩ := View.vw h2 o2 (st1.mono fr2.fz)
    obtain ⟨d2, w2, kvs, k, v, rfl, rfl, hv, q⟩ := View.vw h3 o2 st2
    have ey : y = kV k := by
      cases k with
      | inl i => cases w2; rename_i r; exact r.key (y := .inl i)
      | inr x => cases w2; rename_i r; exact r.key (y := .inr x)
    cases w1 with
    | pure r =>
      cases r with
      | dic hd rk =>
        obtain ⟨z, hz, rz⟩ := RpK.val rk hv
        refine ⟨_, z, rfl, .inl ⟨_, k, rd_mono b2.sub hd, ey, hz.symm⟩, ?_⟩
        exact ⟨F2, O2, .t (.va v), e2, b2, ⟨O2, [], (List.append_nil O2).symm, o2, .va rz⟩, fr1.trans fr2, q⟩
    | dic hd rk =>
      obtain ⟨z, hz, rz⟩ := RpK.val rk hv
      refine ⟨_, z, rfl, .inl ⟨_, k, .inl hd, ey, hz.symm⟩, ?_⟩
      exact ⟨F2, O2, .t (.va v), e2, b2, ⟨O2, [], (List.append_nil O2).symm, o2, .va rz⟩, fr1.trans fr2, q⟩⟩⟩
theorem RpT.at_ {F : Hp} : ∀ {vs : List (Key × V)} {ds : List (Key × D)} {i : Nat} {k : Key} {d : D}, RpT F vs ds → ds[i]? = some (k, d) → ∃ v, vs[i]? = some (k, v) ∧ Rp F v d
  | _, _, i, k, d, .nil, h => by simp at h
  | _, _, 0, k, d, .cons r _, h => by simp at h; obtain ⟨rfl, rfl⟩ := h; exact ⟨_, rfl, r⟩
  | _, _, i + 1, k, d, .cons _ r, h => by
    rw [List.getElem?_cons_succ] at h ⊢
    exact RpT.at_ r h
theorem RpT.len {F : Hp} : ∀ {vs : List (Key × V)} {ds : List (Key × D)}, RpT F vs ds → vs.length = ds.length
  | _, _, .nil => rfl
  | _, _, .cons _ r => congrArg (· + 1) r.len
theorem rp_key {F : Hp} : ∀ (k : Key), Rp F (kV k) (kD k)
  | .inl i => .int i
  | .inr x => .str x
theorem gives_items {a : Addr} {o : Obj} {vs : List (Key × V)} {ds : List (Key × D)} {F : Hp} (h : F a = some (.frz o (.dK vs))) (r : RpT F vs ds) : Gives (Iti a o vs) (ds.map fun p => PyData.tuple [kD p.1, p.2]) F := fun F' H' s1 s2 i => by
  have q := s2 _ _ (s1 _ _ h)
  have hl := r.len
  refine ⟨fun d hd => ?_, fun hn => ?_⟩
  · rw [List.getElem?_map, Option.map_eq_some_iff] at hd
    obtain ⟨⟨k, d1⟩, hz, e⟩ := hd
    subst e
    obtain ⟨v1, g1, w1⟩ := r.at_ hz
    refine ⟨⟨q, (List.getElem?_eq_some_iff.mp g1).1⟩, fun v H'' ⟨T, k2, v2, g2, ev, hT, eH⟩ => ?_⟩
    subst ev eH
    have e1 := g2.symm.trans g1
    cases e1
    have nf : F' T = none := s2.free hT
    refine ⟨upd F' T (.tup [kV k, v1]), .tup upd_same (.cons (rp_key k) (.cons (w1.mono (s1.trans (same_new nf))) .nil)), same_new nf, same_new hT, same_upd2 s2, fun c hc => ?_⟩
    by_cases z : c = T
    · subst z; exact .inr hT
    · rw [upd_ne z] at hc; exact .inl hc
  · rw [List.getElem?_eq_none_iff, List.length_map] at hn
    exact ⟨q, by omega⟩
def itemsR (r : R) (e1 : Env) (k : List D → Prop) : Prop := match r with
  | .bor a i p => match getP i p e1 with
    | some (.fdc a' kvs) => a' = a ∧ k (kvs.map fun p => PyData.tuple [kD p.1, p.2])
    | _ => False
  | _ => False
theorem wi_items {P : List D → Env → Prop} {e : Expr} {apos cpos tpos : Pos} {elts : List Expr} {kk : Nat} (h : WE Z X e env fun r e1 => itemsR r e1 fun xs => P xs e1)
    (hbase : attributeBase e "items" X.env (eval e X.env) = eval e X.env := by rfl) (hline : (apos.endLine == cpos.line) = true := by rfl) :
    WI Z X (.Tuple elts kk tpos) (.Call (.Attribute e "items" apos) [] [] cpos) env P :=
  wi_of (pi_items (pe_E (Z := Z)) hbase hline) fun σ H F O b0 o0 => ⟨env, F, O, _, b0, o0, h, fun x H1 ⟨F1, O1, r, e1, b1, st, fr, q⟩ => by
    unfold itemsR at q
    cases r with
    | t t => exact q.elim
    | bor a i p =>
      simp only at q
      obtain ⟨o1, ex⟩ := st
      subst ex
      cases hg : getP i p e1 with
      | none => rw [hg] at q; exact q.elim
      | some u =>
        rw [hg] at q
        obtain ⟨w, ⟨Oj, O', h1, _, _⟩, _⟩ := o1.focus hg
        cases h1 with
        | fdc hf rt =>
          obtain ⟨rfl, q⟩ := q
          exact ⟨_, _, _, rfl, b1.sub _ _ hf, F1, O1, _, e1, b1, o1, fr, gives_items hf rt, q⟩
        | _ => exact q.elim⟩
end
end QL

/-! QTd: a dict comprehension whose dict is locked for good. -/
namespace QL
open PySem PySem.Spec PyProof.Rows L2
/-- as a value that is locked from now on -/
def tDcL (wi : TI) (g : TG) (tt : TT) (tk tv : TE) (vs : List Nat) : TE := fun σ H Q => tDc wi g tt tk tv vs σ H fun v H1 => ∃ D kvs, v = .ref D ∧ H1 D = some (.dK kvs) ∧ ∀ od, Q v (upd H1 D (.frz od (.dK kvs)))
theorem RpT.app {F : Hp} {k : Key} {v : V} {d : D} : ∀ {vs : List (Key × V)} {ds : List (Key × D)}, RpT F vs ds → Rp F v d → RpT F (vs ++ [(k, v)]) (ds ++ [(k, d)])
  | _, _, .nil, r => .cons r .nil
  | _, _, .cons r1 r2, r => .cons r1 (r2.app r)
theorem RpT.put {F : Hp} {k : Key} {v : V} {d : D} {vs : List (Key × V)} {ds : List (Key × D)} (r : RpT F vs ds) (q : Rp F v d) (h : ∀ p ∈ ds, p.1 ≠ k) : RpT F (putK vs k v) (ds ++ [(k, d)]) := by
  have e : (vs.any fun kv => decide (kv.1 = k)) = false := by
    induction r with
    | nil => rfl
    | cons r1 r2 ih =>
      rw [List.any_cons, ih fun p hp => h p (List.mem_cons_of_mem _ hp), decide_eq_false (h _ List.mem_cons_self)]
      rfl
  unfold putK
  rw [e, if_neg (by decide)]
  exact r.app q
section
variable {Tq : List (Addr × Str)} {Z : Zb Tq} {X : Cx} {env : Env} {PR : R → Env → Prop} {tg iter kx vx c : Expr} {pos : Pos}
/-- one turn's entry -/
def ElD {Tq : List (Addr × Str)} (Z : Zb Tq) (X : Cx) (scope : Scope) (kx vx : Expr) (vs : List Nat) (I : List (Key × D) → Env → Prop) (acc : List (Key × D)) (e2 : Env) : Prop :=
  Blk X scope fun X' => WA Z X' kx e2 fun a3 e3 => ∃ k : Key, a3 = .va (kD k) ∧ Blk X scope fun X' => WA Z X' vx e3 fun a4 e4 => ∃ y, a4 = .va y ∧ acc.length < sizeLine ∧ (∀ p ∈ acc, p.1 ≠ k) ∧ I (acc ++ [(k, y)]) (wipeE e4 vs)
structure DcI {Tq : List (Addr × Str)} (Z : Zb Tq) (X : Cx) (scope : Scope) (f : TF) (kx vx : Expr) (vs : List Nat) (T : Env → (Bool → Env → Prop) → Prop) (P : R → Env → Prop) (ds : List D) (e1 : Env) : Prop where
  ex : ∃ I : Nat → List (Key × D) → Env → Prop, I 0 [] (wipeE e1 vs) ∧ (∀ k d acc e, ds[k]? = some d → I k acc e → f d e fun e' => T e' fun bb e2 => (bb = true → ElD Z X scope kx vx vs (I (k + 1)) acc e2) ∧ (bb = false → I (k + 1) acc (wipeE e2 vs))) ∧
    ∀ acc e, I ds.length acc e → ∀ p, P (.t (.fdc p acc)) e
theorem dc_read {g : TG} {f : TF} {ix : List Nat} {scope : Scope} {vs : List Nat} {tt : TT} {T : Env → (Bool → Env → Prop) → Prop} (gk : GOk Z g f ix) (hix : ∀ i ∈ ix, i ∈ vs)
    (tk : ∀ σ H F O env k (Q : Bool → Hp → Prop), Bas Z F H O → OwE F H O σ env → T env k → (∀ bb H' F' O' e', Bas Z F' H' O' → OwE F' H' O' σ e' → Frm Tq H F O H' F' O' → k bb e' → Q bb H') → tt σ H Q)
    {σ0 : L2.St} {H0 F0 : Hp} {O0 : List Addr} (b0 : Bas Z F0 H0 O0) (o0 : OwE F0 H0 O0 σ0 env) (h : WI Z X tg iter env (DcI Z X scope f kx vx vs T PR)) :
    tDcL (tI Z X tg iter) g tt (tAB Z X scope kx) (tAB Z X scope vx) vs σ0 H0 (Post Z σ0 H0 F0 O0 PR) := by
  refine ⟨env, F0, O0, _, b0, o0, h, fun J H1 F1 O1 ds e1 b1 o1 fr1 gv ⟨I, i0, step, done⟩ D hD => ?_⟩
  have fD : F1 D = none := b1.sub.free hD
  refine ⟨fun i m H => m = ds.length - i ∧ i ≤ ds.length ∧ ∃ F O e e0 acc accV, Bas Z F H (O ++ [D]) ∧ OwE F H O (wipe σ0 vs) e ∧ e = wipeE e0 vs ∧ H D = some (.dK accV) ∧ RpT F accV acc ∧ Frm Tq H1 F1 O1 H F (O ++ [D]) ∧ I i acc e, ⟨_, rfl, Nat.zero_le _, ?_⟩, ?_⟩
  · -- the start
    obtain ⟨O2, Od, h2, h3⟩ := o1.wipeO vs
    have hn : ∀ a ∈ O1, a ≠ D := fun a ha z => by subst z; exact o1.there a ha hD
    have fr : Frm Tq H1 F1 O1 (upd H1 D (.dK [])) F1 (O2 ++ [D]) := ⟨Same.refl _, fun a o e _ _ => same_new hD a o e, fun a e => by
      by_cases z : a = D
      · subst z; rw [upd_same]; exact fun z => nomatch z
      · rw [upd_ne z]; exact e, fun a e => .inl e, fun a ha => (List.mem_append.mp ha).elim (fun z => .inl (h3.mem_iff.mpr (List.mem_append_left _ z))) fun z => .inr (by rw [List.mem_singleton.mp z]; exact hD), tab_new hD⟩
    have b2 := (b1.dropP h3).1
    refine ⟨F1, O2, wipeE e1 vs, e1, [], [], ⟨b1.sub.trans (same_new hD), List.nodup_append.mpr ⟨b2.nd, List.nodup_cons.mpr ⟨fun z => (nomatch z), List.nodup_nil⟩, fun a ha c hc z => ?_⟩, fun a ha => ?_, b1.abs.trans fr⟩, ?_, rfl, upd_same, .nil, fr, i0⟩
    · rw [List.mem_singleton.mp hc] at z
      exact hn a (h3.mem_iff.mpr (List.mem_append_left _ ha)) z
    · rcases List.mem_append.mp ha with ha | ha
      · exact b2.dis a ha
      · rw [List.mem_singleton.mp ha]; exact fD
    · have o3 : OwE F1 (upd H1 D (.dK [])) O2 σ0 (wipeE e1 vs) := h2.stay (Same.refl _) fun a ha => upd_ne (hn a (h3.mem_iff.mpr (List.mem_append_left _ ha)))
      exact o3.wiped wipe_wipe
  · rintro i m H ⟨rfl, hi, F, O, e, e0, acc, accV, b, o, he0, hDl, rA, fr, hI⟩
    obtain ⟨g1, g2⟩ := gv F H fr.fz b.sub i
    by_cases hlt : i < ds.length
    · obtain ⟨go, yl⟩ := g1 ds[i] (List.getElem?_eq_getElem hlt)
      refine .inr ⟨go, fun H' => ∃ F O e e0 acc accV, Bas Z F H' (O ++ [D]) ∧ OwE F H' O (wipe σ0 vs) e ∧ e = wipeE e0 vs ∧ H' D = some (.dK accV) ∧ RpT F accV acc ∧ Frm Tq H1 F1 O1 H' F (O ++ [D]) ∧ I (i + 1) acc e, fun H' q => ⟨ds.length - (i + 1), by omega, rfl, hlt, q⟩, fun x H' y => ?_⟩
      obtain ⟨F', rx, s1, s2, s3, nf⟩ := yl x H' y
      have dD : ∀ a ∈ [D], Held H a := fun a ha => by rw [List.mem_singleton.mp ha]; exact ⟨_, hDl, fun _ z => nomatch z⟩
      have bL := b.left
      obtain ⟨b2, o2, fr2⟩ := bL.grow o s1 s2 s3 nf
      have b2D : Bas Z F' H' (O ++ [D]) := Bas.frame fr2 b b2 dD
      refine gk x _ (wipe σ0 vs) H' F' O e _ _ b2 o2 rx (step i _ acc e (List.getElem?_eq_getElem hlt) hI) fun σ3 O3 e3 b3 o3 s3' w3 h3 => ?_
      have hw : wipe σ3 vs = wipe (wipe σ0 vs) vs := w3 vs hix
      rw [wipe_wipe] at hw
      refine ⟨hw, ?_⟩
      have hD3 : H' D = some (.dK accV) := s2 _ _ hDl
      have dD3 : ∀ a ∈ [D], Held H' a := fun a ha => by rw [List.mem_singleton.mp ha]; exact ⟨_, hD3, fun _ z => nomatch z⟩
      have fr23 : Frm Tq H F O H' F' O3 := fr2.perm (fun _ => Iff.rfl) s3'
      have b3D : Bas Z F' H' (O3 ++ [D]) := Bas.frame fr23 b b3 dD
      have frD : Frm Tq H1 F1 O1 H' F' (O3 ++ [D]) := fr.trans fr23.frame
      refine tk σ3 H' F' O3 e3 _ _ b3 o3 h3 fun bb H4 F4 O4 e4 b4 o4 fr4 h4 => ?_
      have hD4 : H4 D = some (.dK accV) := fr4.out D _ hD3 (fun _ z => nomatch z) fun z => (List.nodup_append.mp b3D.nd).2.2 D z D (List.mem_singleton.mpr rfl) rfl
      have b4D : Bas Z F4 H4 (O4 ++ [D]) := Bas.frame fr4 b3D b4 dD3
      have frD4 : Frm Tq H1 F1 O1 H4 F4 (O4 ++ [D]) := frD.trans fr4.frame
      have dD4 : ∀ a ∈ [D], Held H4 a := fun a ha => by rw [List.mem_singleton.mp ha]; exact ⟨_, hD4, fun _ z => nomatch z⟩
      -- a turn's end
      have fin : ∀ {H5 F5 : Hp} {O5 : List Addr} {e5 : Env} {acc5 : List (Key × PyData)} {accV5 : List (Key × V)}, Bas Z F5 H5 (O5 ++ [D]) → OwE F5 H5 O5 σ3 e5 → H5 D = some (.dK accV5) → RpT F5 accV5 acc5 → Frm Tq H1 F1 O1 H5 F5 (O5 ++ [D]) → I (i + 1) acc5 (wipeE e5 vs) →
          ∃ F O e e0 acc accV, Bas Z F H5 (O ++ [D]) ∧ OwE F H5 O (wipe σ0 vs) e ∧ e = wipeE e0 vs ∧ H5 D = some (.dK accV) ∧ RpT F accV acc ∧ Frm Tq H1 F1 O1 H5 F (O ++ [D]) ∧ I (i + 1) acc e := fun {H5 F5 O5 e5 acc5 accV5} b5 o5 hD5 r5 fr5 hI5 => by
        obtain ⟨O6, Od6, h6, p6⟩ := o5.wipeO vs
        have p6' : (O5 ++ [D]).Perm ((O6 ++ [D]) ++ Od6) := (p6.append_right [D]).trans (by
          rw [List.append_assoc, List.append_assoc]
          exact List.perm_append_comm.append_left O6)
        refine ⟨F5, O6, wipeE e5 vs, e5, acc5, accV5, (b5.perm p6').left, h6.wiped ?_, rfl, hD5, r5, fr5.perm (fun _ => Iff.rfl) fun c hc => p6'.mem_iff.mpr (List.mem_append_left _ hc), hI5⟩
        rw [wipe_wipe]
        exact hw.symm
      cases bb with
      | false => exact iteF (fin b4D o4 hD4 (rA.mono (s1.trans fr4.fz)) frD4 (h4.2 rfl))
      | true =>
        refine iteT ⟨e4, F4, O4, _, b4, o4, h4.1 rfl, fun yk H5 ⟨F5, O5, a5, e5, b5, o5, st5, fr5, k, ea5, p5⟩ => ?_⟩
        subst ea5
        have eyk : yk = kV k := Rp.key st5
        have hD5 : H5 D = some (.dK accV) := fr5.out D _ hD4 (fun _ z => nomatch z) fun z => (List.nodup_append.mp b4D.nd).2.2 D z D (List.mem_singleton.mpr rfl) rfl
        have b5D : Bas Z F5 H5 (O5 ++ [D]) := Bas.frame fr5 b4D b5 dD4
        have frD5 : Frm Tq H1 F1 O1 H5 F5 (O5 ++ [D]) := frD4.trans fr5.frame
        have dD5 : ∀ a ∈ [D], Held H5 a := fun a ha => by rw [List.mem_singleton.mp ha]; exact ⟨_, hD5, fun _ z => nomatch z⟩
        refine ⟨e5, F5, O5, _, b5, o5, p5, fun y H6 ⟨F6, O6, a6, e6, b6, o6, st6, fr6, d6, ea6, hz, hk, q7⟩ => ?_⟩
        subst ea6
        have r7 : Rp F6 y d6 := st6
        have hD6 : H6 D = some (.dK accV) := fr6.out D _ hD5 (fun _ z => nomatch z) fun z => (List.nodup_append.mp b5D.nd).2.2 D z D (List.mem_singleton.mpr rfl) rfl
        have b6D : Bas Z F6 H6 (O6 ++ [D]) := Bas.frame fr6 b5D b6 dD5
        have frD6 : Frm Tq H1 F1 O1 H6 F6 (O6 ++ [D]) := frD5.trans fr6.frame
        have nD : ∀ a ∈ O6, a ≠ D := fun a ha z => (List.nodup_append.mp b6D.nd).2.2 a ha D (List.mem_singleton.mpr rfl) z
        have fD6 : F6 D = none := b6D.dis D (List.mem_append_right _ (List.mem_singleton.mpr rfl))
        have rA6 : RpT F6 accV acc := rA.mono (s1.trans (fr4.fz.trans (fr5.fz.trans fr6.fz)))
        refine ⟨accV, k, eyk, hD6, by rw [rA6.len]; exact hz, ?_⟩
        have hs : Same F6 (upd H6 D (.dK (putK accV k y))) := fun a x ha => by
          have z : a ≠ D := fun z => by subst z; rw [fD6] at ha; cases ha
          rw [upd_ne z]; exact b6D.sub a x ha
        have fr7 : Frm Tq H6 F6 (O6 ++ [D]) (upd H6 D (.dK (putK accV k y))) F6 (O6 ++ [D]) := ⟨Same.refl _, fun a x ha _ hn => by
          rw [upd_ne fun z => hn (by rw [z]; exact List.mem_append_right _ (List.mem_singleton.mpr rfl))]; exact ha, fun a ha => by
          by_cases z : a = D
          · subst z; rw [upd_same]; exact fun z => nomatch z
          · rw [upd_ne z]; exact ha, fun a ha => .inl ha, fun a ha => .inl ha, tab_own hD6⟩
        exact fin ⟨hs, b6D.nd, b6D.dis, b6D.abs.trans fr7⟩ (o6.stay (Same.refl _) fun a ha => upd_ne (nD a ha)) upd_same (rA6.put r7 hk) (frD6.trans fr7) q7
    · have e' : i = ds.length := by omega
      subst e'
      refine .inl ⟨g2 (List.getElem?_eq_none (Nat.le_refl _)), D, accV, rfl, hDl, fun od => ?_⟩
      have nD : ∀ a ∈ O, a ≠ D := fun a ha z => (List.nodup_append.mp b.nd).2.2 a ha D (List.mem_singleton.mpr rfl) z
      have fDn : F D = none := b.dis D (List.mem_append_right _ (List.mem_singleton.mpr rfl))
      have sF : Same F (upd F D (.frz od (.dK accV))) := same_new fDn
      have sub' : Same (upd F D (.frz od (.dK accV))) (upd H D (.frz od (.dK accV))) := fun a x ha => by
        by_cases z : a = D
        · subst z; rw [upd_same] at ha ⊢; exact ha
        · rw [upd_ne z] at ha ⊢; exact b.sub a x ha
      have frL : Frm Tq H F (O ++ [D]) (upd H D (.frz od (.dK accV))) (upd F D (.frz od (.dK accV))) O := ⟨sF, fun a x ha _ hn => by
        rw [upd_ne fun z => hn (by rw [z]; exact List.mem_append_right _ (List.mem_singleton.mpr rfl))]; exact ha, fun a ha => by
        by_cases z : a = D
        · subst z; rw [upd_same]; exact fun z => nomatch z
        · rw [upd_ne z]; exact ha, fun a ha => by
        by_cases z : a = D
        · subst z; exact .inr (.inr (List.mem_append_right _ (List.mem_singleton.mpr rfl)))
        · rw [upd_ne z] at ha; exact .inl ha, fun a ha => .inl (List.mem_append_left _ ha), tab_own hDl⟩
      have bN : Bas Z (upd F D (.frz od (.dK accV))) (upd H D (.frz od (.dK accV))) O := ⟨sub', (List.nodup_append.mp b.nd).1, fun a ha => by rw [upd_ne (nD a ha)]; exact b.dis a (List.mem_append_left _ ha), b.abs.trans frL⟩
      have oN : OwE (upd F D (.frz od (.dK accV))) (upd H D (.frz od (.dK accV))) O (wipe σ0 vs) e := o.stay sF fun a ha => upd_ne (nD a ha)
      refine ⟨upd F D (.frz od (.dK accV)), O, .t (.fdc D acc), e, bN, ⟨O, [], (List.append_nil O).symm, ?_, .fdc upd_same (rA.mono sF)⟩, fr1.trans (fr.trans frL), done acc e hI D⟩
      subst he0
      exact oN.wiped wipe_wipe.symm
theorem pe_dcL {wi : TI} {g : TG} {tt : TT} {tk tv : TE} {vs : List Nat} {e : Expr} (h : PE X e (tDc wi g tt tk tv vs)) : PE X e (tDcL wi g tt tk tv vs) :=
  ⟨fun pins s σ H Q I hq => thn (h.run pins s σ H (fun v H1 => ∃ D kvs, v = .ref D ∧ H1 D = some (.dK kvs) ∧ ∀ od, Q v (upd H1 D (.frz od (.dK kvs)))) I hq) fun v s1 ⟨x, H1, I1, r, q⟩ => by
    obtain ⟨D, kvs, ex, hD, q⟩ := q
    obtain ⟨od, I2⟩ := I1.lock hD trivial
    exact ⟨x, _, I2, r, q od⟩⟩
theorem w_dc {g : TG} {f : TF} {ix : List Nat} {scope : Scope} {own : List (Str × Nat)} (hc : X.calm = true) (hN : X.N.Nodup) (ok : BlkOk X.N X.env.scope scope own) (hg : Blk X scope fun X' => PG X' tg g) (gk : GOk Z g f ix) (hix : ∀ i ∈ ix, i ∈ own.map (·.2))
    (h : WI Z X tg iter env (DcI Z X scope f kx vx (own.map (·.2)) (fun e k => k true e) PR)) (hs : ∀ x, foldedSetIterable iter X.env x = pure x := by intro _; rfl) : WE Z X (.DictComp kx vx [⟨tg, iter, [], 0⟩] scope pos) env PR :=
  we_of (pe_dcL (pe_dc (own := own) hc hN (pi_I (Z := Z)) ok hg (fun _ _ _ _ _ => pts_nil) (pe_AB (Z := Z)) (pe_AB (Z := Z)) hs)) fun σ H F O b o => dc_read gk hix (fun σ H F O env k Q b o t q => q true H F O env b o (Frm.refl _ _ _) t) b o h
theorem w_dcIf {g : TG} {f : TF} {ix : List Nat} {scope : Scope} {own : List (Str × Nat)} (hc : X.calm = true) (hN : X.N.Nodup) (ok : BlkOk X.N X.env.scope scope own) (hg : Blk X scope fun X' => PG X' tg g) (gk : GOk Z g f ix) (hix : ∀ i ∈ ix, i ∈ own.map (·.2))
    (h : WI Z X tg iter env (DcI Z X scope f kx vx (own.map (·.2)) (fun e k => Blk X scope fun X' => WT Z X' c e k) PR)) (hs : ∀ x, foldedSetIterable iter X.env x = pure x := by intro _; rfl) : WE Z X (.DictComp kx vx [⟨tg, iter, [c], 0⟩] scope pos) env PR :=
  we_of (pe_dcL (pe_dc (own := own) hc hN (pi_I (Z := Z)) ok hg (fun s H C cl fp => pts_one (pt_TB (Z := Z) s H C cl fp)) (pe_AB (Z := Z)) (pe_AB (Z := Z)) hs)) fun σ H F O b o =>
    dc_read gk hix (fun σ H F O env k Q b o t q => ⟨env, F, O, k, b, o, t, fun v H' ⟨F1, O1, e1, b1, o1, fr1, p⟩ => q v H' F1 O1 e1 b1 o1 fr1 p⟩) b o h
end
end QL

/-! QTe: dict comprehensions by a filter and two functions. -/
namespace QL
open PySem PySem.Spec PyProof.Rows L2
section
variable {Tq : List (Addr × Str)} {Z : Zb Tq} {X : Cx} {env : Env} {P : R → Env → Prop} {tg iter kx vx c : Expr} {pos : Pos}
theorem toA_mono {r : R} {k k' : A → Prop} (h : toA r k) (m : ∀ a, k a → k' a) : toA r k' := by
  cases r with
  | bor a i p => exact m _ h
  | t t =>
    unfold toA at h ⊢
    simp only at h ⊢
    split at h
    · exact m _ h
    · exact h.elim
theorem fm_tup3 {i j l : Nat} : FMo (fTup 3 (fCons (fName i) (fCons (fName j) (fCons (fName l) fNil)))) := fm_tup (fm_cons fm_name (fm_cons fm_name (fm_cons fm_name fm_nil)))
theorem dc_filt {scope : Scope} {f : TF} (fm : FMo f) {vs : List Nat} {ds : List D} {e1 : Env} {α : Type} (enc : α → D) (xs : List α) (t : α → Bool) (gk : α → Key) (gv : α → D) (env0 : Env) (h0 : wipeE e1 vs = env0) (hd : ds = xs.map enc) (hl : xs.length < sizeLine) (nd : (xs.map gk).Nodup)
    (step : ∀ (k : Nat) x, xs[k]? = some x → f (enc x) env0 fun e' => Blk X scope fun X' => WT Z X' c e' fun bb e2 => bb = t x ∧ (t x = true → Blk X scope fun X' => WA Z X' kx e2 fun a3 e3 => a3 = .va (kD (gk x)) ∧ Blk X scope fun X' => WA Z X' vx e3 fun a4 e4 => a4 = .va (gv x) ∧ wipeE e4 vs = env0) ∧ (t x = false → wipeE e2 vs = env0))
    (fin : ∀ p, P (.t (.fdc p ((xs.filter t).map fun x => (gk x, gv x)))) env0) : DcI Z X scope f kx vx vs (fun e k => Blk X scope fun X' => WT Z X' c e k) P ds e1 := by
  subst hd
  refine ⟨fun k acc e => e = env0 ∧ acc = ((xs.take k).filter t).map fun x => (gk x, gv x), ⟨h0, rfl⟩, ?_, ?_⟩
  · rintro k d acc e hk ⟨rfl, rfl⟩
    rw [List.getElem?_map, Option.map_eq_some_iff] at hk
    obtain ⟨x, hx, rfl⟩ := hk
    have q := step k x hx
    have tk : xs.take (k + 1) = xs.take k ++ [x] := by rw [List.take_add_one, hx]; rfl
    refine fm.mo q fun e' w s H C cl fp => ?_
    refine WT.imp (w s H C cl fp) fun bb e2 ⟨hb, hT, hF⟩ => ?_
    subst hb
    refine ⟨fun ht s2 H2 C2 cl2 fp2 => ?_, fun hf => ⟨hF hf, ?_⟩⟩
    · refine WE.imp (hT ht s2 H2 C2 cl2 fp2) fun r e3 hr => ?_
      have key : ∀ {a : A} {e3 : Env}, (a = .va (kD (gk x)) ∧ Blk X scope fun X' => WA Z X' vx e3 fun a4 e4 => a4 = .va (gv x) ∧ wipeE e4 vs = e) → ∃ kk : Key, a = .va (kD kk) ∧ Blk X scope fun X' => WA Z X' vx e3 fun a4 e4 => ∃ y, a4 = .va y ∧ (((xs.take k).filter t).map fun x => (gk x, gv x)).length < sizeLine ∧ (∀ p ∈ (((xs.take k).filter t).map fun x => (gk x, gv x)), p.1 ≠ kk) ∧ (wipeE e4 vs = e ∧ (((xs.take k).filter t).map fun x => (gk x, gv x)) ++ [(kk, y)] = ((xs.take (k + 1)).filter t).map fun x => (gk x, gv x)) := fun {a e3} ⟨h1, h2⟩ => by
        refine ⟨gk x, h1, fun s4 H4 C4 cl4 fp4 => ?_⟩
        refine WE.imp (h2 s4 H4 C4 cl4 fp4) fun r e5 hr => ?_
        have val : ∀ {a : A} {e5 : Env}, (a = .va (gv x) ∧ wipeE e5 vs = e) → ∃ y, a = .va y ∧ (((xs.take k).filter t).map fun x => (gk x, gv x)).length < sizeLine ∧ (∀ p ∈ (((xs.take k).filter t).map fun x => (gk x, gv x)), p.1 ≠ gk x) ∧ (wipeE e5 vs = e ∧ (((xs.take k).filter t).map fun x => (gk x, gv x)) ++ [(gk x, y)] = ((xs.take (k + 1)).filter t).map fun x => (gk x, gv x)) := fun {a e5} ⟨g1, g2⟩ => by
          refine ⟨gv x, g1, ?_, fun p hp => ?_, g2, ?_⟩
          · rw [List.length_map]
            have := List.length_filter_le t (xs.take k)
            rw [List.length_take] at this
            omega
          · obtain ⟨y, hy, rfl⟩ := List.mem_map.mp hp
            have hy := (List.mem_filter.mp hy).1
            intro e9
            have hn : ((xs.take (k + 1)).map gk).Nodup := List.Sublist.nodup ((List.take_sublist _ _).map gk) nd
            rw [tk, List.map_append, List.nodup_append] at hn
            exact hn.2.2 (gk y) (List.mem_map.mpr ⟨y, hy, rfl⟩) (gk x) (by simp) e9
          · rw [tk, List.filter_append, List.map_append]
            simp [ht]
        exact toA_mono hr fun a h => val h
      exact toA_mono hr fun a h => key h
    · rw [tk, List.filter_append]
      simp [hf]
  · rintro acc e ⟨rfl, rfl⟩ p
    rw [List.length_map, List.take_length]
    exact fin p
end
end QL

/-! QTs: sorted(a set of ints), the set a comprehension. -/
namespace QL
open PySem PySem.Spec PyProof.Rows L2
/-! ### a set comprehension of ints, over the kit's turn of its loop -/
section
variable {X : Cx}
/-- what a turn adds: the int c to the set at D -/
def addsI (w : World) (D : Addr) (y : V) (H : Hp) (Nx : Hp → Prop) : Prop := ∃ (c : Int) (S : Int → Bool) (n : Nat), y = .int c ∧ H D = some (SetO w D S n) ∧ n + 1 < scanBound ∧ Nx (upd H D (SetO w D (fun j => S j || decide (j = c)) (if S c = true then n else n + 1)))
def tScI (w : World) (wi : TI) (g : TG) (te : TE) (vs : List Nat) : TE := fun σ H Q => wi σ H fun J H1 => ∀ D, H1 D = none → ∃ W : Nat → Nat → Hp → Prop, (∃ m, W 0 m (upd H1 D (SetO w D (fun _ => false) 0))) ∧ ∀ i m H, W i m H →
  (J.stop i H ∧ Q (.ref D) H) ∨ (J.go i H ∧ ∃ Nx : Hp → Prop, (∀ H', Nx H' → ∃ m', m' < m ∧ W (i + 1) m' H') ∧ ∀ x H', J.yld i H x H' → g x (wipe σ vs) H' fun σ2 H2 => wipe σ2 vs = wipe σ vs ∧ te σ2 H2 fun y H4 => addsI w D y H4 Nx)
/-- a set is no code object -/
theorem setO_code {w : World} {D : Addr} {S : Int → Bool} {n : Nat} {q : Str} : SetO w D S n ≠ LamX.CodeO D q := fun z => by
  unfold SetO LamX.CodeO at z
  have e := HO.ext.inj z
  let o : Obj := { cls := .none, data := .fields #[.none, .str q default] }
  let h : Heap := { objs := (Array.replicate D o).push o }
  have hg : h.get? D = some o := by
    unfold Heap.get?
    have : h.objs[D]? = some o := by
      show ((Array.replicate D o).push o)[D]? = some o
      rw [Array.getElem?_push, Array.size_replicate, if_pos rfl]
    rw [this]
  have c : ∃ (oc : Obj) (vs : Array Value) (t : Tok), h.get? D = some oc ∧ oc.data = .fields vs ∧ vs[1]? = some (.str q t) := ⟨o, _, default, hg, rfl, rfl⟩
  have e2 := congrFun e h
  obtain ⟨o', es, ep, t, h1, _, h3, _⟩ := e2.mpr c
  rw [hg] at h1
  cases h1
  cases h3

theorem adds_ok {pins : List (Addr × Obj)} {σ : L2.St} {H : Hp} {s : Shared} {E : Value → Shared → Prop} {D : Addr} {y : V} {v : Value} {Nx : Hp → Prop} {Q : Value → Shared → Prop} (I : Inv X pins σ H s) (r : L2.RelV y v) (h : addsI X.w D y H Nx)
    (q : ∀ s' H', Inv X pins σ H' s' → Nx H' → Q .none s') : wpAny (model X.prog X.w) X.A (call (.builtin "set.add") [.ref D, v]) Q E s := by
  obtain ⟨c, S, n, rfl, hD, room, nx⟩ := h
  obtain ⟨tk, rfl⟩ := r
  refine setR_add (setO_get I hD) room fun h' sb new => ?_
  have ⟨o, _, _, _, ho, _⟩ := new
  exact q _ _ (I.write (e := D) (t' := s.toks + 1) (by rw [hD]; trivial) (.inl rfl) (fun b u hb hu => (sb.2 b hb).trans hu) ⟨o, ho⟩ (setO_new new)) nx
theorem pe_scI {elt tg iter : Expr} {scope : Scope} {own : List (Str × Nat)} {pos : Pos} {wi : TI} {g : TG} {te : TE} (hc : X.calm = true) (hN : X.N.Nodup) (hi : PI X tg iter wi) (ok : BlkOk X.N X.env.scope scope own)
    (hg : Blk X scope fun X' => PG X' tg g) (he : Blk X scope fun X' => PE X' elt te) (hs : ∀ x, foldedSetIterable iter X.env x = pure x := by intro _; rfl) : PE X (.SetComp elt [⟨tg, iter, [], 0⟩] scope pos) (tScI X.w wi g te (own.map (·.2))) := by
  refine ⟨fun pins s σ H Q I h => ?_⟩
  rw [PpSet.eval_SetComp]
  have hfree : ∀ y ∈ scope.names, y.2 = .free → ∃ c, X.env.cells.lookup y.1 = some c := fun y hy e => by
    rcases ok.free y hy e with k | k
    · exact I.ok.has _ (.inl k)
    · exact I.ok.has _ (.inr k)
  refine wpAny_comprehension_free rfl hs (closure_ok hfree) ok.kind (fun y hy e => by rw [ok.uniq y hy, e]) (thn (hi.run pins s σ H _ I h) fun xv s1 hx => thn hx fun itv s2 h2 => ?_)
  obtain ⟨it, fp, tn, J, H2, e, I2, T, st2, f2, q⟩ := h2
  subst e
  refine PpSet.newSet_ok (newEnv_comp ?_)
  generalize hD : s2.heap.objs.size = D
  obtain ⟨W, ⟨m0, w0⟩, turn⟩ := q D (I2.hok.fresh (Nat.le_of_eq hD))
  generalize hob : ({ cls := .type "set", dict := none, data := .set #[] 0 (.fresh 0 0 (!X.w.params.followText "set-order")) } : Obj) = ob
  generalize hs3 : ({ s2 with heap := s2.heap.push ob } : Shared) = s3
  have I3 : Inv X pins σ (upd H2 D (SetO X.w D (fun _ => false) 0)) s3 := by
    rw [← hs3]
    refine I2.laid (t' := s2.toks) (fun b o e => Heap.get?_push_of_some _ e) (Nat.le_of_eq hD) ?_
    rw [← hD, ← hob]
    exact setO_new (setR_fresh X.w)
  have h3 : s3.heap = s2.heap.push ob := by rw [← hs3]
  have sz : ∀ b ∈ fp, b < s2.heap.objs.size := fun b hb => by
    obtain ⟨o, e, _⟩ := T.obj _ _ st2 b hb
    exact Heap.lt_size e
  have f3 : ∀ b ∈ fp, FpOk X pins (upd H2 D (SetO X.w D (fun _ => false) 0)) b ∧ b < s3.heap.objs.size := fun b hb => by
    have hlt := sz b hb
    refine ⟨⟨?_, (f2 b hb).2⟩, by rw [h3, Heap.size_push]; exact Nat.lt_succ_of_lt hlt⟩
    rw [upd_ne (by rw [← hD]; exact Nat.ne_of_lt hlt)]
    exact (f2 b hb).1
  have st3 : tn 0 s3.heap := T.keep _ _ _ st2 fun b _ o e => by rw [h3]; exact Heap.get?_push_of_some _ e
  generalize hHD : upd H2 D (SetO X.w D (fun _ => false) 0) = H3 at I3 w0 f3
  have I4 := block_start I3 ok hN f3
  have pg := hg s3 H3 s3.heap.objs.size (cellsFrom (s3.heap.objs.size + 1) scope.names (cloFrom X.env.cells scope.names [])) fp
  have pe := he s3 H3 s3.heap.objs.size (cellsFrom (s3.heap.objs.size + 1) scope.names (cloFrom X.env.cells scope.names [])) fp
  show codeAny _ _ (.compStart (.SetComp elt [⟨tg, iter, [], 0⟩] scope pos) 0 (.ref it) (.ref D) (compEnvC scope (cellsFrom (s3.heap.objs.size + 1) scope.names (cloFrom X.env.cells scope.names [])) s3.heap.objs.size X.env)) (compPost (model X.prog X.w) X.A X.xe none (EP X pins σ Q) (.ref D) s3.heap.objs.size) { s3 with heap := pushCells (s3.heap.push { cls := .type "dict", data := .dict #[] }) scope.names }
  have nfp : ∀ b ∈ fp, H3 b = none := fun b hb => (f3 b hb).1.1
  generalize hce : compEnvC scope (cellsFrom (s3.heap.objs.size + 1) scope.names (cloFrom X.env.cells scope.names [])) s3.heap.objs.size X.env = ce at I4 pg pe ⊢
  have cL : ce.locals = s3.heap.objs.size := by subst hce; rfl
  generalize hs4 : ({ s3 with heap := pushCells (s3.heap.push { cls := .type "dict", data := .dict #[] }) scope.names } : Shared) = s4 at I4 ⊢
  have st4 : tn 0 s4.heap := T.keep _ _ _ st3 fun b _ o e => by rw [← hs4]; exact pushCells_keeps _ _ _ _ (Heap.get?_push_of_some _ e)
  have stat : ∀ {σ' : L2.St} {H' : Hp} {s' : Shared}, Inv (X.blk s3 H3 scope ce fp) [] σ' H' s' → (∀ b ∈ fp, H' b = none) → ∀ b ∈ fp, FpOk (X.blk s3 H3 scope ce fp) [] H' b := fun {σ' H' s'} I' hn b hb =>
    ⟨hn b hb, (I'.ok.exf b hb).1, I'.ok.exfs b hb, .inl hb, fun x c e => (I'.ok.exf b hb).2 x c e, fun p hp => absurd (show p ∈ ([] : List (Addr × Obj)) ++ [] from hp) (by simp)⟩
  have loop : codeAny (model X.prog X.w) X.A (.compLoop (.SetComp elt [⟨tg, iter, [], 0⟩] scope pos) 0 (.ref it) (.ref D) ce) (compPost (model X.prog X.w) X.A X.xe none (EP X pins σ Q) (.ref D) s3.heap.objs.size) s4 := by
    refine PpSet.compLoopS_any (fun n s' => ∃ i H', Inv (X.blk s3 H3 scope ce fp) [] (wipe σ (own.map (·.2))) H' s' ∧ tn i s'.heap ∧ (∀ b ∈ fp, H' b = none) ∧ W i n H') ?_ m0 ⟨0, H3, I4, st4, nfp, w0⟩
    rintro n s5 ⟨i, H5, I5, st5, n5, w5⟩
    rcases turn i n H5 w5 with ⟨stop, qq⟩ | ⟨go, Nx, hNx, step⟩
    · refine thnF (T.done (X.blk s3 H3 scope ce fp) rfl rfl rfl hc i [] s5 _ H5 (fun _ _ => False) I5 (stat I5 n5) st5 stop) fun r s6 ⟨hr, I6⟩ => ?_
      subst hr
      have I7 : Inv X pins σ H5 s6 := I3.call' (ch := fp) I6.os I6.base I6.hok I6.bare fun b hb => ⟨(f3 b hb).1.2.2.2.1, (f3 b hb).1.2.1, (f3 b hb).1.2.2.2.2.1, (f3 b hb).1.2.2.2.2.2⟩
      have nC : H5 s3.heap.objs.size = none := by
        have z : H5 ce.locals = none := I6.free
        rw [cL] at z
        exact z
      obtain ⟨m, hn, _⟩ := I6.loc
      have hn : s6.heap.Ns ce.locals m := hn
      rw [cL] at hn
      obtain ⟨f0, f1, f2, f3, f4, f5⟩ := I3.fpOk (Nat.le_refl _) nC
      exact ⟨m, hn, fun h'' sb => ⟨.ref D, H5, I7.turned (t' := s6.toks) (fun b o hb e => (sb.2 b hb).trans e) f0 f1 f3 f4 f5, rfl, qq⟩⟩
    · refine thnF (T.item (X.blk s3 H3 scope ce fp) rfl rfl rfl hc i [] s5 _ H5 (fun _ _ => False) I5 (stat I5 n5) st5 go) fun r s6 ⟨u, hr, h6⟩ => ?_
      subst hr
      refine thnF h6 fun _ s7 ⟨x, H7, I7, r7, y7, st7, n7⟩ => ?_
      have I7' := I7.pinned (stat I7 n7) (T.obj _ _ st7)
      refine thnF (pg.run _ s7 _ H7 x u _ I7' r7 (step x H7 y7)) fun _ s8 ⟨σ8, H8, I8, hw8, q8⟩ => ?_
      refine wpAny_pure ?_
      simp only [if_true]
      refine thnF (pe.run _ s8 σ8 H8 _ I8 q8) fun z s10 ⟨yv, H10, I10, r10, ad⟩ => ?_
      refine adds_ok (X := X.blk s3 H3 scope ce fp) I10 r10 ad fun s' H' I' nx => ?_
      obtain ⟨m', hm, w'⟩ := hNx H' nx
      have pin' : ∀ b ∈ fp, ∀ o, s7.heap.get? b = some o → s'.heap.get? b = some o ∧ H' b = none := fun b hb o e =>
        let z := I'.pin (b, o) (List.mem_append_right _ (List.mem_append_right _ (mem_pinsAt hb e)))
        ⟨z.1, z.2.1⟩
      have hl : (wipe σ (own.map (·.2))).length = σ8.length := by rw [← hw8, wipe_length]
      refine ⟨m', hm, i + 1, H', (I'.unpinned (pins := [])).weak hl (fun j v e => ?_), T.keep _ _ _ st7 fun b hb o e => (pin' b hb o e).1, fun b hb => ?_, w'⟩
      · rw [← hw8] at e
        exact (wipe_some e).1
      · obtain ⟨o, e, _⟩ := T.obj _ _ st7 b hb
        exact (pin' b hb o e).2
  exact PpSet.codeAny_compStart_set loop (T.self X.A 0 _ _ _ st4 loop)
/-! ### sorted(s), s a set of ints, of any number -/
theorem ints_each {h : Heap} : ∀ {us : List Value} {ns : List Int}, IntsAre us ns → W.EachIs (fun v n => ∃ t, v = Value.int n t) us ns ∧ W.EachIs (fun v n => ∃ as, Reads h v (PyData.int n) as) us ns
  | _, _, .nil => ⟨.nil, .nil⟩
  | _, _, .cons k t r => ⟨.cons ⟨t, rfl⟩ (ints_each (h := h) r).1, .cons ⟨[], .int _ _⟩ (ints_each (h := h) r).2⟩
theorem each_ints : ∀ {us : List Value} {ns : List Int}, W.EachIs (fun v n => ∃ t, v = Value.int n t) us ns → IntsAre us ns
  | _, _, .nil => .nil
  | _, _, .cons ⟨t, e⟩ r => by subst e; exact .cons _ _ (each_ints r)
theorem dataLe_I (a b : Int) : W.dataLe false PyData.int a b = decide (a ≤ b) := by
  rw [W.dataLe_eq]
  show (!W.dataLt (.int b) (.int a)) = _
  rw [W.dataLt_int]
  by_cases h : b < a
  · rw [decide_eq_true h, decide_eq_false (by omega)]; rfl
  · rw [decide_eq_false h, decide_eq_true (by omega)]; rfl
theorem sorted_setAny {P : Program} {w : World} {A : Around} {E : Value → Shared → Prop} {s : Shared} {a : Addr} {S : Int → Bool} {n : Nat} {Q : Value → Shared → Prop} (R : SetR w s.heap a S n) (hh : A.handled = none) (hn16 : n ≤ sizeLine) (hu : A.units + 10 < cLine)
    (hQ : ∀ s' p (out : Array Value) (c : Nat) (ns : List Int), (∀ b o, s.heap.get? b = some o → s'.heap.get? b = some o) → s'.gens = s.gens → s'.os = s.os → s.heap.objs.size ≤ p →
      s'.heap.get? p = some (seqObj "list" out c) → IntsAre out.toList ns → ns.Pairwise (· < ·) → (∀ k, k ∈ ns ↔ S k = true) → ns.length = n → Q (.ref p) s') :
    wpAny (model P w) A (call (.builtin "sorted") [.ref a]) Q E s := by
  obtain ⟨o, es, ep, t, ho, hex, hd, g, nd, hm, hb, hf, hn, hr, hl⟩ := R
  refine Calls.call_function_entry kind_sorted plain_sorted entry_sorted (args_sorted1 _) ?_
  unfold Builtin.«sorted»
  refine wpAny_bind (m := checkCount "sorted" 1 1 _) (wpAny_pure ?_)
  refine wpAny_bind (collect_set (A := A.in1) hh ⟨o, ho, hex.1, hd⟩ hf hb hr hl fun s1 vs k1 hz g1 o1 pm => ?_)
  have hvl : vs.length = n := by rw [pm.length_eq, List.length_map, Array.length_toList]; exact hn
  have hI : IntsAre vs (vs.map Builtin.Re.reRawOf) := ints_of vs fun v hv => by
    obtain ⟨e, he, q⟩ := List.mem_map.mp (pm.mem_iff.mp hv)
    obtain ⟨k, tk, h1, _⟩ := g e he
    exact ⟨k, tk, by rw [← q]; exact h1⟩
  have pk : (vs.map Builtin.Re.reRawOf).Perm (es.toList.map keyOf) := by
    have q := pm.map Builtin.Re.reRawOf
    rw [List.map_map] at q
    exact q
  generalize hns : vs.map Builtin.Re.reRawOf = ns0 at hI pk
  refine wpAny_bind (wpAny_newList ?_ (by rw [hvl]; exact hn16))
  have hoL : (s1.heap.push (seqObj "list" vs.toArray 0)).get? s1.heap.objs.size = some (seqObj "list" vs.toArray 0) := Heap.get?_push_size _ rfl
  obtain ⟨e1, e2⟩ := ints_each (h := W.sortingHeap (s1.heap.push (seqObj "list" vs.toArray 0)) s1.heap.objs.size vs) hI
  have al : W.AllAlike (ns0.map PyData.int) := fun x hx y hy => by
    obtain ⟨i, _, rfl⟩ := List.mem_map.mp hx
    obtain ⟨j, _, rfl⟩ := List.mem_map.mp hy
    rfl
  have hk : W.Sortable (ns0.map PyData.int) := .inr fun d hd => by
    obtain ⟨i, _, rfl⟩ := List.mem_map.mp hd
    exact ⟨fun z => (nomatch z), fun _ z => nomatch z⟩
  refine wpAny_bind (wpAny_holding (wpAny_call_entry slot_list_sort ⟨_, hoL, rfl⟩ entry_list_sort
    (W.list_sort_vals (s := { s1 with heap := s1.heap.push (seqObj "list" vs.toArray 0) }) (κ := W.dataKind (W.sortingHeap (s1.heap.push (seqObj "list" vs.toArray 0)) s1.heap.objs.size vs) (ns0.map PyData.int)) hoL
      (W.SortsAt.data (s := { s1 with heap := W.sortingHeap (s1.heap.push (seqObj "list" vs.toArray 0)) s1.heap.objs.size vs }) (W.each_map (R := fun v d => ∃ as, Reads (W.sortingHeap (s1.heap.push (seqObj "list" vs.toArray 0)) s1.heap.objs.size vs) v d as) PyData.int e2) al hk (fun d hd => by
        obtain ⟨i, _, rfl⟩ := List.mem_map.mp hd
        show _ + 0 < cLine
        show A.units + 1 + 1 + 0 < cLine
        omega)) (by rw [hvl]; exact hn16) ⟨_, rfl, ?_⟩) (args_list_sort _)))
  have so := W.sortVals_data (enc := PyData.int) (bs := ns0) false e1 e2 al
  generalize W.sortVals (W.dataKind (W.sortingHeap (s1.heap.push (seqObj "list" vs.toArray 0)) s1.heap.objs.size vs) (ns0.map PyData.int)) false vs vs = out at so ⊢
  obtain ⟨c, hc⟩ := sortedHeap_at (vs := vs) (out := out.toArray) hoL
  have pn : (ns0.mergeSort (W.dataLe false PyData.int)).Perm (es.toList.map keyOf) := (List.mergeSort_perm _ _).trans pk
  have srt : (ns0.mergeSort (W.dataLe false PyData.int)).Pairwise (· ≤ ·) := by
    have q := List.pairwise_mergeSort (le := W.dataLe false PyData.int) (fun a b c h1 h2 => by rw [dataLe_I, decide_eq_true_eq] at *; omega) (fun a b => by rw [dataLe_I, dataLe_I, Bool.or_eq_true, decide_eq_true_eq, decide_eq_true_eq]; omega) ns0
    exact q.imp fun {a b} h => by rw [dataLe_I, decide_eq_true_eq] at h; exact h
  refine wpAny_pure ⟨_, rfl, hQ _ s1.heap.objs.size out.toArray c _ (fun b u e => ?_) g1 o1 hz hc (each_ints so) (lt_of_le_nodup _ srt (pn.nodup_iff.mpr nd)) (fun k => by rw [pn.mem_iff, ← hm k]) ?_⟩
  · have q := k1 b u e
    have hlt := Heap.lt_size q
    show (sortedHeap (s1.heap.push (seqObj "list" vs.toArray 0)) s1.heap.objs.size vs out.toArray).get? b = some u
    rw [sortedHeap_old (Nat.ne_of_lt hlt) (by rw [size_push']; exact Nat.lt_succ_of_lt hlt)]
    exact Heap.get?_push_of_some _ q
  · rw [pn.length_eq, List.length_map, Array.length_toList]; exact hn
end
section
variable {X : Cx}
def rSortS (w : World) : List V → Hp → VK → Prop := fun vs H Q => ∃ (a : Addr) (S : Int → Bool) (n : Nat), vs = [V.ref a] ∧ H a = some (SetO w a S n) ∧ n < 4096 ∧
  ∀ (ns : List Int) (p : Addr), ns.Pairwise (· < ·) → (∀ k : Int, k ∈ ns ↔ S k = true) → ns.length = n → H p = none → Q (.ref p) (upd H p (.lst (ns.map V.int)))
theorem cr_sortS (hc : X.calm = true) (hu : X.A.units + 110 < cLine) : CallR X (.builtin "sorted") (rSortS X.w) := by
  intro pins s σ H vs us Q I r h
  obtain ⟨a, S, n, rfl, ha, hn, q⟩ := h
  have hz : n ≤ sizeLine := by rw [sizeLine_eq]; omega
  rw [Vals.ref1 r]
  refine sorted_setAny (setO_get I ha) (I.ok.hd hc) hz (by omega) fun s' p out c ns k g o hp hg hi hs hm hl => ?_
  have hp0 : H p = none := I.hok.fresh hp
  have J : Inv X pins σ (upd H p (.lst (ns.map V.int))) { s with heap := s'.heap, gens := s'.gens, drawn := s'.drawn, toks := s'.toks } := I.call (ch := []) (Un.laid k hp hp0) (I.hok.laid k hp ⟨by rw [List.length_map, hl]; exact hz, out.toList, c, vals_of_ints hi, hg⟩) (by rw [g]; exact I.bare) (fun _ z => nomatch z)
  have e : s' = { s with heap := s'.heap, gens := s'.gens, drawn := s'.drawn, toks := s'.toks } := by
    cases s'
    cases s
    cases o
    rfl
  rw [e]
  exact ⟨.ref p, _, J, rfl, q ns p hs hm hl hp0⟩
end
section
variable {Tq : List (Addr × Str)} {Z : Zb Tq} {X : Cx} {env : Env} {PR : R → Env → Prop} {tg iter elt : Expr} {pos : Pos}
theorem rpa_ints {F : Hp} : ∀ ns : List Int, RpA F (ns.map V.int) (ns.map PyData.int)
  | [] => .nil
  | n :: ns => .cons (.int n) (rpa_ints ns)
/-- a set comprehension of ints, sorted -/
structure ScI {Tq : List (Addr × Str)} (Z : Zb Tq) (X : Cx) (scope : Scope) (f : TF) (elt : Expr) (vs : List Nat) (P : R → Env → Prop) (ds : List D) (e1 : Env) : Prop where
  ex : ds.length < 4000 ∧ ∃ I : Nat → List Int → Env → Prop, I 0 [] (wipeE e1 vs) ∧ (∀ k d acc e, ds[k]? = some d → I k acc e → f d e fun e' => Blk X scope fun X' => WA Z X' elt e' fun a e2 => ∃ c : Int, a = .va (.int c) ∧ I (k + 1) (acc ++ [c]) (wipeE e2 vs)) ∧
    ∀ acc e, I ds.length acc e → ∀ (ns : List Int) p, ns.Pairwise (· < ·) → (∀ c, c ∈ ns ↔ c ∈ acc) → P (.t (.lst p (ns.map PyData.int))) e
theorem sc_read {g : TG} {f : TF} {ix : List Nat} {scope : Scope} {vs : List Nat} (gk : GOk Z g f ix) (hix : ∀ i ∈ ix, i ∈ vs)
    {σ0 : L2.St} {H0 F0 : Hp} {O0 : List Addr} (b0 : Bas Z F0 H0 O0) (o0 : OwE F0 H0 O0 σ0 env) (h : WI Z X tg iter env (ScI Z X scope f elt vs PR)) :
    tCB (rSortS X.w) (tCons (tScI X.w (tI Z X tg iter) g (tAB Z X scope elt) vs) tNil) σ0 H0 (Post Z σ0 H0 F0 O0 PR) := by
  refine ⟨env, F0, O0, _, b0, o0, h, fun J H1 F1 O1 ds e1 b1 o1 fr1 gv ⟨hds, I, i0, step, done⟩ D hD => ?_⟩
  have fD : F1 D = none := b1.sub.free hD
  refine ⟨fun i m H => m = ds.length - i ∧ i ≤ ds.length ∧ ∃ F O e e0 acc S n, Bas Z F H (O ++ [D]) ∧ OwE F H O (wipe σ0 vs) e ∧ e = wipeE e0 vs ∧ H D = some (SetO X.w D S n) ∧ n ≤ i ∧ (∀ c, S c = true ↔ c ∈ acc) ∧ Frm Tq H1 F1 O1 H F (O ++ [D]) ∧ I i acc e, ⟨_, rfl, Nat.zero_le _, ?_⟩, ?_⟩
  · -- the start
    obtain ⟨O2, Od, h2, h3⟩ := o1.wipeO vs
    have hn : ∀ a ∈ O1, a ≠ D := fun a ha z => by subst z; exact o1.there a ha hD
    have fr : Frm Tq H1 F1 O1 (upd H1 D (SetO X.w D (fun _ => false) 0)) F1 (O2 ++ [D]) := ⟨Same.refl _, fun a o e _ _ => same_new hD a o e, fun a e => by
      by_cases z : a = D
      · subst z; rw [upd_same]; exact fun z => nomatch z
      · rw [upd_ne z]; exact e, fun a e => .inl e, fun a ha => (List.mem_append.mp ha).elim (fun z => .inl (h3.mem_iff.mpr (List.mem_append_left _ z))) fun z => .inr (by rw [List.mem_singleton.mp z]; exact hD), tab_new hD⟩
    have b2 := (b1.dropP h3).1
    refine ⟨F1, O2, wipeE e1 vs, e1, [], fun _ => false, 0, ⟨b1.sub.trans (same_new hD), List.nodup_append.mpr ⟨b2.nd, List.nodup_cons.mpr ⟨fun z => (nomatch z), List.nodup_nil⟩, fun a ha c hc z => ?_⟩, fun a ha => ?_, b1.abs.trans fr⟩, ?_, rfl, upd_same, Nat.le_refl _, fun c => by simp, fr, i0⟩
    · rw [List.mem_singleton.mp hc] at z
      exact hn a (h3.mem_iff.mpr (List.mem_append_left _ ha)) z
    · rcases List.mem_append.mp ha with ha | ha
      · exact b2.dis a ha
      · rw [List.mem_singleton.mp ha]; exact fD
    · have o3 : OwE F1 (upd H1 D (SetO X.w D (fun _ => false) 0)) O2 σ0 (wipeE e1 vs) := h2.stay (Same.refl _) fun a ha => upd_ne (hn a (h3.mem_iff.mpr (List.mem_append_left _ ha)))
      exact o3.wiped wipe_wipe
  · rintro i m H ⟨rfl, hi, F, O, e, e0, acc, S, n, b, o, he0, hDl, hni, hS, fr, hI⟩
    obtain ⟨g1, g2⟩ := gv F H fr.fz b.sub i
    by_cases hlt : i < ds.length
    · obtain ⟨go, yl⟩ := g1 ds[i] (List.getElem?_eq_getElem hlt)
      refine .inr ⟨go, fun H' => ∃ F O e e0 acc S n, Bas Z F H' (O ++ [D]) ∧ OwE F H' O (wipe σ0 vs) e ∧ e = wipeE e0 vs ∧ H' D = some (SetO X.w D S n) ∧ n ≤ i + 1 ∧ (∀ c, S c = true ↔ c ∈ acc) ∧ Frm Tq H1 F1 O1 H' F (O ++ [D]) ∧ I (i + 1) acc e, fun H' q => ⟨ds.length - (i + 1), by omega, rfl, hlt, q⟩, fun x H' y => ?_⟩
      obtain ⟨F', rx, s1, s2, s3, nf⟩ := yl x H' y
      have dD : ∀ a ∈ [D], Held H a := fun a ha => by rw [List.mem_singleton.mp ha]; exact ⟨_, hDl, fun _ z => nomatch z⟩
      have bL := b.left
      obtain ⟨b2, o2, fr2⟩ := bL.grow o s1 s2 s3 nf
      have b2D : Bas Z F' H' (O ++ [D]) := Bas.frame fr2 b b2 dD
      refine gk x _ (wipe σ0 vs) H' F' O e _ _ b2 o2 rx (step i _ acc e (List.getElem?_eq_getElem hlt) hI) fun σ3 O3 e3 b3 o3 s3' w3 h3 => ?_
      have hw : wipe σ3 vs = wipe (wipe σ0 vs) vs := w3 vs hix
      rw [wipe_wipe] at hw
      refine ⟨hw, ?_⟩
      have hD3 : H' D = some (SetO X.w D S n) := s2 _ _ hDl
      have dD3 : ∀ a ∈ [D], Held H' a := fun a ha => by rw [List.mem_singleton.mp ha]; exact ⟨_, hD3, fun _ z => nomatch z⟩
      have fr23 : Frm Tq H F O H' F' O3 := fr2.perm (fun _ => Iff.rfl) s3'
      have b3D : Bas Z F' H' (O3 ++ [D]) := Bas.frame fr23 b b3 dD
      have frD : Frm Tq H1 F1 O1 H' F' (O3 ++ [D]) := fr.trans fr23.frame
      refine ⟨e3, F', O3, _, b3, o3, h3, fun y H6 ⟨F6, O6, a6, e6, b6, o6, st6, fr6, c, ea6, q7⟩ => ?_⟩
      subst ea6
      have ey : y = .int c := by cases (show Rp F6 y (.int c) from st6); rfl
      have hD6 : H6 D = some (SetO X.w D S n) := fr6.out D _ hD3 (fun _ z => nomatch z) fun z => (List.nodup_append.mp b3D.nd).2.2 D z D (List.mem_singleton.mpr rfl) rfl
      have b6D : Bas Z F6 H6 (O6 ++ [D]) := Bas.frame fr6 b3D b6 dD3
      have frD6 : Frm Tq H1 F1 O1 H6 F6 (O6 ++ [D]) := frD.trans fr6.frame
      have nD : ∀ a ∈ O6, a ≠ D := fun a ha z => (List.nodup_append.mp b6D.nd).2.2 a ha D (List.mem_singleton.mpr rfl) z
      have fD6 : F6 D = none := b6D.dis D (List.mem_append_right _ (List.mem_singleton.mpr rfl))
      refine ⟨c, S, n, ey, hD6, by show n + 1 < 4096; omega, ?_⟩
      generalize hnew : SetO X.w D (fun j => S j || decide (j = c)) (if S c = true then n else n + 1) = ob
      have hs : Same F6 (upd H6 D ob) := fun a x ha => by
        have z : a ≠ D := fun z => by subst z; rw [fD6] at ha; cases ha
        rw [upd_ne z]; exact b6D.sub a x ha
      have fr7 : Frm Tq H6 F6 (O6 ++ [D]) (upd H6 D ob) F6 (O6 ++ [D]) := ⟨Same.refl _, fun a x ha _ hn => by
        rw [upd_ne fun z => hn (by rw [z]; exact List.mem_append_right _ (List.mem_singleton.mpr rfl))]; exact ha, fun a ha => by
        by_cases z : a = D
        · subst z; rw [upd_same]; exact fun z => nomatch z
        · rw [upd_ne z]; exact ha, fun a ha => .inl ha, fun a ha => .inl ha, tab_own hD6 (fun _ z => nomatch z) fun _ => setO_code⟩
      have b7 : Bas Z F6 (upd H6 D ob) (O6 ++ [D]) := ⟨hs, b6D.nd, b6D.dis, b6D.abs.trans fr7⟩
      have o7 : OwE F6 (upd H6 D ob) O6 σ3 e6 := o6.stay (Same.refl _) fun a ha => upd_ne (nD a ha)
      obtain ⟨O8, Od8, h8, p8⟩ := o7.wipeO vs
      have p8' : (O6 ++ [D]).Perm ((O8 ++ [D]) ++ Od8) := (p8.append_right [D]).trans (by
        rw [List.append_assoc, List.append_assoc]
        exact List.perm_append_comm.append_left O8)
      refine ⟨F6, O8, wipeE e6 vs, e6, acc ++ [c], _, _, (b7.perm p8').left, h8.wiped ?_, rfl, by rw [upd_same, ← hnew], by split <;> omega, fun d => ?_, (frD6.trans fr7).perm (fun _ => Iff.rfl) fun c hc => p8'.mem_iff.mpr (List.mem_append_left _ hc), q7⟩
      · rw [wipe_wipe]
        exact hw.symm
      · rw [Bool.or_eq_true, decide_eq_true_eq, hS, List.mem_append, List.mem_singleton]
    · have e' : i = ds.length := by omega
      subst e'
      refine .inl ⟨g2 (List.getElem?_eq_none (Nat.le_refl _)), D, S, n, rfl, hDl, by omega, fun ns p pw mem len hp => ?_⟩
      have oN : OwE F H O σ0 e := by
        subst he0
        exact o.wiped wipe_wipe.symm
      have frN : Frm Tq H0 F0 O0 H F O := fr1.trans (fr.perm (fun _ => Iff.rfl) fun c hc => List.mem_append_left _ hc)
      exact ((NewV.lst b.left.sub (rpa_ints ns) hp (k := fun t => t = .lst p (ns.map PyData.int)) rfl).post b.left oN (fun t e => by subst e; exact done acc _ hI ns p pw fun c => (mem c).trans (hS c))).from frN
theorem w_sortSc {g : TG} {f : TF} {ix : List Nat} {scope : Scope} {own : List (Str × Nat)} {p pos2 : Pos} (hu : X.A.units + 110 < cLine) (hm : X.mg "sorted" = none) (hc : X.calm = true) (hN : X.N.Nodup) (ok : BlkOk X.N X.env.scope scope own) (hg : Blk X scope fun X' => PG X' tg g) (gk : GOk Z g f ix) (hix : ∀ i ∈ ix, i ∈ own.map (·.2))
    (h : WI Z X tg iter env (ScI Z X scope f elt (own.map (·.2)) PR)) (hg2 : Gl X "sorted" := by rfl) (hs : ∀ x, foldedSetIterable iter X.env x = pure x := by intro _; rfl)
    (he : starEach [.SetComp elt [⟨tg, iter, [], 0⟩] scope pos] X.env = (false, eval (.SetComp elt [⟨tg, iter, [], 0⟩] scope pos) X.env) :: starEach [] X.env := by rfl) : WE Z X (.Call (.Name "sorted" p) [.SetComp elt [⟨tg, iter, [], 0⟩] scope pos] [] pos2) env PR :=
  we_of (pe_callB (cr_sortS hc hu) hg2 hm (by rfl) (pa_cons (pe_scI (own := own) hc hN (pi_I (Z := Z)) ok hg (pe_AB (Z := Z)) hs) pa_nil he) (by decide) (by decide) he) fun σ H F O b o => sc_read gk hix b o h
end
end QL

/-! QTu: sorted(set(e)), e a list or a tuple of ints. -/
namespace QL
open PySem PySem.Spec PyProof.Rows L2
section
variable {P : Program} {w : World} {A : Around} {E : Value → Shared → Prop} {s : Shared}
/-- an empty set, new -/
abbrev newS (w : World) : Obj := { cls := .type "set", dict := none, data := .set #[] 0 (.fresh 0 0 (!w.params.followText "set-order")) }
theorem size_ne {h : Heap} {b : Addr} {o : Obj} (e : h.get? b = some o) (x : Obj) : b ≠ h.objs.size ∧ b ≠ (h.push x).objs.size :=
  have lt := Heap.lt_size e
  ⟨Nat.ne_of_lt lt, by rw [Heap.size_push]; exact Nat.ne_of_lt (Nat.lt_succ_of_lt lt)⟩
theorem call_set_lstI {l : Addr} {items : Array Value} (ns : List Int) {Q : Value → Shared → Prop} (hh : A.handled = none) (hl : s.heap.IsList l items) (hit : IntsAre items.toList ns) (hb : ns.length + 1 < scanBound)
    (h : ∀ (h' : Heap) (tk c : Nat), SetR w h' s.heap.objs.size (fun j => decide (j ∈ ns)) c → c ≤ ns.length → (∀ b o, s.heap.get? b = some o → h'.get? b = some o) → Q (.ref s.heap.objs.size) { s with heap := h', toks := tk }) :
    wpAny (model P w) A (call (.type "set") [.ref l]) Q E s := by
  have hisz : items.size = ns.length := (Array.length_toList (xs := items)).symm.trans (IntsAre.length hit)
  obtain ⟨c, tl, hmro⟩ := F.called_set.mro
  have hmade := F.called_set.made
  have hsub := F.called_set.sub
  refine wpAny_call (codeAny_of_tree ?_)
  show wpAny _ _ (callAny (.type "set") _) _ _ _
  refine wpAny_pure ⟨Code.quiet_builtin _ (by decide +kernel), codeAny_builtin F.entry_type_call ?_⟩
  rw [Around.under_plain (weight_type_call_type "set" [.ref l] []) rfl]
  have h1 := F.called_set.notType
  have h2 := F.called_set.canCreate
  have hct := F.typeCall_set_1 (.ref l)
  repeat (any_goals (first | assumption | wp_step))
  refine codeAny_mono (code_set_led1 (.ref l) (E := E) (Q₁ := fun obj s₁ => obj = .ref s.heap.objs.size ∧ s₁ = { s with heap := s.heap.push (newS w) }) ⟨rfl, rfl⟩) fun r s₁ hr => ?_
  cases r with
  | error e => exact hr
  | ok fl =>
    cases fl with
    | ret obj =>
      obtain ⟨rfl, rfl⟩ := hr
      have hS : (s.heap.push (newS w)).get? s.heap.objs.size = some (newS w) := Heap.get?_push_size _ rfl
      have hT : Shared.TypeIs { s with heap := s.heap.push (newS w) } (.ref s.heap.objs.size) "set" := ⟨_, hS, rfl⟩
      have hli := F.called_set.init.lookup
      have hbi := F.called_set.init.bind (.ref s.heap.objs.size)
      repeat (any_goals (first | assumption | wp_step))
      refine codeAny_mono (codeAny_call_builtin (R := wants (fun r s₂ => r = .none ∧ ∃ h' tk c, s₂ = { s with heap := h', toks := tk } ∧ SetR w h' s.heap.objs.size (fun j => decide (j ∈ ns)) c ∧ c ≤ ns.length ∧
          (∀ b o, s.heap.get? b = some o → h'.get? b = some o)) E) F.called_set.init.plain F.entry_set_init (check_set_init_1 hT ?_)) fun r₂ s₂ hr₂ => ?_
      · obtain ⟨ol, hol, hcl, nl, hdl⟩ := hl
        obtain ⟨ocls, odict, odata, oslots⟩ := ol
        simp only at hcl hdl
        subst hcl; subst hdl
        have hol' : (s.heap.push (newS w)).get? l = some { cls := .type "list", dict := odict, data := .seq items nl, slots := oslots } := Heap.get?_push_of_some _ hol
        have hsls := F.sub_list_set
        have hslf := F.sub_list_frozenset
        have hne : (Value.type "list" == Value.type "dict") = false := by decide
        have hl1 : (s.heap.push (newS w)).IsList l items := ⟨_, hol', rfl, nl, rfl⟩
        unfold Builtin.«set.__init__» noKeywords Builtin.Frozenset.updateFrom
        generalize hPI : pyIter = PI
        wp_walk
        subst hPI
        refine wpAny_pyIter_list hl1 ?_
        refine wpAny_bind (wpAny_runValue ?_)
        have hh3 : A.in1.in1.in1.handled = none := by simp [hh]
        obtain ⟨n1, n2⟩ := size_ne hol (newS w)
        have hSf : s.heap.objs.size ∉ [(s.heap.push (newS w)).objs.size, l] := by
          rw [Heap.size_push]; simp only [List.mem_cons, List.not_mem_nil, or_false, not_or]
          exact ⟨Nat.ne_of_lt (Nat.lt_succ_self _), fun z => n1 z.symm⟩
        have hval : ∀ (i : Nat) (v : Value), items[i]? = some v → ∃ k t, ns[i]? = some k ∧ v = .int k t := fun i v hv => by
          have hi : i < ns.length := by rw [← hisz]; exact (Array.getElem?_eq_some_iff.mp hv).1
          obtain ⟨t, e⟩ := PyProof.Rows.IntsAre.int_at hit i v (by rw [Array.getElem?_toList]; exact hv)
          refine ⟨ns[i], t, List.getElem?_eq_getElem hi, ?_⟩
          rw [e, List.getD_eq_getElem?_getD, List.getElem?_eq_getElem hi] <;> rfl
        refine set_update_ints ((Walks.list hh3 _ l n2 items).toS) s.heap.objs.size
          hSf ns hisz hb hval (items.size - 0) 0 _ (by omega) (Nat.zero_le _)
          ⟨⟨_, Heap.get?_push_size _ rfl, rfl, rfl⟩, (hl1.push _)⟩ ⟨0, Nat.le_refl 0, setR_new_at (Heap.get?_push_of_some _ hS)⟩ fun s' c' hm hc' hS' => ?_
        obtain ⟨h', g2, d', tk', os'⟩ := s'
        have eg : g2 = s.gens := hm.gens
        have ed : d' = s.drawn := hm.drawn
        have eo : os' = s.os := hm.os
        subst eg; subst ed; subst eo
        show wpAny _ _ _ _ _ _
        refine wpAny_pure ?_
        show wpAny _ _ (ret Value.none) _ _ _
        rw [hisz] at hc'
        refine wpAny_pure ⟨rfl, h', tk', c', rfl, hS', hc', fun b o e => ?_⟩
        obtain ⟨m1, m2⟩ := size_ne e (newS w)
        exact hm.heap b o (by simp only [List.mem_cons, List.not_mem_nil, or_false, not_or]; exact ⟨m1, m2⟩) (Heap.get?_push_of_some _ (Heap.get?_push_of_some _ e))
      · cases r₂ with
        | error e => exact hr₂
        | ok fl₂ =>
          cases fl₂ with
          | ret r =>
            obtain ⟨rfl, h', tk, c', rfl, hS', hc', hk'⟩ := hr₂
            repeat (any_goals (first | assumption | wp_step))
            exact h _ _ _ hS' hc' hk'
          | _ => exact hr₂.elim
    | _ => exact hr.elim
end
section
variable {X : Cx}
def rSetI (K : PySem.W.Frag) (w : World) : List V → Hp → VK → Prop := fun vs H Q => ∃ (p : Addr) (ns : List Int), vs = [V.ref p] ∧ (SqL K H p (ns.map V.int) ∨ SqT K H p (ns.map V.int)) ∧ ns.length + 1 < scanBound ∧
  ∀ D c, H D = none → c ≤ ns.length → Q (.ref D) (upd H D (SetO w D (fun j => decide (j ∈ ns)) c))
theorem cr_setI (hc : X.calm = true) : CallR X (.type "set") (rSetI X.K X.w) := by
  intro pins s σ H vs us Q I r h
  obtain ⟨p, ns, rfl, hq, hb, q⟩ := h
  rw [Vals.ref1 r]
  have fin : ∀ (h' : Heap) (tk c : Nat), SetR X.w h' s.heap.objs.size (fun j => decide (j ∈ ns)) c → c ≤ ns.length → (∀ b o, s.heap.get? b = some o → h'.get? b = some o) → EP X pins σ Q (.ref s.heap.objs.size) { s with heap := h', toks := tk } := fun h' tk c R hc k =>
    ⟨.ref s.heap.objs.size, _, I.laid (t' := tk) k (Nat.le_refl _) (setO_new R), rfl, q _ c (I.hok.fresh (Nat.le_refl _)) hc⟩
  rcases hq with hq | hq
  · obtain ⟨its, rv, pt, hz⟩ := I.list hq
    exact call_set_lstI ns (I.ok.hd hc) pt.isList (by simpa using ints_of_vals rv) hb fin
  · obtain ⟨its, rv, pt, hz⟩ := I.tuple hq
    exact call_set_tupI ns (I.ok.hd hc) (show s.heap.IsTuple p its.toArray from pt) (by simpa using ints_of_vals rv) hb fin
end
theorem rpa_ints_inv {F : Hp} : ∀ {vs : List V} {ns : List Int}, RpA F vs (ns.map PyData.int) → vs = ns.map V.int
  | [], [], _ => rfl
  | [], n :: ns, h => nomatch h
  | v :: vs, [], h => nomatch h
  | v :: vs, n :: ns, h => by
    cases h with
    | cons a b =>
      cases a
      rw [rpa_ints_inv b]; rfl
section
variable {Tq : List (Addr × Str)} {Z : Zb Tq} {X : Cx} {env : Env} {PR : R → Env → Prop} {e : Expr} {pos : Pos}
theorem w_sortSet {p p2 pos2 : Pos} (hu : X.A.units + 110 < cLine) (hm : X.mg "sorted" = none) (hm2 : X.mg "set" = none) (hc : X.calm = true)
    (h : WA Z X e env fun a e1 => View a e1 fun d => ∃ ns : List Int, (d = .list (ns.map PyData.int) ∨ d = .tuple (ns.map PyData.int)) ∧ ns.length < 4000 ∧ ∀ (ms : List Int) q, ms.Pairwise (· < ·) → (∀ c, c ∈ ms ↔ c ∈ ns) → PR (.t (.lst q (ms.map PyData.int))) e1)
    (hg : Gl X "sorted" := by rfl) (hg2 : Gl X "set" := by rfl) (na : starEach [e] X.env = (false, eval e X.env) :: starEach [] X.env := by rfl)
    (he : starEach [.Call (.Name "set" p2) [e] [] pos2] X.env = (false, eval (.Call (.Name "set" p2) [e] [] pos2) X.env) :: starEach [] X.env := by rfl) : WE Z X (.Call (.Name "sorted" p) [.Call (.Name "set" p2) [e] [] pos2] [] pos) env PR :=
  we_of (pe_callB (cr_sortS hc hu) hg hm (by rfl) (pa_cons (pe_callTy (cr_setI hc) hg2 hm2 (by rfl) (pa_cons (pe_A (Z := Z)) pa_nil na) (by decide) (by decide) na) pa_nil he) (by decide) (by decide) he) fun σ H F O b o =>
    ⟨env, F, O, _, b, o, h, fun v H1 ⟨F1, O1, a1, e1, b1, o1, st, fr, q⟩ => by
      obtain ⟨d, w, ns, hd, hl, q⟩ := View.vw q o1 st
      have fin : ∀ {p : Addr}, v = .ref p → (SqL X.K H1 p (ns.map V.int) ∨ SqT X.K H1 p (ns.map V.int)) → rSetI X.K X.w [v] H1 fun v' H2 => rSortS X.w [v'] H2 (Post Z σ H F O PR) := fun {p} ev hs => by
        refine ⟨p, ns, by rw [ev], hs, by unfold scanBound; omega, fun D c hD hcn => ⟨D, _, c, rfl, upd_same, by omega, fun ms q2 pw mem len hq2 => ?_⟩⟩
        obtain ⟨b2, o2, fr2⟩ := b1.grow o1 (Same.refl _) (same_new (o := SetO X.w D (fun j => decide (j ∈ ns)) c) hD) (b1.sub.trans (same_new hD)) fun _ z => .inl z
        exact ((NewV.lst b2.sub (rpa_ints ms) hq2 (k := fun t => t = .lst q2 (ms.map PyData.int)) rfl).post b2 o2 (fun t e => by subst e; exact q ms q2 pw fun c => by rw [mem, decide_eq_true_eq])).from (fr.trans fr2)
      rcases hd with rfl | rfl
      · obtain ⟨p, vs, rfl, h1, r1⟩ := w.lst' b1.sub
        rw [rpa_ints_inv r1] at h1
        exact fin rfl (.inl (SqL.of h1))
      · obtain ⟨p, vs, rfl, h1, r1⟩ := w.tup
        rw [rpa_ints_inv r1] at h1
        exact fin rfl (.inr (SqT.of (b1.sub _ _ h1)))⟩
end
end QL

/-! QTw: xs.extend(list); d[k] = v, sorted(d) and d.get(k, x) of a dict that this name alone holds. -/
namespace QL
open PySem PySem.Spec PyProof.Rows L2
section
variable {Tq : List (Addr × Str)} {Z : Zb Tq} {X : Cx} {env : Env} {P : R → Env → Prop} {PO : Out → Prop} {e o ix f : Expr} {pos : Pos}
theorem w_extend {apos : Pos} (h : WE Z X o env fun r e1 => ∃ a i p ds0, r = .bor a i p ∧ getP i p e1 = some (.lst a ds0) ∧ WA Z X e e1 fun a1 e2 => View a1 e2 fun d => ∃ ys ds1, d = .list ys ∧ getP i p e2 = some (.lst a ds1) ∧ ds1.length + ys.length ≤ sizeLine ∧ P (.t (.va .none)) (setP i p (.lst a (ds1 ++ ys)) e2))
    (hbase : attributeBase o "extend" X.env (eval o X.env) = eval o X.env := by rfl)
    (hfew : ((backTo pos (starEach [e] X.env)).all (fun x => !x.1) && (backToKw pos (keywordEach [] X.env)).all (fun x => x.1.isSome)
      && decide (([e] : List Expr).length + ([] : List Keyword).length + (if ([] : List Keyword).isEmpty then 0 else 1) < 30)) = true := by rfl)
    (hline : (apos.endLine == pos.line) = true := by rfl) (hs : starEach [e] X.env = (false, eval e X.env) :: starEach [] X.env := by rfl) (hpl : (backTo pos (starEach [] X.env)).any (·.1) = false := by rfl) :
    WE Z X (.Call (.Attribute o "extend" apos) [e] [] pos) env P :=
  we_of (pe_bm PySem.F.plainAttrs_list PySem.F.slot_list_extend PySem.F.type_list_extend mt_extend (pe_E (Z := Z)) (pa_cons (pe_A (Z := Z)) pa_nil hs) hbase hfew hline hs hpl) fun σ H F O b0 o0 =>
    ⟨env, F, O, _, b0, o0, h, fun v H1 ⟨F1, O1, r, e1, b1, st, fr1, a, i, p, ds0, er, hg, q⟩ => by
      subst er
      obtain ⟨o1, ev⟩ := st
      subst ev
      refine ⟨lst_at o1 hg, e1, F1, O1, _, b1, o1, q, fun v2 H2 ⟨F2, O2, a2, e2, b2, o2, st2, fr2, q2⟩ => ?_⟩
      obtain ⟨d, w, ys, ds1, rfl, hg3, hz, q3⟩ := View.vw q2 o2 st2
      obtain ⟨pb, vs, rfl, hb, r1⟩ := w.lst' b2.sub
      obtain ⟨xs, hH, rx, up⟩ := mutL b2 o2 hg3
      obtain ⟨O4, b4, o4, fr4⟩ := up (xs ++ vs) (ds1 ++ ys) (rx.app r1)
      exact ⟨a, pb, xs, vs, rfl, rfl, hH, hb, by rw [rx.len, r1.len]; exact hz, (post_val b4 o4 .non q3).from ((fr1.trans fr2).trans fr4)⟩⟩
theorem ws_parA (i j : Nat) {a b : Expr} {x y : Str} {px py pt : Pos} {kt k2 pt2} (hc : X.calm = true) (hN : X.N.Nodup)
    (h : WAs Z X [a, b] env fun as e1 => absorb as e1 fun ds e2 => ∃ d1 d2, ds = [d1, d2] ∧ i < e2.length ∧ j < e2.length ∧ PO (.nx ((e2.set i (some (.va d1))).set j (some (.va d2)))))
    (hi : X.N[i]? = some x := by rfl) (hj : X.N[j]? = some y := by rfl) (hij : i ≠ j := by decide) (hx : X.env.scope.names.lookup x = some .local := by rfl) (hy : X.env.scope.names.lookup y = some .local := by rfl)
    (hw : swappedStores [.Tuple [.Name x px, .Name y py] kt pt] (.Tuple [a, b] k2 pt2) X.env = pure (some [x, y]) := by rfl)
    (hs : swapsWithSole [.Tuple [.Name x px, .Name y py] kt pt] (.Tuple [a, b] k2 pt2) pos.line X.env = pure false := by rfl) :
    WS Z X (.Assign [.Tuple [.Name x px, .Name y py] kt pt] (.Tuple [a, b] k2 pt2) pos) env PO :=
  ws_of (ps_par hc hN hi hj hij hx hy (pa_As (Z := Z)) hw hs) fun σ H F O b0 o => by
    refine ⟨env, F, O, _, b0, o, h, fun vs H1 ⟨F1, O1, as, e1, b1, o1, st1, fr1, h1⟩ => ?_⟩
    obtain ⟨F2, O2, ds, e2, b2, o2, r2, fr2, d1, d2, hd, li, lj, p⟩ := absorb_ok st1 b1 o1 h1
    subst hd
    cases r2 with
    | @cons v1 _ _ _ q1 r2 =>
    cases r2 with
    | @cons v2 _ _ _ q2 r2 =>
    cases r2
    obtain ⟨O5, P5, o5, p5⟩ := o2.set i (.va q1) li
    obtain ⟨O6, P6, o6, p6⟩ := o5.set j (.va q2) (by rw [List.length_set]; exact lj)
    rw [List.nil_append] at p5 p6
    obtain ⟨b5, f5⟩ := b2.dropP p5
    obtain ⟨b6, f6⟩ := b5.dropP p6
    exact ⟨v1, v2, rfl, F2, O6, _, b6, o6, ((fr1.trans fr2).trans f5).trans f6, p⟩
/-! ### dicts that are owned -/
theorem mutD {F H : Hp} {O : List Addr} {σ : L2.St} {i : Nat} {p : List Str} {a : Addr} {ds : List (Key × D)} (b : Bas Z F H O) (o : OwE F H O σ env) (hg : getP i p env = some (.dic a ds)) :
    ∃ xs, H a = some (.dK xs) ∧ RpT F xs ds ∧ ∀ ys es, RpT F ys es → ∃ O', Bas Z F (upd H a (.dK ys)) O' ∧ OwE F (upd H a (.dK ys)) O' σ (setP i p (.dic a es) env) ∧ Frm Tq H F O (upd H a (.dK ys)) F O' := by
  obtain ⟨w, ⟨Oj, O', h1, h2, h3⟩, _⟩ := o.focus hg
  cases h1 with
  | dic hH r =>
    refine ⟨_, hH, r, fun ys es r' => ?_⟩
    have nd := h2.nodup b.nd
    have ha : a ∈ O := h2.mem_iff.mpr (List.mem_append_left _ (List.mem_singleton.mpr rfl))
    have hn : ∀ c ∈ O', c ≠ a := fun c hc z => (List.nodup_append.mp nd).2.2 a (List.mem_singleton.mpr rfl) c hc z.symm
    obtain ⟨O'', q1, q2⟩ := h3 F (upd H a (.dK ys)) [a] (.dic a es) (Same.refl _) (fun c hc => upd_ne (hn c hc)) (.dic upd_same r')
    have pm : O.Perm O'' := h2.trans q2.symm
    have fr : Frm Tq H F O (upd H a (.dK ys)) F O'' := ⟨Same.refl _, fun c x e _ n => by rw [upd_ne fun z => n (by rw [z]; exact ha)]; exact e, fun c e => by
      by_cases z : c = a
      · subst z; rw [upd_same]; exact fun z => nomatch z
      · rw [upd_ne z]; exact e, fun c e => .inl e, fun c hc => .inl (pm.mem_iff.mpr hc), tab_own hH⟩
    have da := b.dis a ha
    refine ⟨O'', ⟨fun c x e => ?_, pm.nodup b.nd, fun c hc => b.dis c (pm.mem_iff.mpr hc), b.abs.trans fr⟩, q1, fr⟩
    rw [upd_ne fun z => by rw [z, da] at e; cases e]
    exact b.sub c x e
/-- the entry put, the key's place kept -/
def putT2 (kvs : List (Key × D)) (k : Key) (d : D) : List (Key × D) := if (kvs.any fun kv => decide (kv.1 = k)) = true then kvs.map fun kv => if kv.1 = k then (kv.1, d) else kv else kvs ++ [(k, d)]
theorem RpT.anyK {F : Hp} {k : Key} : ∀ {vs : List (Key × V)} {ds : List (Key × D)}, RpT F vs ds → (vs.any fun kv => decide (kv.1 = k)) = ds.any fun kv => decide (kv.1 = k)
  | _, _, .nil => rfl
  | _, _, .cons _ r => by rw [List.any_cons, List.any_cons, r.anyK]
theorem RpT.mapK {F : Hp} {k : Key} {v : V} {d : D} (q : Rp F v d) : ∀ {vs : List (Key × V)} {ds : List (Key × D)}, RpT F vs ds → RpT F (vs.map fun kv => if kv.1 = k then (kv.1, v) else kv) (ds.map fun kv => if kv.1 = k then (kv.1, d) else kv)
  | _, _, .nil => .nil
  | _, _, .cons (k := k2) r1 r => by
    rw [List.map_cons, List.map_cons]
    by_cases e : k2 = k
    · simp only [e, if_true]; exact .cons q (RpT.mapK q r)
    · simp only [e, if_false]; exact .cons r1 (RpT.mapK q r)
theorem RpT.putAny {F : Hp} {k : Key} {v : V} {d : D} {vs : List (Key × V)} {ds : List (Key × D)} (r : RpT F vs ds) (q : Rp F v d) : RpT F (putK vs k v) (putT2 ds k d) := by
  unfold putK putT2
  rw [r.anyK]
  split
  · exact RpT.mapK q r
  · exact r.app q
theorem ws_dput {sp : Pos} (hu : X.A.units + 1 < cLine) (h : WA Z X e env fun a1 e1 => WE Z X o e1 fun r e2 => ∃ a i p, r = .bor a i p ∧ WA Z X ix e2 fun a2 e3 => ∃ (k : Key) (d : D) (ds : List (Key × D)), a2 = .va (kD k) ∧ a1 = .va d ∧ getP i p e3 = some (.dic a ds) ∧ ds.length < sizeLine ∧ PO (.nx (setP i p (.dic a (putT2 ds k d)) e3)))
    (hs : swapsWith e (some (.Subscript o ix sp)) pos.line X.env = pure false := by rfl) : WS Z X (.Assign [.Subscript o ix sp] e pos) env PO :=
  ws_of (ps_dput hu (pe_E (Z := Z)) (pe_A (Z := Z)) (pe_A (Z := Z)) hs) fun σ H F O b0 o0 => ⟨env, F, O, _, b0, o0, h, fun v H1 ⟨F1, O1, a1, e1, b1, o1, st1, fr1, q1⟩ => ⟨e1, F1, O1, _, b1, o1, q1, fun x H2 ⟨F2, O2, r, e2, b2, st2, fr2, a, i, p, er, q2⟩ => by
    subst er
    obtain ⟨o2, ev⟩ := st2
    subst ev
    refine ⟨e2, F2, O2, _, b2, o2, q2, fun y H3 ⟨F3, O3, a2, e3, b3, o3, st3, fr3, k, d, ds, ea2, ea1, hg, hz, q3⟩ => ?_⟩
    subst ea1 ea2
    have ey : y = kV k := Rp.key st3
    have rv : Rp F1 v d := st1
    obtain ⟨xs, hH, rx, up⟩ := mutD b3 o3 hg
    obtain ⟨O4, b4, o4, fr4⟩ := up (putK xs k v) (putT2 ds k d) (rx.putAny (rv.mono (fr2.fz.trans fr3.fz)))
    exact ⟨a, _, rfl, .inl ⟨xs, k, hH, ey, by rw [rx.len]; exact hz, rfl⟩, F3, O4, _, b4, o4, (((fr1.trans fr2).trans fr3).trans fr4), q3⟩⟩⟩
theorem RpK.keys {F : Hp} : ∀ {kvs : List (Key × V)} {ds : List (Key × D)}, RpK F kvs (ds.map fun p => (kD p.1, p.2)) → kvs.map (·.1) = ds.map (·.1)
  | [], [], _ => rfl
  | [], q :: ds, r => nomatch r
  | p :: kvs, [], r => nomatch r
  | p :: kvs, q :: ds, r => by
    obtain ⟨k1, v1⟩ := p
    obtain ⟨k2, d2⟩ := q
    have r' : RpK F ((k1, v1) :: kvs) ((kD k2, d2) :: ds.map fun p => (kD p.1, p.2)) := r
    generalize hz : kD k2 = z at r'
    cases r' with
    | cons r1 r2 =>
      have ek : k2 = k1 := kD_inj hz
      subst ek
      rw [List.map_cons, List.map_cons, RpK.keys r2]
def rSortD : List V → Hp → VK → Prop := fun xs H Q => ∃ (a : Addr) (kvs : List (Key × V)) (ks : List Int), xs = [.ref a] ∧ Rd H a (.dK kvs) ∧ kvs.map (·.1) = ks.map Sum.inl ∧ ks.length < 64 ∧
    ∀ (ys : List Int) (p : Addr), ys.Perm ks → ys.Pairwise (· ≤ ·) → H p = none → Q (.ref p) (upd H p (.lst (ys.map V.int)))
theorem w_sortD {p : Pos} (hm : X.mg "sorted" = none) (hc : X.calm = true)
    (h : WA Z X e env fun a e1 => View a e1 fun d => ∃ (ds : List (Key × D)) (ks : List Int), d = .dict (ds.map fun p => (kD p.1, p.2)) ∧ ds.map (·.1) = ks.map Sum.inl ∧ ks.length < 64 ∧ ∀ (ys : List Int) q, ys.Perm ks → ys.Pairwise (· ≤ ·) → P (.t (.lst q (ys.map PyData.int))) e1)
    (hg : Gl X "sorted" := by rfl) (na : starEach [e] X.env = (false, eval e X.env) :: starEach [] X.env := by rfl) : WE Z X (.Call (.Name "sorted" p) [e] [] pos) env P :=
  we_of (pe_callB (r := rSortD) (call_sortedDI hc) hg hm (by rfl) (pa_cons (pe_A (Z := Z)) pa_nil na) (by decide) (by decide) na) fun σ H F O b o =>
    ⟨env, F, O, _, b, o, h, fun v H1 ⟨F1, O1, a1, e1, b1, o1, st, fr, q⟩ => by
      obtain ⟨d, w, ds, ks, rfl, hk, hl, q⟩ := View.vw q o1 st
      have fin : ∀ {a : Addr} {kvs : List (Key × V)}, v = .ref a → Rd H1 a (.dK kvs) → RpK F1 kvs (ds.map fun p => (kD p.1, p.2)) → rSortD [v] H1 (Post Z σ H F O P) := fun {a kvs} ev hr rk => by
        subst ev
        exact ⟨a, kvs, ks, rfl, hr, rk.keys.trans hk, hl, fun ys p2 pm pw hp2 => ((NewV.lst b1.sub (rpa_ints ys) hp2 (k := fun t => t = .lst p2 (ys.map PyData.int)) rfl).post b1 o1 (fun t e => by subst e; exact q ys p2 pm pw)).from fr⟩
      cases w with
      | pure r =>
        cases r with
        | dic hd rk => exact fin rfl (rd_mono b1.sub hd) rk
      | dic hd rk => exact fin rfl (.inl hd) rk⟩
end
end QL

/-! QTz: in, not in rows of ints; xs[i] += n; {k: x, l: y}; d.get(k, x); xs.remove(n); max(xs, default=n). -/
namespace QL
open PySem PySem.Spec PyProof.Rows L2
section
variable {X : Cx}
theorem inV_ints (i : Int) : ∀ ns : List Int, inV (.int i) (ns.map V.int) = decide (i ∈ ns)
  | [] => rfl
  | n :: ns => by
    show ((n == i) || inV (.int i) (ns.map V.int)) = _
    rw [inV_ints i ns]
    by_cases e : n = i
    · subst e; simp
    · have h1 : (n == i) = false := by simpa using e
      rw [h1, Bool.false_or]
      congr 1
      rw [List.mem_cons]
      exact propext ⟨.inr, fun h => h.resolve_left fun z => e z.symm⟩
theorem flat_ints : ∀ ns : List Int, (ns.map V.int).all flatV = true
  | [] => rfl
  | n :: ns => flat_ints ns
def inG (neg : Bool) (d1 d2 : D) (k : T → Prop) : Prop := ∃ (i : Int) (ns : List Int), d1 = .int i ∧ (d2 = .list (ns.map PyData.int) ∨ d2 = .tuple (ns.map PyData.int)) ∧ k (.va (.bool (if neg = true then !decide (i ∈ ns) else decide (i ∈ ns))))
theorem in_at {F H : Hp} {K : PySem.W.Frag} {v : V} {d : D} {ns : List Int} (sF : Same F H) (w : Vw F H v d) (hd : d = .list (ns.map PyData.int) ∨ d = .tuple (ns.map PyData.int)) : ∃ p, v = .ref p ∧ (SqL K H p (ns.map V.int) ∨ SqT K H p (ns.map V.int)) := by
  rcases hd with rfl | rfl
  · obtain ⟨p, vs, rfl, h1, r1⟩ := w.lst' sF
    rw [rpa_ints_inv r1] at h1
    exact ⟨p, rfl, .inl (SqL.of h1)⟩
  · obtain ⟨p, vs, rfl, h1, r1⟩ := w.tup
    rw [rpa_ints_inv r1] at h1
    exact ⟨p, rfl, .inr (SqT.of (sF _ _ h1))⟩
theorem dop_in : DOp X (compareOp .In) (inG false) := by
  intro pins s σ H F v1 v2 u1 u2 d1 d2 k I sF w1 w2 r1 r2 ⟨i, ns, e1, hd, q⟩
  subst e1
  cases w1.int
  obtain ⟨p, rfl, hp⟩ := in_at (K := X.K) sF w2 hd
  exact op_in_seq pins s σ H _ _ u1 u2 _ I r1 r2 ⟨p, _, rfl, hp, rfl, flat_ints ns, by rw [inV_ints]; exact NewV.val sF (.bl _) q⟩
theorem dop_notin : DOp X (compareOp .NotIn) (inG true) := by
  intro pins s σ H F v1 v2 u1 u2 d1 d2 k I sF w1 w2 r1 r2 ⟨i, ns, e1, hd, q⟩
  subst e1
  cases w1.int
  obtain ⟨p, rfl, hp⟩ := in_at (K := X.K) sF w2 hd
  exact op_notIn_seq pins s σ H _ _ u1 u2 _ I r1 r2 ⟨p, _, rfl, hp, rfl, flat_ints ns, by rw [inV_ints]; exact NewV.val sF (.bl _) q⟩
/-! ### xs[i] += n -/
def rGetL (K : PySem.W.Frag) : V → V → Hp → VK → Prop := fun o i H Q => ∃ (p : Addr) (xs : List V) (k : Nat) (y : V), o = .ref p ∧ i = .int (k : Int) ∧ k < 16777217 ∧ SqL K H p xs ∧ xs[k]? = some y ∧ Q y H
theorem get_lst : PGet X (rGetL X.K) := by
  intro pins s σ H o i ov iv Q I ro ri h
  obtain ⟨p, xs, k, y, rfl, rfl, hk, hq, hy, q⟩ := h
  cases ro
  obtain ⟨t, rfl⟩ := ri
  obtain ⟨its, r, pl, hz⟩ := I.list hq
  obtain ⟨w, ew, rw'⟩ := r.get hy
  exact wpAny_getItem_list pl.isList (by omega) (by omega) (by rw [Int.toNat_natCast]; simpa using ew) ⟨y, H, I, rw', q⟩
end
section
variable {Tq : List (Addr × Str)} {Z : Zb Tq} {X : Cx} {env : Env} {P : R → Env → Prop} {PO : Out → Prop} {e o ix f : Expr} {pos : Pos}
theorem ws_augix {tp : Pos} (h : WE Z X o env fun r e1 => ∃ a i p, r = .bor a i p ∧ WE Z X ix e1 fun r2 e2 => ∃ (j : Nat) (ds : List D) (c : Int), r2 = .t (.va (.int (j : Int))) ∧ getP i p e2 = some (.lst a ds) ∧ ds.length ≤ 16777216 ∧ ds[j]? = some (.int c) ∧
      WE Z X e e2 fun r3 e3 => ∃ (m : Int) (ds' : List D), r3 = .t (.va (.int m)) ∧ getP i p e3 = some (.lst a ds') ∧ ixN ds'.length (j : Int) = some j ∧ PO (.nx (setP i p (.lst a (ds'.set j (.int (c + m)))) e3)))
    (ha : ∀ ov iv new, augStore ix ov iv new = (do holding [new, ov, iv] (setItem ov iv new); release [new, ov, iv] []; pure .next) := by intros; rfl) : WS Z X (.AugAssign (.Subscript o ix tp) .Add e pos) env PO :=
  ws_of (ps_augS (pe_E (Z := Z)) (pe_E (Z := Z)) get_lst (pe_E (Z := Z)) ip_add set_list ha) fun σ H F O b0 o0 => ⟨env, F, O, _, b0, o0, h, fun ov H1 ⟨F1, O1, r, e1, b1, st1, fr1, a, i, p, er, q1⟩ => by
    subst er
    obtain ⟨o1, eov⟩ := st1
    subst eov
    refine ⟨e1, F1, O1, _, b1, o1, q1, fun iv H2 ⟨F2, O2, r2, e2, b2, st2, fr2, j, ds, c, er2, hg, hl, hc, q2⟩ => ?_⟩
    subst er2
    obtain ⟨Oa, Ob, rfl, o2, w2⟩ := st2
    cases w2 with
    | va rj =>
      cases rj
      rw [List.append_nil] at b2 fr2
      obtain ⟨xs, hH, rx, _⟩ := mutL b2 o2 hg
      obtain ⟨y, hy, ry⟩ := RpA.get' rx hc
      have hj : j < ds.length := (List.getElem?_eq_some_iff.mp hc).1
      refine ⟨a, xs, j, y, rfl, rfl, by omega, SqL.of hH, hy, ?_⟩
      cases ry
      refine ⟨e2, F2, Oa, _, b2, o2, q2, fun v H3 ⟨F3, O3, r3, e3, b3, st3, fr3, m, ds', er3, hg3, hj3, q3⟩ => ?_⟩
      subst er3
      obtain ⟨Oc, Od, rfl, o3, w3⟩ := st3
      cases w3 with
      | va rm =>
        cases rm
        rw [List.append_nil] at b3 fr3
        refine ⟨c, m, rfl, rfl, ?_⟩
        obtain ⟨ys, hH3, ry3, up⟩ := mutL b3 o3 hg3
        obtain ⟨O5, b5, o5, fr5⟩ := up (ys.set j (.int (c + m))) (ds'.set j (.int (c + m))) (ry3.set (.int _) j)
        refine ⟨a, ys, (j : Int), j, rfl, rfl, hH3, by rw [ry3.len]; exact hj3, ?_⟩
        exact ⟨F3, O5, _, b5, o5, ((fr1.trans fr2).trans fr3).trans fr5, q3⟩⟩
/-! ### dicts -/
theorem RpT.valo {F : Hp} {k : Key} : ∀ {vs : List (Key × V)} {ds : List (Key × D)}, RpT F vs ds → (valV vs k = none ∧ valT ds k = none) ∨ ∃ v d, valV vs k = some v ∧ valT ds k = some d ∧ Rp F v d
  | _, _, .nil => .inl ⟨rfl, rfl⟩
  | _, _, .cons (k := k2) r1 r => by
    unfold valV valT
    rw [List.find?_cons, List.find?_cons]
    by_cases e : k2 = k
    · simp only [e, decide_true]
      exact .inr ⟨_, _, rfl, rfl, r1⟩
    · simp only [e, decide_false]
      exact RpT.valo r
theorem lt1 {n : Nat} (h : n + 64 < cLine) : n + 1 < cLine := by omega
theorem w_dget2 {apos : Pos} (hu : X.A.units + 1 < cLine) (h : WE Z X o env fun r e1 => ∃ a i p ds0, r = .bor a i p ∧ getP i p e1 = some (.dic a ds0) ∧ WA Z X e e1 fun a2 e2 => WA Z X f e2 fun a3 e3 => ∃ (k : Key) (ds : List (Key × D)) (d : D), a2 = .va (kD k) ∧ a3 = .va d ∧ getP i p e3 = some (.dic a ds) ∧ P (.t (.va ((valT ds k).getD d))) e3)
    (m : M2 X o "get" apos e f pos := by exact ⟨rfl, rfl, rfl, rfl⟩) : WE Z X (.Call (.Attribute o "get" apos) [e, f] [] pos) env P :=
  we_of (pe_dget2 hu (pe_E (Z := Z)) (pe_A (Z := Z)) (pe_A (Z := Z)) m) fun σ H F O b0 o0 => ⟨env, F, O, _, b0, o0, h, fun v H1 ⟨F1, O1, r, e1, b1, st1, fr1, a, i, p, ds0, er, hg, q1⟩ => by
    subst er
    obtain ⟨o1, ev⟩ := st1
    subst ev
    obtain ⟨xs0, hH0, _, _⟩ := mutD b1 o1 hg
    refine ⟨a, rfl, .inl ⟨xs0, .inl hH0⟩, e1, F1, O1, _, b1, o1, q1, fun y H2 ⟨F2, O2, a2, e2, b2, o2, st2, fr2, q2⟩ => ⟨e2, F2, O2, _, b2, o2, q2, fun z H3 ⟨F3, O3, a3, e3, b3, o3, st3, fr3, k, ds, d, ea2, ea3, hg3, q3⟩ => ?_⟩⟩
    subst ea2 ea3
    have ey : y = kV k := Rp.key st2
    have rz : Rp F3 z d := st3
    obtain ⟨xs, hH, rx, _⟩ := mutD b3 o3 hg3
    refine ⟨valV xs k, .inl ⟨xs, k, .inl hH, ey, rfl⟩, ?_⟩
    rcases rx.valo (k := k) with ⟨n1, n2⟩ | ⟨v1, d1, n1, n2, rv⟩
    · rw [n1]
      rw [n2] at q3
      exact (post_val b3 o3 rz q3).from ((fr1.trans fr2).trans fr3)
    · rw [n1]
      rw [n2] at q3
      exact (post_val b3 o3 rv q3).from ((fr1.trans fr2).trans fr3)⟩
/-- {k1: v1, k2: v2} -/
theorem w_dict2 {k1 k2 v1 v2 : Expr} (h : WE Z X k1 env fun r1 e1 => ∃ y1 : Key, r1 = .t (.va (kD y1)) ∧ WE Z X v1 e1 fun r2 e2 => ∃ d1, r2 = .t (.va d1) ∧ WE Z X k2 e2 fun r3 e3 => ∃ y2 : Key, r3 = .t (.va (kD y2)) ∧ WE Z X v2 e3 fun r4 e4 => ∃ d2, r4 = .t (.va d2) ∧ y1 ≠ y2 ∧ ∀ p, P (.t (.dic p [(y1, d1), (y2, d2)])) e4) :
    WE Z X (.Dict [some k1, some k2] [v1, v2] pos) env P :=
  we_of (pe_disp (pps_cons (pe_E (Z := Z)) (pe_E (Z := Z)) (pps_cons (pe_E (Z := Z)) (pe_E (Z := Z)) pps_nil)) rfl rfl (by simp) (by simp)) fun σ H F O b o p hp => by
    obtain ⟨bp, op, frp⟩ := b.grow o (Same.refl _) (same_new (o := .dK []) hp) (b.sub.trans (same_new hp)) fun _ z => .inl z
    have hpO : p ∉ O := fun z => o.there p z hp
    -- each value is data
    have one : ∀ {F O : Hp → Prop}, True := fun {F O} => trivial
    refine ⟨env, F, O, _, bp, op, h, fun x1 H1 ⟨F1, O1, r1, e1, b1, st1, fr1, y1, er1, q1⟩ => ?_⟩
    subst er1
    obtain ⟨Oa, Ob, rfl, o1, w1⟩ := st1
    cases w1 with
    | va rk1 =>
    rw [List.append_nil] at b1 fr1
    have ek1 := rk1.key
    refine ⟨e1, F1, Oa, _, b1, o1, q1, fun x2 H2 ⟨F2, O2, r2, e2, b2, st2, fr2, d1, er2, q2⟩ => ?_⟩
    subst er2
    obtain ⟨Oc, Od, rfl, o2, w2⟩ := st2
    cases w2 with
    | va rv1 =>
    rw [List.append_nil] at b2 fr2
    refine ⟨e2, F2, Oc, _, b2, o2, q2, fun x3 H3 ⟨F3, O3, r3, e3, b3, st3, fr3, y2, er3, q3⟩ => ?_⟩
    subst er3
    obtain ⟨Oe, Of, rfl, o3, w3⟩ := st3
    cases w3 with
    | va rk2 =>
    rw [List.append_nil] at b3 fr3
    have ek2 := rk2.key
    refine ⟨e3, F3, Oe, _, b3, o3, q3, fun x4 H4 ⟨F4, O4, r4, e4, b4, st4, fr4, d2, er4, ne, q4⟩ => ?_⟩
    subst er4
    obtain ⟨Og, Oh, rfl, o4, w4⟩ := st4
    cases w4 with
    | va rv2 =>
    rw [List.append_nil] at b4 fr4
    have fr : Frm Tq (upd H p (.dK [])) F O H4 F4 Og := ((fr1.trans fr2).trans fr3).trans fr4
    have hp4 : H4 p = some (.dK []) := fr.out p _ upd_same (fun _ z => nomatch z) hpO
    have fp : F p = none := b.sub.free hp
    have fp4 : F4 p = none := by
      cases z : F4 p with
      | none => rfl
      | some x =>
        rcases fr.newF p (by rw [z]; exact fun z => nomatch z) with y | y | y
        · exact absurd fp y
        · rw [upd_same] at y; cases y
        · exact absurd y hpO
    have pa : p ∉ Og := fun z => (fr.newO p z).elim hpO fun y => by rw [upd_same] at y; cases y
    refine ⟨hp4, [(y1, x2), (y2, x4)], by rw [ek1, ek2]; rfl, by simp, ?_⟩
    have em : mergeK [] [(y1, x2), (y2, x4)] = [(y1, x2), (y2, x4)] := by
      show putK (putK [] y1 x2) y2 x4 = _
      unfold putK
      simp [ne]
    rw [em]
    generalize hob : (HO.dK [(y1, x2), (y2, x4)] : HO) = ob
    have s1 : Same F4 (upd H4 p ob) := fun c y z => by
      rw [upd_ne fun y => by rw [y, fp4] at z; cases z]
      exact b4.sub c y z
    have keep : ∀ c ∈ Og, upd H4 p ob c = H4 c := fun c hc => upd_ne fun z => pa (z ▸ hc)
    have fr2' : Frm Tq H F O (upd H4 p ob) F4 (Og ++ [p]) := by
      have f := frp.trans fr
      refine ⟨f.fz, fun c y hc nt n => ?_, fun c hc => ?_, fun c hc => ?_, fun c hc => ?_, f.tb.trans (tab_own hp4)⟩
      · have : c ≠ p := fun z => by rw [z, hp] at hc; cases hc
        rw [upd_ne this]
        exact f.out c y hc nt n
      · by_cases z : c = p
        · subst z; rw [upd_same]; exact fun z => nomatch z
        · rw [upd_ne z]; exact f.al c hc
      · exact f.newF c hc
      · rcases List.mem_append.mp hc with z | z
        · exact f.newO c z
        · rw [List.mem_singleton.mp z]; exact .inr hp
    refine ⟨F4, Og ++ [p], .t (.dic p [(y1, d1), (y2, d2)]), e4, ⟨s1, List.nodup_append.mpr ⟨b4.nd, List.nodup_cons.mpr ⟨fun z => (nomatch z), List.nodup_nil⟩, fun c hc c' hc' z => ?_⟩, fun c hc => ?_, b.abs.trans fr2'⟩, ⟨Og, [p], rfl, o4.stay (Same.refl _) keep, .dic (by rw [upd_same, ← hob]) (.cons (rv1.mono (fr3.fz.trans fr4.fz)) (.cons rv2 .nil))⟩, fr2', q4 p⟩
    · rw [List.mem_singleton.mp hc'] at z
      exact pa (z ▸ hc)
    · rcases List.mem_append.mp hc with z | z
      · exact b4.dis c z
      · rw [List.mem_singleton.mp z]; exact fp4
/-! ### xs.remove(n) -/
theorem w_remove {apos : Pos} (h : WE Z X o env fun r e1 => ∃ a i p ds0, r = .bor a i p ∧ getP i p e1 = some (.lst a ds0) ∧ WA Z X e e1 fun a1 e2 => ∃ (k : Int) (ns : List Int) (j : Nat), a1 = .va (.int k) ∧ getP i p e2 = some (.lst a (ns.map PyData.int)) ∧ ns[j]? = some k ∧ (∀ m : Nat, m < j → ns[m]? ≠ some k) ∧ P (.t (.va .none)) (setP i p (.lst a ((ns.eraseIdx j).map PyData.int)) e2))
    (hbase : attributeBase o "remove" X.env (eval o X.env) = eval o X.env := by rfl)
    (hfew : ((backTo pos (starEach [e] X.env)).all (fun x => !x.1) && (backToKw pos (keywordEach [] X.env)).all (fun x => x.1.isSome)
      && decide (([e] : List Expr).length + ([] : List Keyword).length + (if ([] : List Keyword).isEmpty then 0 else 1) < 30)) = true := by rfl)
    (hline : (apos.endLine == pos.line) = true := by rfl) (hs : starEach [e] X.env = (false, eval e X.env) :: starEach [] X.env := by rfl) (hpl : (backTo pos (starEach [] X.env)).any (·.1) = false := by rfl) :
    WE Z X (.Call (.Attribute o "remove" apos) [e] [] pos) env P :=
  we_of (pe_bm PySem.F.plainAttrs_list PySem.F.slot_list_remove PySem.F.type_list_remove mt_remove (pe_E (Z := Z)) (pa_cons (pe_A (Z := Z)) pa_nil hs) hbase hfew hline hs hpl) fun σ H F O b0 o0 =>
    ⟨env, F, O, _, b0, o0, h, fun v H1 ⟨F1, O1, r, e1, b1, st, fr1, a, i, p, ds0, er, hg, q⟩ => by
      subst er
      obtain ⟨o1, ev⟩ := st
      subst ev
      refine ⟨lst_at o1 hg, e1, F1, O1, _, b1, o1, q, fun v2 H2 ⟨F2, O2, a2, e2, b2, o2, st2, fr2, k, ns, j, ea, hg3, hj, hno, q3⟩ => ?_⟩
      subst ea
      have ev2 : v2 = .int k := by cases (show Rp F2 v2 (.int k) from st2); rfl
      obtain ⟨xs, hH, rx, up⟩ := mutL b2 o2 hg3
      have ex := rpa_ints_inv rx
      subst ex
      obtain ⟨O4, b4, o4, fr4⟩ := up ((ns.eraseIdx j).map V.int) ((ns.eraseIdx j).map PyData.int) (rpa_ints _)
      exact ⟨a, ns, k, j, rfl, by rw [ev2], hH, hj, hno, (post_val b4 o4 .non q3).from ((fr1.trans fr2).trans fr4)⟩⟩
/-! ### max(xs, default=n) -/
theorem reads_ints {h : Heap} : ∀ {us : List Value} {ns : List Int}, IntsAre us ns → ∃ as, ReadsAll h us (ns.map PyData.int) as
  | _, _, .nil => ⟨_, .nil⟩
  | _, _, .cons k t r => by
    obtain ⟨as, q⟩ := reads_ints (h := h) r
    exact ⟨_, .cons (.int k t) q⟩
def rMaxDef (K : PySem.W.Frag) : List V → List V → Hp → VK → Prop := fun xs zs H Q => ∃ (p : Addr) (ns : List Int) (n : Int), xs = [.ref p] ∧ zs = [.int n] ∧ (SqL K H p (ns.map V.int) ∨ SqT K H p (ns.map V.int)) ∧ Q (.int (match ns with
  | [] => n
  | m :: ms => ms.foldl max m)) H
theorem cr_maxDef {X : Cx} (hc : X.calm = true) (hu : X.A.units + 110 < cLine) : CallRK X (.builtin "max") [Str.ofString "default"] (rMaxDef X.K) := by
  intro pins s σ H xs zs us ws Q I r1 r2 ⟨p, ns, n, ex, ez, hs, q⟩
  subst ex ez
  rw [Vals.ref1 r1]
  obtain ⟨w, rfl, rw'⟩ := r2.one
  obtain ⟨t, rfl⟩ := rw'
  have al : W.AlikeAll (ns.map PyData.int) := by
    refine ⟨fun x hx y hy => ?_, fun x hx => ?_⟩
    · obtain ⟨i, _, rfl⟩ := List.mem_map.mp hx
      obtain ⟨j, _, rfl⟩ := List.mem_map.mp hy
      rfl
    · obtain ⟨i, _, rfl⟩ := List.mem_map.mp hx
      exact fun z => nomatch z
  have dp : PyData.depthAll (ns.map PyData.int) ≤ 0 := depthAll_map (k := 0) fun x _ => Nat.le_refl 0
  have f0 : ns.map PyData.int = [] → ∀ h' tk, (∀ b o, s.heap.get? b = some o → h'.get? b = some o) → EP X pins σ Q (.int n t) { s with heap := h', toks := tk } := fun e h' tk k => by
    have e2 := List.map_eq_nil_iff.mp e
    subst e2
    exact ⟨.int n, H, I.kept k, ⟨t, rfl⟩, q⟩
  have f1 : ∀ {its : List Value}, IntsAre its ns → ∀ (y : PyData) (ys : List PyData) (i : Nat) v h' tk bs, ns.map PyData.int = y :: ys → its.toArray[i]? = some v → Reads h' v (W.maxD y ys) bs → (∀ b o, s.heap.get? b = some o → h'.get? b = some o) → EP X pins σ Q v { s with heap := h', toks := tk } := fun {its} hi y ys i v h' tk bs e hv r k => by
    cases ns with
    | nil => cases e
    | cons m ms =>
      rw [List.map_cons] at e
      obtain ⟨rfl, rfl⟩ := List.cons.inj e
      rw [W.maxD_ints] at r
      cases r with
      | int _ t2 => exact ⟨.int (ms.foldl max m), H, I.kept k, ⟨t2, rfl⟩, q⟩
  rcases hs with hs | hs
  · obtain ⟨its, rv, pl, hz⟩ := I.list hs
    have hi := ints_of_vals rv
    obtain ⟨as, rd⟩ := reads_ints (h := s.heap) hi
    exact W.max_list_default (I.ok.hd hc) pl.isList (by simpa using rd) al (by omega) f0 (f1 hi)
  · obtain ⟨its, rv, pl, hz⟩ := I.tuple hs
    have hi := ints_of_vals rv
    obtain ⟨as, rd⟩ := reads_ints (h := s.heap) hi
    exact W.max_tuple_default (I.ok.hd hc) (show s.heap.IsTuple p its.toArray from pl) (by simpa using rd) al (by omega) f0 (f1 hi)
theorem w_maxDef {p kpos : Pos} {f : Expr} (hu : X.A.units + 110 < cLine) (hm : X.mg "max" = none) (hc : X.calm = true)
    (h : WA Z X e env fun a1 e1 => WE Z X f e1 fun r e2 => View a1 e2 fun d => ∃ (ns : List Int) (n : Int), (d = .list (ns.map PyData.int) ∨ d = .tuple (ns.map PyData.int)) ∧ r = .t (.va (.int n)) ∧ P (.t (.va (.int (match ns with
      | [] => n
      | m :: ms => ms.foldl max m)))) e2)
    (hg : Gl X "max" := by rfl) (na : starEach [e] X.env = (false, eval e X.env) :: starEach [] X.env := by rfl)
    (he : backTo pos (starEach [e] X.env) = (false, eval e X.env) :: backTo pos (starEach [] X.env) := by rfl) (hpl : (backTo pos (starEach [e] X.env)).any (·.1) = false := by rfl)
    (hall : (backToKw pos (keywordEach [⟨some "default", f, kpos⟩] X.env)).all (·.1.isSome) = true := by rfl) (hnone : (backToKw pos (keywordEach [⟨some "default", f, kpos⟩] X.env)).any (·.1.isNone) = false := by rfl) (hks : (backToKw pos (keywordEach [⟨some "default", f, kpos⟩] X.env)).filterMap (·.1) = [Str.ofString "default"] := by rfl) :
    WE Z X (.Call (.Name "max" p) [e] [⟨some "default", f, kpos⟩] pos) env P :=
  we_of (pe_callBK (cr_maxDef hc hu) hg hm (by rfl) (pa_cons (pe_A (Z := Z)) pa_nil na) (pk_cons (pe_E (Z := Z)) pk_nil) (by decide) (by decide) he hpl hall hnone hks) fun σ H F O b o =>
    ⟨env, F, O, _, b, o, h, fun v H1 ⟨F1, O1, a1, e1, b1, o1, st, fr, q⟩ => ⟨e1, F1, O1, _, b1, o1, q, fun z H2 ⟨F2, O2, r, e2, b2, st2, fr2, q2⟩ => by
      have key : ∀ {Oa : List Addr} {d : D} {ns : List Int} {n : Int}, Bas Z F2 H2 Oa → OwE F2 H2 Oa σ e2 → Frm Tq H1 F1 O1 H2 F2 Oa → View a1 e2 (fun d => ∃ (ns : List Int) (n : Int), (d = .list (ns.map PyData.int) ∨ d = .tuple (ns.map PyData.int)) ∧ r = .t (.va (.int n)) ∧ P (.t (.va (.int (match ns with
        | [] => n
        | m :: ms => ms.foldl max m)))) e2) → (∀ n, r = .t (.va (.int n)) → z = .int n) → rMaxDef X.K [v] [z] H2 (Post Z σ H F O P) := fun {Oa d ns n} b2 o2 fr2 q2 hz => by
        obtain ⟨d, w, ns, n, hd, er, q3⟩ := View.vw q2 o2 (st.mono fr2.fz)
        obtain ⟨p, rfl, hp⟩ := in_at (K := X.K) b2.sub w hd
        exact ⟨p, ns, n, rfl, by rw [hz n er], hp, (post_val b2 o2 (.int _) q3).from (fr.trans fr2)⟩
      cases r with
      | bor a i p =>
        obtain ⟨o2, ez⟩ := st2
        exact key (d := .none) (ns := []) (n := 0) b2 o2 fr2 q2 fun n e => nomatch e
      | t t =>
        obtain ⟨Oa, Ob, rfl, o2, w2⟩ := st2
        cases w2 with
        | va rz =>
          rw [List.append_nil] at b2 fr2
          exact key (d := .none) (ns := []) (n := 0) b2 o2 fr2 q2 fun n e => by
            have e2 := R.t.inj e
            have e3 := T.va.inj e2
            subst e3
            cases rz; rfl
        | _ =>
          obtain ⟨d, w, ns, n, hd, er, q3⟩ := View.vw q2 o2 (st.mono fr2.fz)
          cases er⟩⟩
end
end QL

/-! QTn: for i, x in enumerate(t), enumerate(t, k), t a tuple. -/
namespace QL
open PySem PySem.Spec PyProof.Rows L2
theorem en_new1 {y : Value} {ob : Obj} {Hh : Heap → Prop} (Bg : Begins y ob Hh) :
    Meets (Builtin.«enumerate.__new__» ⟨[.type "enumerate", y], []⟩) (fun _ Rz z => Hh z.heap ∧
      Rz (.ok (.ret (.ref (z.heap.push ob).objs.size))) { z with heap := (z.heap.push ob).push { cls := .type "enumerate", data := .fields #[.none, .bool false, .ref z.heap.objs.size, rawInt 0, .none, .none] } }) :=
  .of_wp fun pr w0 A0 Rz z hz => by
    obtain ⟨hp0, g0, d0, tk0, os0⟩ := z
    obtain ⟨hz1, hz2⟩ := hz
    have hsub := sub_enumerate
    have it1 : ∀ {A2 : Around} {E2 : Value → Shared → Prop} {Q2 : Value → Shared → Prop}, Q2 (.ref hp0.objs.size) ⟨hp0.push ob, g0, d0, tk0, os0⟩ → wpAny (model pr w0) A2 (pyIter y) Q2 E2 ⟨hp0, g0, d0, tk0, os0⟩ :=
      fun q2 => Bg.iter pr w0 _ _ ⟨hp0, g0, d0, tk0, os0⟩ _ hz1 q2
    wp_walk using it1
    refine wpAny_stack_any fun st2 => wpAny_pure ?_
    split
    · rename_i c2 _ _ _ _ _
      cases (c2 == Value.type "enumerate")
      · wp_walk using it1
        exact ⟨_, rfl, hz2⟩
      · wp_walk using it1
        exact ⟨_, rfl, hz2⟩
    · wp_walk using it1
      exact ⟨_, rfl, hz2⟩
section
variable {prog : Program} {w : World} {A : Around} {E : Value → Shared → Prop} {s : Shared}
theorem en_call1 {y : Value} {ob : Obj} {Hh : Heap → Prop} {Q : Value → Shared → Prop} (Bg : Begins y ob Hh) (h1 : Hh s.heap)
    (h : ∀ h2, IsEnum h2 (s.heap.objs.size + 1) s.heap.objs.size 0 .none → h2.get? s.heap.objs.size = some ob →
      (∀ b o, s.heap.get? b = some o → h2.get? b = some o) → Q (.ref (s.heap.objs.size + 1)) { s with heap := h2 }) :
    wpAny (model prog w) A (call (.type "enumerate") [y]) Q E s := by
  refine callType_new F.called_enumerate (by decide) (F.typeCall_enumerate_1 _) (F.newCall_enumerate_1 _) (fun obj => F.args_object_init_2 obj _) F.entry_enumerate_new (en_new1 Bg) ⟨h1, ?_⟩
  have hz : (s.heap.push ob).objs.size = s.heap.objs.size + 1 := Heap.size_push ..
  show _ ∧ _
  rw [hz]
  have e1 := Heap.get?_push_size (s.heap.push ob) (o := { cls := .type "enumerate", data := .fields #[.none, .bool false, .ref s.heap.objs.size, rawInt 0, .none, .none] }) rfl
  rw [hz] at e1
  exact ⟨⟨_, e1, rfl⟩, h _ e1 (Heap.get?_push_of_some _ (Heap.get?_push_size _ Bg.free)) fun b o q => Heap.get?_push_of_some _ (Heap.get?_push_of_some _ q)⟩
end
/-- the tuple at a, counted from k, each item in a new pair -/
def IteT (K : PySem.W.Frag) (a : Addr) (k : Int) : It :=
  ⟨fun i H => ∃ (ts : List V) (y : V), SqT K H a ts ∧ ts[i]? = some y, fun i H v H2 => ∃ T y, v = .ref T ∧ H T = none ∧ H2 = upd H T (.tup [.int (k + (i : Nat)), y]) ∧ ∀ ts, SqT K H a ts → ts[i]? = some y, fun i H => ∃ ts : List V, SqT K H a ts ∧ ts.length ≤ i⟩
theorem turn_enT {P : Program} {w : World} {K : PySem.W.Frag} {elts : List Expr} {kk : Nat} {tpos : Pos} (a en it : Addr) (k : Int) :
    Turn P w K (.Tuple elts kk tpos) (IteT K a k) [en, it] en (fun i h => (∃ old, IsEnum h en it (k + (i : Nat)) old) ∧ h.IsTupleIter it a i ∧ en ≠ it) where
  mem := List.mem_cons_self ..
  obj := fun i h st b hb => by
    obtain ⟨⟨old, he⟩, ⟨o, ho, hc, hd⟩, _⟩ := st
    rcases List.mem_cons.mp hb with z | z
    · rw [z]; exact ⟨_, he, fun v q => nomatch q⟩
    · rw [List.mem_singleton.mp z]; exact ⟨o, ho, fun v q => by rw [hd] at q; cases q⟩
  keep := fun i h h2 st kp => let ⟨⟨old, he⟩, hi, hne⟩ := st; ⟨⟨old, kp en (by simp) _ he⟩, hi.at fun o q => kp it (by simp) o q, hne⟩
  item := by
    intro X hP hw hK hc i pins s σ H E I hf st hg
    subst hP hw hK
    obtain ⟨⟨old, he⟩, hit, hne⟩ := st
    obtain ⟨ts, y, hq, hy⟩ := hg
    obtain ⟨its, rv, p, hz⟩ := I.tuple hq
    obtain ⟨u, hu, ru⟩ := rv.get hy
    have hp1 : s.heap.IsTuple a its.toArray := p
    have hel : en < s.heap.objs.size := Heap.lt_size he
    have hil : it < s.heap.objs.size := by obtain ⟨_, q, _⟩ := hit; exact Heap.lt_size q
    have hai : a ≠ it := fun q => by
      obtain ⟨o1, g1, c1, _⟩ := hit
      obtain ⟨o2, g2, c2, _⟩ := hp1
      rw [q, g1] at g2
      cases g2
      rw [c1] at c2
      exact absurd c2 (by decide)
    have hae : a ≠ en := fun q => by
      obtain ⟨o2, g2, c2, _⟩ := hp1
      rw [q, he] at g2
      cases g2
      exact absurd (show Value.type "enumerate" = Value.type "tuple" from c2) (by decide)
    have hlt : i < its.toArray.size := by
      have := (List.getElem?_eq_some_iff.mp hu).1
      simpa using this
    have hhd : X.A.in1.handled = none := I.ok.hd hc
    refine wpAny_pyNext_enum_itemC (Draws.tuple hhd it a hai its.toArray) he ⟨hit, hp1⟩ hlt hne (fun q => ?_) fun y2 h2 tk hy2 ho hit2 hT hsz hk => ?_
    · rcases List.mem_cons.mp q with q | q
      · exact hne q
      · exact hae (List.mem_singleton.mp q).symm
    have ey : y2 = u := by
      have hy2 : its.toArray[i]? = some y2 := hy2
      have : its.toArray[i]? = some u := by simpa using hu
      rw [this] at hy2; cases hy2; rfl
    subst ey
    refine ⟨_, rfl, wpAny_letOwnedTupleGo_enum (s := { s with heap := h2, toks := tk + 1 }) ho fun h3 he3 sb => ?_⟩
    have hT2 := (sb.2 _ (Nat.ne_of_gt hel)).trans hT
    have new : ObjOk X.prog X.w (upd H s.heap.objs.size (.tup [.int (k + (i : Nat)), y])) h3 s.heap.objs.size (.tup [.int (k + (i : Nat)), y]) :=
      ⟨(by decide : 2 ≤ sizeLine), [.int (k + (i : Nat)) tk, y2], .cons ⟨_, rfl⟩ (.cons ru .nil), ⟨_, hT2, rfl, _, rfl⟩⟩
    have I1 : Inv X pins σ (upd H s.heap.objs.size (.tup [.int (k + (i : Nat)), y])) { s with heap := h3, toks := tk + 1 } :=
      I.turnedNew (ch := [en, it]) (fun b ob hb q => (sb.2 b fun z => hb (List.mem_cons.mpr (.inl z))).trans (hk b ob (fun z => hb (List.mem_cons.mpr (.inl z))) (fun z => hb (List.mem_cons.mpr (.inr (List.mem_singleton.mpr z)))) q)) hf (Nat.le_refl _) new
    refine ⟨.ref s.heap.objs.size, _, I1, rfl, ⟨_, y, rfl, I.hok.fresh (Nat.le_refl _), rfl, fun zs hzs => by rw [I.tuple_inj hzs hq]; exact hy⟩, ⟨⟨y2, ?_⟩, hit2.1.at fun o q => (sb.2 it (Ne.symm hne)).trans q, hne⟩, fun b hb => ?_⟩
    · have e1 : k + ((i + 1 : Nat) : Int) = k + (i : Int) + 1 := by omega
      rw [e1]; exact he3
    · have hb2 : b < s.heap.objs.size := by
        rcases List.mem_cons.mp hb with z | z
        · exact z ▸ hel
        · rw [List.mem_singleton.mp z]; exact hil
      rw [upd_ne (Nat.ne_of_lt hb2)]
      exact (hf b hb).1
  done := by
    intro X hP hw hK hc i pins s σ H E I hf st hg
    subst hP hw hK
    obtain ⟨⟨old, he⟩, hit, hne⟩ := st
    obtain ⟨ts, hq, hx⟩ := hg
    obtain ⟨its, rv, p, hz⟩ := I.tuple hq
    obtain ⟨f0, f1, f2, f3, f4, f5⟩ := hf it (by simp)
    have hl := rv.length
    have hp1 : s.heap.IsTuple a its.toArray := p
    have hhd : X.A.in1.handled = none := I.ok.hd hc
    have hT : s.TypeIs (.ref en) "enumerate" := ⟨_, he, rfl⟩
    unfold pyNext
    refine wpAny_bind (wpAny_attempt (wpAny_callSpecial?_slot (name := Str.ofString "__next__") hT F.slot_enumerate_next (wpAny_call_entry F.slot_enumerate_next hT F.entry_enumerate_next ?_ (F.args_enumerate_next_1 _))))
    show wpAny _ _ (field (.ref en) 2 >>= _) _ _ _
    refine wpAny_bind (wpAny_field he rfl (x := .ref it) rfl ?_)
    refine wpAny_bind (wpAny_nextOf_tuple_end hhd hit hp1 (by simp; omega) fun h2 y2 he2 hx2 => ?_)
    obtain ⟨o, ho, hc2⟩ := hx2
    refine wpAny_bind (wpAny_isInstance (T := "StopIteration") (b := true) ⟨o, ho, hc2⟩ isSubtype_stop (wpAny_pure ⟨rfl, I.turned (t' := s.toks) (fun b o hb q => he2 b o hb q) f0 f1 f3 f4 f5⟩))
  self := fun A i s Q E st h => let ⟨⟨_, he⟩, _⟩ := st; wpAny_pyIter_enum he h

def iEnT (K : PySem.W.Frag) (ta : TA) : TI := fun σ H R => ta σ H fun vs H1 => ∃ a ts, vs = [.ref a] ∧ SqT K H1 a ts ∧ R (IteT K a 0) H1
theorem pi_enT {X : Cx} {e : Expr} {ta : TA} {p pos tpos : Pos} {elts : List Expr} {kk : Nat} (hg : Gl X "enumerate") (hm : X.mg "enumerate" = none) (ha : PA X [e] ta) (hs : starEach [e] X.env = [(false, eval e X.env)] := by rfl) :
    PI X (.Tuple elts kk tpos) (.Call (.Name "enumerate" p) [e] [] pos) (iEnT X.K ta) := by
  refine ⟨fun pins s σ H R I h => Call_ (ld_blt I hg hm boot_enumerate (callWith_type1 (thn (ha.run pos pins s σ H _ I h) fun us s1 ⟨vs, H1, I1, r1, a, ts, ex, hq, q⟩ => ?_) hs rfl))⟩
  subst ex
  cases r1 with
  | cons r rr =>
    cases rr
    cases r
    obtain ⟨its, rv, p2, hz⟩ := I1.tuple hq
    refine en_call1 (begins_tuple a its.toArray) p2 fun h2 he hit hk => wpAny_pyIter_enum he ?_
    have I2 : Inv X pins σ H1 { s1 with heap := h2 } := I1.kept (t' := s1.toks) hk
    refine ⟨s1.heap.objs.size + 1, [s1.heap.objs.size + 1, s1.heap.objs.size], _, _, H1, rfl, I2, turn_enT a (s1.heap.objs.size + 1) s1.heap.objs.size 0, ⟨⟨.none, he⟩, ⟨_, hit, rfl, rfl⟩, Nat.succ_ne_self _⟩, fun b hb => ?_, q⟩
    have hle : s1.heap.objs.size ≤ b := by
      rcases List.mem_cons.mp hb with z | z
      · rw [z]; exact Nat.le_add_right _ _
      · rw [List.mem_singleton.mp z]; exact Nat.le_refl _
    exact I1.fpOk hle (I1.hok.fresh hle)
def iEnK (K : PySem.W.Frag) (ta : TA) : TI := fun σ H R => ta σ H fun vs H1 => ∃ a ts k, vs = [.ref a, .int k] ∧ -(2 ^ 63) ≤ k ∧ k < 2 ^ 63 ∧ SqT K H1 a ts ∧ R (IteT K a k) H1
theorem pi_enK {X : Cx} {e e2 : Expr} {ta : TA} {p pos tpos : Pos} {elts : List Expr} {kk : Nat} (hg : Gl X "enumerate") (hm : X.mg "enumerate" = none) (ha : PA X [e, e2] ta)
    (hs : starEach [e, e2] X.env = (false, eval e X.env) :: starEach [e2] X.env := by rfl) (hpl : (backTo pos (starEach [e2] X.env)).any (·.1) = false := by rfl) :
    PI X (.Tuple elts kk tpos) (.Call (.Name "enumerate" p) [e, e2] [] pos) (iEnK X.K ta) := by
  refine ⟨fun pins s σ H R I h => Call_ (ld_blt I hg hm boot_enumerate (callWith_type1 (thn (ha.run pos pins s σ H _ I h) fun us s1 ⟨vs, H1, I1, r1, a, ts, k, ex, hk0, hk1, hq, q⟩ => ?_) hs hpl))⟩
  subst ex
  cases r1 with
  | cons r rr =>
    cases rr with
    | cons r2 rr =>
      cases rr
      cases r
      obtain ⟨tk, e2⟩ := r2
      subst e2
      obtain ⟨its, rv, p2, hz⟩ := I1.tuple hq
      refine enum_begins (begins_tuple a its.toArray) p2 hk0 hk1 fun h2 he hit hsz hk => wpAny_pyIter_enum he ?_
      have I2 : Inv X pins σ H1 { s1 with heap := h2 } := I1.kept (t' := s1.toks) hk
      refine ⟨s1.heap.objs.size + 1, [s1.heap.objs.size + 1, s1.heap.objs.size], _, _, H1, rfl, I2, turn_enT a (s1.heap.objs.size + 1) s1.heap.objs.size k, ⟨⟨.none, ?_⟩, ⟨_, hit, rfl, rfl⟩, Nat.succ_ne_self _⟩, fun b hb => ?_, q⟩
      · have e1 : k + ((0 : Nat) : Int) = k := by omega
        rw [e1]; exact he
      · have hle : s1.heap.objs.size ≤ b := by
          rcases List.mem_cons.mp hb with z | z
          · rw [z]; exact Nat.le_add_right _ _
          · rw [List.mem_singleton.mp z]; exact Nat.le_refl _
        exact I1.fpOk hle (I1.hok.fresh hle)

/-- the pairs of enumerate -/
def enumD (k : Int) : List D → List D
  | [] => []
  | y :: ys => .tuple [.int k, y] :: enumD (k + 1) ys
theorem enumD_get : ∀ (ys : List D) (k : Int) (i : Nat), (enumD k ys)[i]? = ys[i]?.map fun y => PyData.tuple [.int (k + (i : Nat)), y]
  | [], _, _ => by simp [enumD]
  | y :: ys, k, 0 => by simp [enumD]
  | y :: ys, k, i + 1 => by
    show (enumD (k + 1) ys)[i]? = _
    rw [enumD_get ys (k + 1) i, List.getElem?_cons_succ]
    have e : k + 1 + (i : Int) = k + ((i + 1 : Nat) : Int) := by omega
    rw [e]
theorem enumD_len (ys : List D) (k : Int) : (enumD k ys).length = ys.length := by
  induction ys generalizing k with
  | nil => rfl
  | cons y ys ih => show (enumD (k + 1) ys).length + 1 = _; rw [ih]; rfl
theorem gives_enT {K : PySem.W.Frag} {a : Addr} {xs : List V} {ds : List D} {F : Hp} (k : Int) (h1 : F a = some (.tup xs)) (r1 : RpA F xs ds) : Gives (IteT K a k) (enumD k ds) F := fun F2 H2 s1 s2 i => by
  have q1 : SqT K H2 a xs := SqT.of (s2 _ _ (s1 _ _ h1))
  refine ⟨fun d hd => ?_, fun hn => ?_⟩
  · rw [enumD_get, Option.map_eq_some_iff] at hd
    obtain ⟨y, hy, e⟩ := hd
    subst e
    obtain ⟨v1, g1, w1⟩ := r1.get' hy
    refine ⟨⟨xs, v1, q1, g1⟩, fun v H3 ⟨T, y2, ev, hT, eH, f1⟩ => ?_⟩
    subst ev eH
    have e1 := (f1 xs q1).symm.trans g1
    cases e1
    have nf : F2 T = none := s2.free hT
    refine ⟨upd F2 T (.tup [.int (k + (i : Nat)), v1]), .tup upd_same (.cons (.int _) (.cons (w1.mono (s1.trans (same_new nf))) .nil)), same_new nf, same_new hT, same_upd2 s2, fun c hc => ?_⟩
    by_cases z : c = T
    · subst z; exact .inr hT
    · rw [upd_ne z] at hc; exact .inl hc
  · rw [enumD_get, Option.map_eq_none_iff, List.getElem?_eq_none_iff] at hn
    exact ⟨xs, q1, by rw [r1.len]; exact hn⟩
section
variable {Tq : List (Addr × Str)} {Z : Zb Tq} {X : Cx} {a b tg iter : Expr} {env : Env} {pos : Pos}
def enG (ds : List D) (k : List D → Prop) : Prop := match ds with
  | [.tuple xs] => k (enumD 0 xs)
  | _ => False
def enKG (ds : List D) (k : List D → Prop) : Prop := match ds with
  | [.tuple xs, .int c] => (-(2 ^ 63) ≤ c ∧ c < 2 ^ 63) ∧ k (enumD c xs)
  | _ => False
/-- for i, x in enumerate(t) -/
theorem wi_enum {P : List D → Env → Prop} {p tpos : Pos} {elts : List Expr} {kk : Nat} (hm : X.mg "enumerate" = none) (h : WAs Z X [a] env fun as e1 => absorb as e1 fun ds e2 => enG ds fun xs => P xs e2) (hg : Gl X "enumerate" := by rfl)
    (hs : starEach [a] X.env = [(false, eval a X.env)] := by rfl) : WI Z X (.Tuple elts kk tpos) (.Call (.Name "enumerate" p) [a] [] pos) env P :=
  wi_of (pi_enT hg hm (pa_As (Z := Z)) hs) fun σ H F O b0 o0 => ⟨env, F, O, _, b0, o0, h, fun vs H1 ⟨F1, O1, as, e1, b1, o1, st, fr, q⟩ => by
    obtain ⟨F2, O2, ds, e2, b2, o2, r2, fr2, q⟩ := absorb_ok st b1 o1 q
    unfold enG at q
    split at q
    · cases r2 with
      | cons r3 rn =>
        cases rn
        cases r3 with
        | tup h3 r3 => exact ⟨_, _, rfl, SqT.of (b2.sub _ _ h3), F2, O2, _, e2, b2, o2, fr.trans fr2, gives_enT 0 h3 r3, q⟩
    · exact q.elim⟩
/-- for i, x in enumerate(t, k) -/
theorem wi_enumK {P : List D → Env → Prop} {p tpos : Pos} {elts : List Expr} {kk : Nat} (hm : X.mg "enumerate" = none) (h : WAs Z X [a, b] env fun as e1 => absorb as e1 fun ds e2 => enKG ds fun xs => P xs e2) (hg : Gl X "enumerate" := by rfl)
    (hs : starEach [a, b] X.env = (false, eval a X.env) :: starEach [b] X.env := by rfl) (hpl : (backTo pos (starEach [b] X.env)).any (·.1) = false := by rfl) : WI Z X (.Tuple elts kk tpos) (.Call (.Name "enumerate" p) [a, b] [] pos) env P :=
  wi_of (pi_enK hg hm (pa_As (Z := Z)) hs hpl) fun σ H F O b0 o0 => ⟨env, F, O, _, b0, o0, h, fun vs H1 ⟨F1, O1, as, e1, b1, o1, st, fr, q⟩ => by
    obtain ⟨F2, O2, ds, e2, b2, o2, r2, fr2, q⟩ := absorb_ok st b1 o1 q
    unfold enKG at q
    split at q
    · cases r2 with
      | cons r3 rn =>
        cases rn with
        | cons r4 rn =>
          cases rn
          cases r4
          cases r3 with
          | tup h3 r3 => exact ⟨_, _, _, rfl, q.1.1, q.1.2, SqT.of (b2.sub _ _ h3), F2, O2, _, e2, b2, o2, fr.trans fr2, gives_enT _ h3 r3, q.2⟩
    · exact q.elim⟩
end
theorem room65 {k : Nat} {A : Around} (hr : Room k A) : A.units + 65 < cLine := by have := hr.un; omega
/-! ### in, not in: data in a list or a tuple -/
def inDG (neg : Bool) (d1 d2 : D) (k : T → Prop) : Prop := ∃ ds, (d2 = .list ds ∨ d2 = .tuple ds) ∧ SeqAt.shaped d1 = true ∧ SeqAt.shaped d2 = true ∧ k (.va (.bool (if neg = true then !ds.any (fun z => PyData.eqv z d1) else ds.any (fun z => PyData.eqv z d1))))
theorem dop_inD {X : Cx} (hu : X.A.units + 65 < cLine) : DOp X (compareOp .In) (inDG false) := by
  intro pins s σ H F v1 v2 u1 u2 d1 d2 k I sF w1 w2 r1 r2 ⟨ds, hd, h1, h2, q⟩
  obtain ⟨as, q1⟩ := (w1.rp sF).reads I r1 (shaped_noDict h1)
  obtain ⟨bs, q2⟩ := (w2.rp sF).reads I r2 (shaped_noDict h2)
  rcases hd with rfl | rfl
  · exact SeqAt.in_list_reads q2 q1 (SeqAt.canLay_of_shaped h2) (SeqAt.canLay_of_shaped h1) (room_in_shaped h1 hu) ⟨.bl _, H, I, rfl, NewV.val sF (.bl _) q⟩
  · exact SeqAt.in_tuple_reads q2 q1 (SeqAt.canLay_of_shaped h2) (SeqAt.canLay_of_shaped h1) (room_in_shaped h1 hu) ⟨.bl _, H, I, rfl, NewV.val sF (.bl _) q⟩
theorem dop_notinD {X : Cx} (hu : X.A.units + 65 < cLine) : DOp X (compareOp .NotIn) (inDG true) := by
  intro pins s σ H F v1 v2 u1 u2 d1 d2 k I sF w1 w2 r1 r2 ⟨ds, hd, h1, h2, q⟩
  obtain ⟨as, q1⟩ := (w1.rp sF).reads I r1 (shaped_noDict h1)
  obtain ⟨bs, q2⟩ := (w2.rp sF).reads I r2 (shaped_noDict h2)
  rcases hd with rfl | rfl
  · exact SeqAt.notIn_list_reads q2 q1 (SeqAt.canLay_of_shaped h2) (SeqAt.canLay_of_shaped h1) (room_in_shaped h1 hu) ⟨.bl _, H, I, rfl, NewV.val sF (.bl _) q⟩
  · exact SeqAt.notIn_tuple_reads q2 q1 (SeqAt.canLay_of_shaped h2) (SeqAt.canLay_of_shaped h1) (room_in_shaped h1 hu) ⟨.bl _, H, I, rfl, NewV.val sF (.bl _) q⟩
end QL

/-! QTm: x = a list that is frozen at once. -/
namespace QL
open PySem PySem.Spec PyProof.Rows L2
section
variable {Tq : List (Addr × Str)} {Z : Zb Tq} {X : Cx} {e : Expr} {env : Env} {pos : Pos} {PO : Out → Prop}
theorem ws_setA (i : Nat) {x : Str} {px : Pos} (h : WA Z X e env fun a e1 => absorb [a] e1 fun ds e2 => ∃ d, ds = [d] ∧ i < e2.length ∧ PO (.nx (e2.set i (some (.va d))))) (hN : X.N.Nodup) (hi : X.N[i]? = some x := by rfl)
    (hx : Loc X.env.scope x := by first | exact Or.inl rfl | exact Or.inr rfl) (hs : swapsWith e (some (.Name x px)) pos.line X.env = pure false := by rfl)
    (hf : X.fn x = true ∨ X.env.scope.names.lookup x = some .local := by first | exact .inl rfl | exact .inr rfl) : WS Z X (.Assign [.Name x px] e pos) env PO :=
  ws_of (ps_set hN hi hx (pe_A (Z := Z)) hs hf) fun σ H F O b o => ⟨env, F, O, _, b, o, h, fun v H1 ⟨F1, O1, a, e1, b1, o1, st, fr, p⟩ => by
    obtain ⟨F2, O2, ds, e2, b2, o2, r2, fr2, d, hd, li, p2⟩ := absorb_ok (.cons st .nil) b1 o1 p
    subst hd
    cases r2 with
    | cons q1 rr =>
      cases rr
      obtain ⟨O5, P5, o5, p5⟩ := o2.set i (.va q1) li
      rw [List.nil_append] at p5
      obtain ⟨b5, f5⟩ := b2.dropP p5
      exact ⟨F2, O5, _, b5, o5, (fr.trans fr2).trans f5, p2⟩⟩
end
theorem toA_imp {r : R} {k k' : A → Prop} (h : toA r k) (hk : ∀ a, k a → k' a) : toA r k' := by
  cases r with
  | bor a i p => exact hk _ h
  | t t =>
    unfold toA at h ⊢
    revert h
    simp only
    cases frzT t with
    | none => exact fun z => z
    | some d => exact hk _
theorem WA.imp {Tq : List (Addr × Str)} {Z : Zb Tq} {X : Cx} {e : Expr} {env : Env} {P P' : A → Env → Prop} (h : WA Z X e env P) (hp : ∀ a env, P a env → P' a env) : WA Z X e env P' := WE.imp h fun _ env q => toA_imp q fun a => hp a env
/-- d.get(k, x), with what the answer is -/
theorem w_dget2E {Tq : List (Addr × Str)} {Z : Zb Tq} {X : Cx} {env : Env} {P : R → Env → Prop} {e o f : Expr} {pos apos : Pos} (hu : X.A.units + 1 < cLine) (h : WE Z X o env fun r e1 => ∃ a i p ds0, r = .bor a i p ∧ getP i p e1 = some (.dic a ds0) ∧ WA Z X e e1 fun a2 e2 => WA Z X f e2 fun a3 e3 => ∃ (k : Key) (ds : List (Key × D)) (d d' : D), a2 = .va (kD k) ∧ a3 = .va d ∧ getP i p e3 = some (.dic a ds) ∧ (valT ds k).getD d = d' ∧ P (.t (.va d')) e3)
    (m : M2 X o "get" apos e f pos := by exact ⟨rfl, rfl, rfl, rfl⟩) : WE Z X (.Call (.Attribute o "get" apos) [e, f] [] pos) env P :=
  w_dget2 hu (WE.imp h fun r e1 ⟨a, i, p, ds0, h1, h2, h3⟩ => ⟨a, i, p, ds0, h1, h2, WA.imp h3 fun a2 e2 h4 => WA.imp h4 fun a3 e3 ⟨k, ds, d, d', k1, k2, k3, k4, k5⟩ => ⟨k, ds, d, k1, k2, k3, by rw [k4]; exact k5⟩⟩) m
end QL

/-! QTo: `is` and `is not` between booleans. -/
namespace QL
open PySem PySem.Spec PyProof.Rows L2
variable {X : Cx}
def isBD (neg : Bool) : D → D → (T → Prop) → Prop := fun d1 d2 k => match d1, d2 with
  | .bool a, .bool b => k (.va (.bool (if neg then !decide (a = b) else decide (a = b))))
  | _, _ => False
theorem dop_isB : DOp X (compareOp .Is) (isBD false) := by
  intro pins s σ H F v1 v2 u1 u2 d1 d2 k I sF w1 w2 r1 r2 hg
  unfold isBD at hg
  split at hg
  · cases w1.bl
    cases w2.bl
    exact op_is_bl pins s σ H _ _ u1 u2 _ I r1 r2 ⟨_, _, rfl, rfl, NewV.val sF (.bl _) hg⟩
  · exact hg.elim
theorem dop_notB : DOp X (compareOp .IsNot) (isBD true) := by
  intro pins s σ H F v1 v2 u1 u2 d1 d2 k I sF w1 w2 r1 r2 hg
  unfold isBD at hg
  split at hg
  · cases w1.bl
    cases w2.bl
    exact op_isnot_bl pins s σ H _ _ u1 u2 _ I r1 r2 ⟨_, _, rfl, rfl, NewV.val sF (.bl _) hg⟩
  · exact hg.elim
end QL

/-! QTp: x, y, z = data, data, anything. -/
namespace QL
open PySem PySem.Spec PyProof.Rows L2
variable {Tq : List (Addr × Str)} {Z : Zb Tq} {X : Cx} {env : Env} {PO : Out → Prop} {a b c : Expr} {pos : Pos}
theorem ws_par3D (i j l : Nat) {x y z : Str} {px py pz pt : Pos} {kt k2 pt2} (hc : X.calm = true) (hN : X.N.Nodup)
    (h : WE Z X a env fun r1 e1 => ∃ d1, r1 = .t (.va d1) ∧ WE Z X b e1 fun r2 e2 => ∃ d2, r2 = .t (.va d2) ∧ WE Z X c e2 fun r3 e3 => ∃ t3, r3 = .t t3 ∧ i < e3.length ∧ j < e3.length ∧ l < e3.length ∧ PO (.nx (((e3.set i (some (.va d1))).set j (some (.va d2))).set l (some t3))))
    (hi : X.N[i]? = some x := by rfl) (hj : X.N[j]? = some y := by rfl) (hl : X.N[l]? = some z := by rfl) (hij : i ≠ j := by decide) (hil : i ≠ l := by decide) (hjl : j ≠ l := by decide)
    (hx : X.env.scope.names.lookup x = some .local := by rfl) (hy : X.env.scope.names.lookup y = some .local := by rfl) (hz : X.env.scope.names.lookup z = some .local := by rfl)
    (hw : swappedStores [.Tuple [.Name x px, .Name y py, .Name z pz] kt pt] (.Tuple [a, b, c] k2 pt2) X.env = pure (some [x, y, z]) := by rfl)
    (hs : swapsWithSole [.Tuple [.Name x px, .Name y py, .Name z pz] kt pt] (.Tuple [a, b, c] k2 pt2) pos.line X.env = pure false := by rfl)
    (hs1 : starEach [a, b, c] X.env = (false, eval a X.env) :: starEach [b, c] X.env := by rfl) (hs2 : starEach [b, c] X.env = (false, eval b X.env) :: starEach [c] X.env := by rfl) (hs3 : starEach [c] X.env = (false, eval c X.env) :: starEach [] X.env := by rfl) :
    WS Z X (.Assign [.Tuple [.Name x px, .Name y py, .Name z pz] kt pt] (.Tuple [a, b, c] k2 pt2) pos) env PO :=
  ws_of (ps_par3 hc hN hi hj hl hij hil hjl hx hy hz (pa_cons (pe_E (Z := Z)) (pa_cons (pe_E (Z := Z)) (pa_cons (pe_E (Z := Z)) pa_nil hs3) hs2) hs1) hw hs) fun σ H F O b0 o => by
    refine ⟨env, F, O, _, b0, o, h, fun v1 H1 ⟨F1, O1, r1, e1, b1, st1, fr1, d1, er1, p⟩ => ?_⟩
    subst er1
    obtain ⟨Oa, Ob, rfl, o1, w1⟩ := st1
    cases w1 with
    | va q1 =>
    rw [List.append_nil] at b1 fr1
    refine ⟨e1, F1, Oa, _, b1, o1, p, fun v2 H2 ⟨F2, O2, r2, e2, b2, st2, fr2, d2, er2, p⟩ => ?_⟩
    subst er2
    obtain ⟨Oc, Od, rfl, o2, w2⟩ := st2
    cases w2 with
    | va q2 =>
    rw [List.append_nil] at b2 fr2
    refine ⟨e2, F2, Oc, _, b2, o2, p, fun v3 H3 ⟨F3, O3, r3, e3, b3, st3, fr3, t3, er3, li, lj, ll, p⟩ => ?_⟩
    subst er3
    obtain ⟨Oe, Of, rfl, o3, w3⟩ := st3
    have q1' := q1.mono (fr2.fz.trans fr3.fz)
    have q2' := q2.mono fr3.fz
    obtain ⟨O5, P5, o5, p5⟩ := o3.set i (.va q1') li
    obtain ⟨O6, P6, o6, p6⟩ := o5.set j (.va q2') (by rw [List.length_set]; exact lj)
    obtain ⟨O7, P7, o7, p7⟩ := o6.set l w3 (by rw [List.length_set, List.length_set]; exact ll)
    rw [List.nil_append] at p5 p6
    have pm : (Oe ++ Of).Perm (O7 ++ (P7 ++ (P6 ++ P5))) := by
      have z1 : (Oe ++ Of).Perm (Of ++ Oe) := List.perm_append_comm
      have z2 : Oe.Perm (O6 ++ (P6 ++ P5)) := p5.trans ((p6.append_right P5).trans (by rw [List.append_assoc]))
      have z3 : (Of ++ Oe).Perm ((Of ++ O6) ++ (P6 ++ P5)) := (z2.append_left Of).trans (by rw [List.append_assoc])
      exact z1.trans (z3.trans ((p7.append_right _).trans (by rw [List.append_assoc])))
    have fr : Frm Tq H F O H3 F3 (Oe ++ Of) := (fr1.trans fr2).trans fr3
    exact ⟨v1, v2, v3, rfl, F3, O7, _, (b3.perm pm).left, o7, fr.perm (fun _ => Iff.rfl) fun c hc => pm.mem_iff.mpr (List.mem_append_left _ hc), p⟩
end QL

/-! QTq: xs.count(x). -/
namespace QL
open PySem PySem.Spec PyProof.Rows L2
def rCount (K : PySem.W.Frag) : V → List V → Hp → VK → Prop := fun x xs H Q => ∃ (F : Hp) (a : Addr) (vs : List V) (y : V) (d : D) (ds : List D), Same F H ∧ x = .ref a ∧ xs = [y] ∧ SqL K H a vs ∧ RpA F vs ds ∧ Rp F y d ∧ SeqAt.shaped (.list ds) = true ∧ SeqAt.shaped d = true ∧ Q (.int ((ds.countP fun z => PyData.eqv z d : Nat) : Int)) H
theorem mt_countD {X : Cx} (hu : X.A.units + 65 < cLine) : MtR X "list.count" (rCount X.K) := by
  intro pins s σ H x xs v us Q I rx rxs h
  obtain ⟨F, a, vs, y, d, ds, sF, rfl, rfl, hs, ra, ry, sl, sd, q⟩ := h
  cases rx
  cases rxs with
  | cons ruy rt =>
    rename_i uy ut
    cases rt
    obtain ⟨bs, r1⟩ := Rp.reads I (ry.mono sF) ruy (shaped_noDict sd)
    have hxs : PyData.canLayAll0 ds = true := SeqAt.canLay_of_shaped sl
    have hroom : X.A.units + 1 + min (PyData.depthAll ds) d.depth < cLine := room_in_shaped sd hu
    obtain ⟨its, rv, ⟨⟨cls, dd, data, sls⟩, n, ho, hc, hdn, hdt⟩, hlen⟩ := I.list hs
    simp only at hc hdt
    subst hc hdt
    have nd : PyData.hasDictAll ds = false := by have := shaped_noDict sl; simpa only [PyData.hasDict] using this
    obtain ⟨as, h4⟩ := ra.readsA I sF rv nd
    have hmap : its.map (SeqAt.readOf s.heap) = ds := SeqAt.readsAll_map ds its as hxs h4
    refine call_meets PySem.F.slot_list_count ⟨_, ho, rfl⟩ PySem.F.entry_list_count (PySem.F.args_list_count_2 _ _)
      (SeqAt.list_countAt a its.toArray n dd sls uy (fun u => PyData.eqv (SeqAt.readOf s.heap u) d)) ⟨ho, SeqAt.items_eqAt (vs := its.toArray) (show ReadsAll s.heap its.toArray.toList ds as from h4) r1 hxs (SeqAt.canLay_of_shaped sd) hroom, ?_⟩
    have e : (its.toArray.toList.countP fun u => PyData.eqv (SeqAt.readOf s.heap u) d) = ds.countP fun z => PyData.eqv z d := by rw [← hmap, List.countP_map]; rfl
    rw [e]
    exact ⟨.int _, H, I.tok _, ⟨_, rfl⟩, q⟩
section
variable {Tq : List (Addr × Str)} {Z : Zb Tq} {X : Cx} {env : Env} {P : R → Env → Prop} {e o : Expr} {pos : Pos}
theorem w_count {apos : Pos} (hu : X.A.units + 65 < cLine) (h : WA Z X o env fun a1 e1 => ∃ ds, a1 = .va (.list ds) ∧ WA Z X e e1 fun a2 e2 => ∃ d, a2 = .va d ∧ SeqAt.shaped (.list ds) = true ∧ SeqAt.shaped d = true ∧ P (.t (.va (.int ((ds.countP fun z => PyData.eqv z d : Nat) : Int)))) e2)
    (hbase : attributeBase o "count" X.env (eval o X.env) = eval o X.env := by rfl)
    (hfew : ((backTo pos (starEach [e] X.env)).all (fun x => !x.1) && (backToKw pos (keywordEach [] X.env)).all (fun x => x.1.isSome)
      && decide (([e] : List Expr).length + ([] : List Keyword).length + (if ([] : List Keyword).isEmpty then 0 else 1) < 30)) = true := by rfl)
    (hline : (apos.endLine == pos.line) = true := by rfl) (hs : starEach [e] X.env = (false, eval e X.env) :: starEach [] X.env := by rfl) (hpl : (backTo pos (starEach [] X.env)).any (·.1) = false := by rfl) :
    WE Z X (.Call (.Attribute o "count" apos) [e] [] pos) env P :=
  we_of (pe_bm PySem.F.plainAttrs_list PySem.F.slot_list_count PySem.F.type_list_count (mt_countD hu) (pe_A (Z := Z)) (pa_cons (pe_A (Z := Z)) pa_nil hs) hbase hfew hline hs hpl) fun σ H F O b0 o0 =>
    ⟨env, F, O, _, b0, o0, h, fun v H1 ⟨F1, O1, a1, e1, b1, o1, st1, fr1, ds, ea, q⟩ => by
      subst ea
      have st1 : Rp F1 v (.list ds) := st1
      cases st1 with
      | @lst a xs _ h1 ra =>
      refine ⟨.inl ⟨rfl, _, SqL.of (b1.sub _ _ h1)⟩, e1, F1, O1, _, b1, o1, q, fun v2 H2 ⟨F2, O2, a2, e2, b2, o2, st2, fr2, d, ea2, s1, s2, q2⟩ => ?_⟩
      subst ea2
      have st2 : Rp F2 v2 d := st2
      refine ⟨F2, a, xs, v2, d, ds, b2.sub, rfl, rfl, SqL.of (b2.sub _ _ (fr2.fz _ _ h1)), ra.mono fr2.fz, st2, s1, s2, (post_val b2 o2 (.int _) q2).from (fr1.trans fr2)⟩⟩
end
end QL
namespace QL
open PySem PySem.Spec PyProof.Rows L2
def rIndexQ (K : PySem.W.Frag) : V → List V → Hp → VK → Prop := fun x xs H Q => ∃ (F : Hp) (a : Addr) (vs : List V) (y : V) (d : D) (ds : List D) (j : Nat) (z : D), Same F H ∧ x = .ref a ∧ xs = [y] ∧ SqL K H a vs ∧ RpA F vs ds ∧ Rp F y d ∧ SeqAt.shaped (.list ds) = true ∧ SeqAt.shaped d = true ∧
  ds[j]? = some z ∧ PyData.eqv z d = true ∧ (∀ (m : Nat) (z' : D), m < j → ds[m]? = some z' → PyData.eqv z' d = false) ∧ Q (.int (j : Nat)) H
theorem mt_indexQ {X : Cx} (hu : X.A.units + 65 < cLine) : MtR X "list.index" (rIndexQ X.K) := by
  intro pins s σ H x xs v us Q I rx rxs h
  obtain ⟨F, a, vs, y, d, ds, j, z, sF, rfl, rfl, hs, ra, ry, sl, sd, hz, hzj, hno, q⟩ := h
  cases rx
  cases rxs with
  | cons ruy rt =>
    rename_i uy ut
    cases rt
    obtain ⟨bs, r1⟩ := Rp.reads I (ry.mono sF) ruy (shaped_noDict sd)
    have hxs : PyData.canLayAll0 ds = true := SeqAt.canLay_of_shaped sl
    have hroom : X.A.units + 1 + min (PyData.depthAll ds) d.depth < cLine := room_in_shaped sd hu
    obtain ⟨its, rv, ⟨⟨cls, dd, data, sls⟩, n, ho, hc, hdn, hdt⟩, hlen⟩ := I.list hs
    simp only at hc hdt
    subst hc hdt
    have nd : PyData.hasDictAll ds = false := by have := shaped_noDict sl; simpa only [PyData.hasDict] using this
    obtain ⟨as, h4⟩ := ra.readsA I sF rv nd
    have hn : its.length = ds.length := SeqAt.ReadsAll.length ds its as h4
    have hmap : its.map (SeqAt.readOf s.heap) = ds := SeqAt.readsAll_map ds its as hxs h4
    have hvl := rv.length
    have hsl := sizeLine_eq
    obtain ⟨hjd, _⟩ := List.getElem?_eq_some_iff.mp hz
    have hjl : j < its.length := by omega
    have hj : j < its.toArray.size := by simpa using hjl
    have at_ : ∀ (m : Nat) (hm : m < its.toArray.size) (z' : PyData), ds[m]? = some z' → SeqAt.readOf s.heap its.toArray[m] = z' := by
      intro m hm z' hz'
      have hml : m < its.length := by simpa using hm
      rw [← hmap, List.getElem?_map, List.getElem?_eq_getElem hml] at hz'
      have e1 : SeqAt.readOf s.heap its[m] = z' := Option.some.inj (show some (SeqAt.readOf s.heap its[m]) = some z' from hz')
      simpa using e1
    refine call_meets PySem.F.slot_list_index ⟨_, ho, rfl⟩ PySem.F.entry_list_index (PySem.F.args_list_index_2 _ _)
      (SeqAt.list_indexAt a its.toArray n dd sls uy (fun u => PyData.eqv (SeqAt.readOf s.heap u) d) j hj (by omega) ?_ ?_) ⟨ho, SeqAt.items_eqAt (vs := its.toArray) (show ReadsAll s.heap its.toArray.toList ds as from h4) r1 hxs (SeqAt.canLay_of_shaped sd) hroom, ?_⟩
    · show PyData.eqv (SeqAt.readOf s.heap its.toArray[j]) d = true
      rw [at_ j hj z hz]
      exact hzj
    · intro m hm hmj
      have hmd : m < ds.length := by omega
      have hz' : ds[m]? = some ds[m] := List.getElem?_eq_getElem hmd
      show PyData.eqv (SeqAt.readOf s.heap its.toArray[m]) d = false
      rw [at_ m hm _ hz']
      exact hno m _ hmj hz'
    · exact ⟨.int (j : Nat), H, I.tok _, ⟨_, rfl⟩, q⟩
section
variable {Tq : List (Addr × Str)} {Z : Zb Tq} {X : Cx} {env : Env} {P : R → Env → Prop} {e o : Expr} {pos : Pos}
theorem w_index {apos : Pos} (hu : X.A.units + 65 < cLine) (h : WE Z X o env fun r e1 => ∃ a i p ds0, r = .bor a i p ∧ getP i p e1 = some (.lst a ds0) ∧ WA Z X e e1 fun a2 e2 => ∃ (d : D) (ds : List D) (j : Nat) (z : D), a2 = .va d ∧ getP i p e2 = some (.lst a ds) ∧ SeqAt.shaped (.list ds) = true ∧ SeqAt.shaped d = true ∧ ds[j]? = some z ∧ PyData.eqv z d = true ∧ (∀ (m : Nat) (z' : D), m < j → ds[m]? = some z' → PyData.eqv z' d = false) ∧ P (.t (.va (.int (j : Nat)))) e2)
    (hbase : attributeBase o "index" X.env (eval o X.env) = eval o X.env := by rfl)
    (hfew : ((backTo pos (starEach [e] X.env)).all (fun x => !x.1) && (backToKw pos (keywordEach [] X.env)).all (fun x => x.1.isSome)
      && decide (([e] : List Expr).length + ([] : List Keyword).length + (if ([] : List Keyword).isEmpty then 0 else 1) < 30)) = true := by rfl)
    (hline : (apos.endLine == pos.line) = true := by rfl) (hs : starEach [e] X.env = (false, eval e X.env) :: starEach [] X.env := by rfl) (hpl : (backTo pos (starEach [] X.env)).any (·.1) = false := by rfl) :
    WE Z X (.Call (.Attribute o "index" apos) [e] [] pos) env P :=
  we_of (pe_bm PySem.F.plainAttrs_list PySem.F.slot_list_index PySem.F.type_list_index (mt_indexQ hu) (pe_E (Z := Z)) (pa_cons (pe_A (Z := Z)) pa_nil hs) hbase hfew hline hs hpl) fun σ H F O b0 o0 =>
    ⟨env, F, O, _, b0, o0, h, fun v H1 ⟨F1, O1, r, e1, b1, st, fr1, a, i, p, ds0, er, hg, q⟩ => by
      subst er
      obtain ⟨o1, ev⟩ := st
      subst ev
      refine ⟨lst_at o1 hg, e1, F1, O1, _, b1, o1, q, fun v2 H2 ⟨F2, O2, a2, e2, b2, o2, st2, fr2, d, ds, j, z, ea, hg3, s1, s2, hz, hzj, hno, q3⟩ => ?_⟩
      subst ea
      have st2 : Rp F2 v2 d := st2
      obtain ⟨xs, hH, rx, _⟩ := mutL b2 o2 hg3
      exact ⟨F2, a, xs, v2, d, ds, j, z, b2.sub, rfl, rfl, SqL.of hH, rx, st2, s1, s2, hz, hzj, hno, (post_val b2 o2 (.int _) q3).from (fr1.trans fr2)⟩⟩
end
end QL

/-! QTJ: classes and methods called by names alone. -/
namespace QL
open PySem PySem.Spec PyProof.Rows L2
/-- what is written by names, behind the object -/
def KwOkS (K : PySem.W.Frag) (fd : FuncData) (ps ks : List Str) (ns : List Nat) : Prop := ∀ (s : Shared) (v : Value) (us : List Value), K.In s.heap → us.length = ks.length → BindsTo s fd ⟨[v], ks.zip us⟩ (ps.zip (v :: pick ns us))
theorem fun_kwsS {K : PySem.W.Frag} {x qual : Str} {st : Stmt} {f : Addr} {fd : FuncData} {ps ks : List Str} {ns : List Nat} (F : Fun K x qual st f fd)
    (h : ∀ (kV doc pm : Value) (an : Option Addr) (cdv ct v : Value) (us : List Value), us.length = ks.length → bindArgs (PySem.W.fnOf x qual (defArgs st) (defBody st) (defScope st) .none kV doc pm an cdv ct) ⟨[v], ks.zip us⟩ = pure (ps.zip (v :: pick ns us))) : KwOkS K fd ps ks ns := by
  obtain ⟨oc, od, kV, doc, pm, an, cdv, ct, osl, rfl, lk, hcd⟩ := F.ex
  exact fun s v us _ hl => .of_eq (h kV doc pm an cdv ct v us hl)
structure MfK (P : Program) (w : World) (K : PySem.W.Frag) (mg : Str → Option Value) (base : Heap) (Tq : List (Addr × Str)) (k : Nat) (C : Addr) (m : Str) (ps ks : List Str) (ns : List Nat) (sp : Spc) : Prop where
  ex : ∃ f fd, FnG P w K mg base Tq k f fd ps sp ∧ Cls K C ∧ Meth K C m f ∧ KwOkS K fd ps ks ns
theorem MfK.mono {P : Program} {w : World} {K : PySem.W.Frag} {mg : Str → Option Value} {base : Heap} {Tq : List (Addr × Str)} {j k : Nat} {C : Addr} {m : Str} {ps ks : List Str} {ns : List Nat} {sp : Spc} (G : MfK P w K mg base Tq j C m ps ks ns sp) (h : j ≤ k) : MfK P w K mg base Tq k C m ps ks ns sp :=
  let ⟨f, fd, g, r⟩ := G.ex; ⟨f, fd, g.mono h, r⟩
structure CkK (P : Program) (w : World) (K : PySem.W.Frag) (mg : Str → Option Value) (base : Heap) (Tq : List (Addr × Str)) (k : Nat) (x : Str) (C : Addr) (ps ks : List Str) (ns : List Nat) (sp : Spc) : Prop where
  ex : ∃ f fd, FnG P w K mg base Tq k f fd ps sp ∧ Mk K C f ∧ mg x = some (.ref C) ∧ KwOkS K fd ps ks ns
theorem CkK.mono {P : Program} {w : World} {K : PySem.W.Frag} {mg : Str → Option Value} {base : Heap} {Tq : List (Addr × Str)} {j k : Nat} {x : Str} {C : Addr} {ps ks : List Str} {ns : List Nat} {sp : Spc} (G : CkK P w K mg base Tq j x C ps ks ns sp) (h : j ≤ k) : CkK P w K mg base Tq k x C ps ks ns sp :=
  let ⟨f, fd, g, r⟩ := G.ex; ⟨f, fd, g.mono h, r⟩
section
variable {Tq : List (Addr × Str)} {Z : Zb Tq} {X : Cx} {e a b c o value : Expr} {es : List Expr} {env : Env} {pos pos' apos p : Pos} {P : R → Env → Prop} {f x m : Str} {k : Nat} {C : Addr} {ps ks : List Str} {ns : List Nat} {sp : Spc} {kws : List Keyword}
theorem make_gK {us0 : List Value} {kw : List (Str × Value)} {fI : Addr} {fd : FuncData} {ET : Ex → Env → Prop} {as : List A} {vs : List V} {us : List Value} {pins : List (Addr × Obj)} {s : Shared} {σ : L2.St} {H F : Hp} {O : List Addr}
    (M : Mk X.K C fI) (G : FnG X.prog X.w X.K X.mg X.base Tq k fI fd ps sp) (hr : Room (k + 1) X.A) (hg : X.A.guards = some []) (tk : Takes X (wxOf Z ET)) (hb : ∀ (s : Shared) (v : Value), X.K.In s.heap → ps.length = us.length + 1 → BindsTo s fd ⟨v :: us0, kw⟩ (ps.zip (v :: us))) (I : Inv X pins σ H s) (b : Bas Z F H O) (o : OwE F H O σ env)
    (st : StAs F vs as) (r : Vals vs us) (h : callN sp C as env (fun t e => P (.t t) e) ET) : wpAny (model X.prog X.w) X.A (call (.ref C) us0 kw) (EP X pins σ (Post Z σ H F O P)) X.xe s := by
  have nx : H (s.heap.objs.size + 1) = none := I.hok.fresh (Nat.le_succ _)
  have ndx : H s.heap.objs.size = none := I.hok.fresh (Nat.le_refl _)
  have nex : s.heap.objs.size ≠ s.heap.objs.size + 1 := Nat.ne_of_lt (Nat.lt_succ_self _)
  have h := h (s.heap.objs.size + 1)
  have I2 := Inv.made (C := C) I
  generalize eH : upd (upd H s.heap.objs.size (.own (s.heap.objs.size + 1))) (s.heap.objs.size + 1) (.ins C s.heap.objs.size []) = H2 at I2
  have h2x : H2 (s.heap.objs.size + 1) = some (.ins C s.heap.objs.size []) := by rw [← eH, upd_same]
  have h2d : H2 s.heap.objs.size = some (.own (s.heap.objs.size + 1)) := by rw [← eH, upd_ne nex, upd_same]
  have s2 : Same H H2 := fun c y e => by rw [← eH, upd_ne (ne_of_none e nx), upd_ne (ne_of_none e ndx)]; exact e
  obtain ⟨ts, e2, Oc, Or, pm, sv, o2, h⟩ := deref_ok st o h
  have ex : ∀ c ∈ Or, Held H c := o2.held
  have exc : ∀ c ∈ Oc, Held H c := fun c hc => o.held c (pm.mem_iff.mpr (List.mem_append_left _ hc))
  have keep2 : ∀ c, H c ≠ none → H2 c = H c := fun c hc => by
    cases q : H c with
    | none => exact absurd q hc
    | some y => exact s2 c y q
  -- the new instance beside the arguments
  have Fx : F (s.heap.objs.size + 1) = none := b.sub.free nx
  have Fd : F s.heap.objs.size = none := b.sub.free ndx
  have fr0 : Frm Tq H F O H2 F (O ++ [s.heap.objs.size + 1, s.heap.objs.size]) := ⟨Same.refl _, fun c y e _ _ => s2 c y e, fun c e => by rw [keep2 c e]; exact e, fun c e => .inl e, fun c hc => by
    rcases List.mem_append.mp hc with z | z
    · exact .inl z
    · rcases List.mem_cons.mp z with rfl | z
      · exact .inr nx
      · rw [List.mem_singleton.mp z]; exact .inr ndx, tab_same s2⟩
  have b0 : Bas Z F H2 (O ++ [s.heap.objs.size + 1, s.heap.objs.size]) := ⟨b.sub.trans s2, List.nodup_append.mpr ⟨b.nd, List.nodup_cons.mpr ⟨fun z => nex (List.mem_singleton.mp z).symm, List.nodup_cons.mpr ⟨fun z => (nomatch z), List.nodup_nil⟩⟩, fun c hc d hd z => by
      subst z
      have := o.there c hc
      rcases List.mem_cons.mp hd with z | z
      · exact this (z ▸ nx)
      · exact this ((List.mem_singleton.mp z) ▸ ndx)⟩, fun c hc => by
      rcases List.mem_append.mp hc with z | z
      · exact b.dis c z
      · rcases List.mem_cons.mp z with rfl | z
        · exact Fx
        · rw [List.mem_singleton.mp z]; exact Fd, b.abs.trans fr0⟩
  have pm2 : (O ++ [s.heap.objs.size + 1, s.heap.objs.size]).Perm (((s.heap.objs.size + 1) :: s.heap.objs.size :: Oc) ++ Or) := (List.perm_append_comm (l₁ := O)).trans ((pm.cons s.heap.objs.size).cons (s.heap.objs.size + 1))
  have bc := (b0.perm pm2).left.entry
  have sv2 : StV F H2 ((s.heap.objs.size + 1) :: s.heap.objs.size :: Oc) (.ref (s.heap.objs.size + 1) :: vs) (.ins (s.heap.objs.size + 1) C [] :: ts) := by
    have w0 : Ow F H2 [s.heap.objs.size + 1, s.heap.objs.size] (.ref (s.heap.objs.size + 1)) (.ins (s.heap.objs.size + 1) C []) := .ins h2x h2d .nil
    have svs : StV F H2 Oc vs ts := by
      have key : ∀ {Oc : List Addr} {vs : List V} {ts : List T}, StV F H Oc vs ts → (∀ c ∈ Oc, H2 c = H c) → StV F H2 Oc vs ts := fun {Oc vs ts} z => by
        induction z with
        | nil => intro _; exact .nil
        | cons w r ih => intro kk; exact .cons (w.stay (Same.refl _) fun c hc => kk c (List.mem_append_left _ hc)) (ih fun c hc => kk c (List.mem_append_right _ hc))
      exact key sv fun c hc => keep2 c (exc c hc).ne
    exact .cons w0 svs
  have r2 : Vals (V.ref (s.heap.objs.size + 1) :: vs) (Value.ref (s.heap.objs.size + 1) :: us) := .cons rfl r
  have hl : (Value.ref (s.heap.objs.size + 1) :: us ++ []).length = ps.length := by
    rw [List.append_nil, ← r2.length, sv2.len, G.len _ _ _ h]
  have ex2 : ∀ c ∈ Or, Held H2 c := fun c hc => let ⟨y, e, n⟩ := ex c hc; ⟨y, s2 c y e, n⟩
  refine wpAny_call (make_map (f := fI) I.kIn M.makes M.init (beq_iff_eq.mp M.fn) ?_)
  have hb2 := hb _ (Value.ref (s.heap.objs.size + 1)) I2.kIn (by rw [List.append_nil] at hl; exact hl.symm)
  have run := G.run (X.A.under (.builtin "type.__call__" ⟨.ref C :: us0, kw⟩)) X.stack _ H2 ⟨Value.ref (s.heap.objs.size + 1) :: us0, kw⟩ (Value.ref (s.heap.objs.size + 1) :: us) (V.ref (s.heap.objs.size + 1) :: vs) F ((s.heap.objs.size + 1) :: s.heap.objs.size :: Oc) (.ins (s.heap.objs.size + 1) C [] :: ts) _ _
    (fun cls d H' => ∃ e ts' F' O', Bas ⟨H2, F, (s.heap.objs.size + 1) :: s.heap.objs.size :: Oc, (b0.perm pm2).left.tabs⟩ F' H' O' ∧ StVO F' H' O' (.ref (s.heap.objs.size + 1) :: vs) ts' ∧ ExAt F' e cls d ∧ (match ts' with | _ :: ts'' => putb as ts'' e2 fun e3 => ET e e3 | [] => False)) (b0.perm pm2).left.tabs (hr.make C us0 kw) (guards_make hg) (I2.env0.make C us0 kw) hb2 r2 bc sv2 h
    fun e ts' cls d H' F' O' b' s' x' q => ⟨e, ts', F', O', b', s', x', q⟩
  refine codeAny_mono (run) fun rs s' hq => ?_
  have back : ∀ {F' H' : Hp} {O1 O2 : List Addr} {ts' : List (Option T)} {kk : Env → Prop}, Bas ⟨H2, F, _ :: s.heap.objs.size :: Oc, (b0.perm pm2).left.tabs⟩ F' H' (O1 ++ O2) → StVO F' H' O1 vs ts' → putb as ts' e2 kk →
      ∃ e3 O3, OwE F' H' O3 σ e3 ∧ Bas Z F' H' (O3 ++ O2) ∧ Frm Tq H F O H' F' (O3 ++ O2) ∧ kk e3 := fun {F' H' O1 O2 ts' kk} b' s' q => by
    have fr := b'.abs
    have b3 := Bas.frame fr (b0.perm pm2) b' ex2
    have keep := fr.rest (R := Or) (pm2.nodup b0.nd) ex2
    obtain ⟨e3, O3, Od, o3, p3, q3⟩ := putb_ok (F := F') (H := H') (st) s' (o2.stay fr.fz fun c hc => (keep c hc).trans (keep2 c (ex c hc).ne)) q
    have p4 : ((O1 ++ O2) ++ Or).Perm ((O3 ++ O2) ++ Od) := by
      have e1 : ((O1 ++ O2) ++ Or).Perm ((O1 ++ Or) ++ O2) := by
        rw [List.append_assoc, List.append_assoc]
        exact List.perm_append_comm.append_left O1
      have e2 : ((O3 ++ O2) ++ Od).Perm ((O3 ++ Od) ++ O2) := by
        rw [List.append_assoc, List.append_assoc]
        exact List.perm_append_comm.append_left O3
      exact e1.trans ((p3.append_right O2).trans e2.symm)
    exact ⟨e3, O3, o3, (b3.perm p4).left, fr0.trans ((fr.frame (R := Or)).perm (fun c => pm2.symm.mem_iff) (fun c hc => p4.mem_iff.mpr (List.mem_append_left _ hc))), q3⟩
  cases rs with
  | error e =>
    refine tk e s' (XE.of_call I2 (fun cls d H' hE => ?_) hq)
    obtain ⟨y, ts', F', O', b', sv', xa, q⟩ := hE
    cases sv' with
    | un sv' =>
      obtain ⟨e3, O3, o3, b3, fr3, q3⟩ := back (O2 := []) (by rw [List.append_nil]; exact b') sv' q
      rw [List.append_nil] at b3 fr3
      exact ⟨F', O3, e3, y, b3, o3, xa, q3⟩
    | cons w sv' =>
      rename_i Ou O1' u ts''
      obtain ⟨e3, O3, o3, b3, fr3, q3⟩ := back (O1 := O1') (O2 := Ou) (b'.perm List.perm_append_comm) sv' q
      exact ⟨F', O3, e3, y, b3.left, o3, xa, q3⟩
  | ok fl =>
    cases fl with
    | ret u =>
      obtain ⟨v, H', I3, rv, F', O1, O2, t, ts', b', sv', w', rfl, q⟩ := I2.after hq
      cases w' with
      | va rr =>
        cases rr
        refine ⟨rv, ?_⟩
        cases sv' with
        | un sv' => exact q.elim
        | cons w sv' =>
          rename_i Ou O1' u ts''
          obtain ⟨hu, q⟩ := q
          have pmx : ((Ou ++ O1') ++ []).Perm (O1' ++ Ou) := by rw [List.append_nil]; exact List.perm_append_comm
          obtain ⟨e3, O3, o3, b3, fr3, q3⟩ := back (O1 := O1') (O2 := Ou) (b'.perm pmx) sv' q
          exact ⟨V.ref (s.heap.objs.size + 1), H', I3, rfl, F', O3 ++ Ou, .t u, e3, b3, ⟨O3, Ou, rfl, o3, w⟩, fr3, q3⟩
    | next => exact hq.elim
    | brk => exact hq.elim
    | cont => exact hq.elim

theorem w_makeKX {ET : Ex → Env → Prop} (G : CkK X.prog X.w X.K X.mg X.base Tq k x C ps ks ns sp) (hr : Room (k + 1) X.A) (hgd : X.A.guards = some []) (tk : Takes X (wxOf Z ET)) (h : WKs Z X kws env fun as e1 => as.length = ks.length ∧ callN sp C (pick ns as) e1 (fun t e => P (.t t) e) ET)
    (hks : (backToKw pos (keywordEach kws X.env)).filterMap (·.1) = ks := by rfl) (hall : (backToKw pos (keywordEach kws X.env)).all (·.1.isSome) = true := by rfl)
    (hg : Gl X x := by rfl) (hdb : (x == ("__debug__" : Str)) = false := by decide) (hpl : ((backTo pos (starEach [] X.env)).any (·.1) || (backToKw pos (keywordEach kws X.env)).any (·.1.isNone)) = false := by rfl) :
    WE Z X (.Call (.Name x p) [] kws pos) env P := fun pins s σ H F O I b o => by
  obtain ⟨fI, fd, g, M, hm, hb⟩ := G.ex
  refine wpAny_Call_Name_kw (ld_glob I hg hm ?_ hdb)
  refine PySem.W.callWith_KW0 (h₀ := X.base) (first := []) I.ok.mod.kin M.kp hall (thn ((pk_Ks (Z := Z)).run pos pins s σ H (PostAs Z σ H F O _) I ⟨env, F, O, _, b, o, h, fun _ _ q => q⟩) fun us s1 ⟨vs, H1, I1, r, F1, O1, as, e1, b1, o1, st, fr, hl, q⟩ => ⟨I1.kIn, ?_⟩) hpl
  rw [hks]
  have hul : us.length = ks.length := by rw [← r.length, st.len]; exact hl
  exact thn (make_gK (us0 := []) (kw := ks.zip us) (us := pick ns us) M g hr hgd tk (fun s' v hk _ => hb s' v us hk hul) I1 b1 o1 (st.pick ns) (vals_pick r ns) q) (EP.imp fun v H' q => q.from fr)
theorem w_makeK (G : CkK X.prog X.w X.K X.mg X.base Tq k x C ps ks ns sp) (hr : Room (k + 1) X.A) (hgd : X.A.guards = some []) (h : WKs Z X kws env fun as e1 => as.length = ks.length ∧ callN sp C (pick ns as) e1 (fun t e => P (.t t) e) fun _ _ => False)
    (hks : (backToKw pos (keywordEach kws X.env)).filterMap (·.1) = ks := by rfl) (hall : (backToKw pos (keywordEach kws X.env)).all (·.1.isSome) = true := by rfl)
    (hg : Gl X x := by rfl) (hdb : (x == ("__debug__" : Str)) = false := by decide) (hpl : ((backTo pos (starEach [] X.env)).any (·.1) || (backToKw pos (keywordEach kws X.env)).any (·.1.isNone)) = false := by rfl) :
    WE Z X (.Call (.Name x p) [] kws pos) env P := w_makeKX G hr hgd takes_no h hks hall hg hdb hpl
/-- o, then what is written by names -/
def methKR {Tq : List (Addr × Str)} (kws : List Keyword) (Z : Zb Tq) (X : Cx) (C : Addr) (m : Str) (r : R) (e1 : Env) (k : A → List A → Env → Prop) : Prop := match r with
  | .bor a i p => match getP i p e1 with
    | some (.ins a' C' fs) => (a' = a ∧ C' = C ∧ fs.lookup m = none) ∧ WKs Z X kws e1 fun as' e2 => k (.bor a i p) as' e2
    | _ => False
  | _ => False
theorem methKR_ok {σ : L2.St} {F H : Hp} {O : List Addr} {v : V} {r : R} {e1 : Env} {kk : A → List A → Env → Prop} (st : StR F H O σ e1 v r) (h : methKR kws Z X C m r e1 kk) :
    ∃ a i p dx vs, v = .ref a ∧ r = .bor a i p ∧ H a = some (.ins C dx vs) ∧ vs.lookup m = none ∧ OwE F H O σ e1 ∧ WKs Z X kws e1 fun as' e2 => kk (.bor a i p) as' e2 := by
  cases r with
  | t t => exact h.elim
  | bor a i p =>
    obtain ⟨o1, rfl⟩ := st
    unfold methKR at h
    simp only at h
    split at h
    · rename_i a' C' fs hg
      obtain ⟨⟨rfl, rfl, hm⟩, h⟩ := h
      obtain ⟨w, ⟨Oj, O', h1, h2, h3⟩, _⟩ := o1.focus hg
      cases h1 with
      | ins ha hd rr =>
        refine ⟨_, i, p, _, _, rfl, rfl, ha, ?_, o1, h⟩
        rcases rr.look (f := m) with ⟨_, e2⟩ | ⟨t, w, Ot, e2, _, _⟩
        · exact e2
        · rw [hm] at e2; cases e2
    · exact h.elim
theorem w_methKX {ET : Ex → Env → Prop} {pl : Sem Bool} (G : MfK X.prog X.w X.K X.mg X.base Tq k C m ps ks ns sp) (hr : Room k X.A) (hgd : X.A.guards = some []) (tk : Takes X (wxOf Z ET))
    (h : WE Z X o env fun r e1 => methKR kws Z X C m r e1 fun a0 as e2 => as.length = ks.length ∧ callD sp (a0 :: pick ns as) e2 (fun t e => P (.t t) e) ET)
    (hks : (backToKw pos (keywordEach kws X.env)).filterMap (·.1) = ks := by rfl) (hall : (backToKw pos (keywordEach kws X.env)).all (·.1.isSome) = true := by rfl)
    (hpl : ((backTo pos (starEach [] X.env)).any (·.1) || (backToKw pos (keywordEach kws X.env)).any (·.1.isNone)) = false := by rfl)
    (ht : eval (.Call (.Attribute o m apos) [] kws pos) X.env = (do
      let ov ← eval o X.env
      standAt apos.atName
      let (f, first) ← holding [ov] (getMethod ov m pl)
      callWith pos f first (backTo pos (starEach [] X.env)) (backToKw pos (keywordEach kws X.env))) := by rfl) :
    WE Z X (.Call (.Attribute o m apos) [] kws pos) env P := fun pins s σ H F O I b o0 => by
  obtain ⟨f, fd, g, c, hm, hb⟩ := G.ex
  refine PySem.W.methodCall_KW (pl := pl) (thn (h pins s σ H F O I b o0) fun u s1 ⟨v, H1, I1, rx, F1, O1, r, e1, b1, st, fr, q⟩ => ?_) ht
  obtain ⟨a, i, p, dx, vs, rfl, rfl, ha, hl, o1, q⟩ := methKR_ok st q
  obtain rfl : u = Value.ref a := rx
  refine getmeth_ok I1 ha c hm hl ?_
  refine PySem.W.callWith_KW0 (first := [.ref a]) (h₀ := X.base) I1.ok.mod.kin hm.kp hall (thn ((pk_Ks (Z := Z)).run pos pins s1 σ H1 (PostAs Z σ H1 F1 O1 _) I1 ⟨e1, F1, O1, _, b1, o1, q, fun _ _ q => q⟩) fun us s2 ⟨vs2, H2, I2, r2, F2, O2, as, e2, b2, o2, st2, fr2, hl2, q2⟩ => ⟨I2.kIn, ?_⟩) hpl
  rw [hks]
  have hul : us.length = ks.length := by rw [← r2.length, st2.len]; exact hl2
  exact thn (call_g (us0 := [.ref a]) (kw := ks.zip us) (us := .ref a :: pick ns us) (vs := .ref a :: pick ns vs2) (as := .bor a i p :: pick ns as) g hr hgd tk (hb s2 (.ref a) us I2.kIn hul) I2 b2 o2 (.cons rfl (st2.pick ns)) (.cons rfl (vals_pick r2 ns)) q2) (EP.imp fun v H' q => q.from (fr.trans fr2))
theorem w_methK {pl : Sem Bool} (G : MfK X.prog X.w X.K X.mg X.base Tq k C m ps ks ns sp) (hr : Room k X.A) (hgd : X.A.guards = some [])
    (h : WE Z X o env fun r e1 => methKR kws Z X C m r e1 fun a0 as e2 => as.length = ks.length ∧ callD sp (a0 :: pick ns as) e2 (fun t e => P (.t t) e) fun _ _ => False)
    (hks : (backToKw pos (keywordEach kws X.env)).filterMap (·.1) = ks := by rfl) (hall : (backToKw pos (keywordEach kws X.env)).all (·.1.isSome) = true := by rfl)
    (hpl : ((backTo pos (starEach [] X.env)).any (·.1) || (backToKw pos (keywordEach kws X.env)).any (·.1.isNone)) = false := by rfl)
    (ht : eval (.Call (.Attribute o m apos) [] kws pos) X.env = (do
      let ov ← eval o X.env
      standAt apos.atName
      let (f, first) ← holding [ov] (getMethod ov m pl)
      callWith pos f first (backTo pos (starEach [] X.env)) (backToKw pos (keywordEach kws X.env))) := by rfl) :
    WE Z X (.Call (.Attribute o m apos) [] kws pos) env P := w_methKX (pl := pl) G hr hgd takes_no h hks hall hpl ht
end
end QL

/-! QTA: x, y, z = anything, anything, anything. -/
namespace QL
open PySem PySem.Spec PyProof.Rows L2
variable {Tq : List (Addr × Str)} {Z : Zb Tq} {X : Cx} {env : Env} {PO : Out → Prop} {a b c : Expr} {pos : Pos}
theorem ws_par3T (i j l : Nat) {x y z : Str} {px py pz pt : Pos} {kt k2 pt2} (hc : X.calm = true) (hN : X.N.Nodup)
    (h : WE Z X a env fun r1 e1 => ∃ t1, r1 = .t t1 ∧ WE Z X b e1 fun r2 e2 => ∃ t2, r2 = .t t2 ∧ WE Z X c e2 fun r3 e3 => ∃ t3, r3 = .t t3 ∧ i < e3.length ∧ j < e3.length ∧ l < e3.length ∧ PO (.nx (((e3.set i (some t1)).set j (some t2)).set l (some t3))))
    (hi : X.N[i]? = some x := by rfl) (hj : X.N[j]? = some y := by rfl) (hl : X.N[l]? = some z := by rfl) (hij : i ≠ j := by decide) (hil : i ≠ l := by decide) (hjl : j ≠ l := by decide)
    (hx : X.env.scope.names.lookup x = some .local := by rfl) (hy : X.env.scope.names.lookup y = some .local := by rfl) (hz : X.env.scope.names.lookup z = some .local := by rfl)
    (hw : swappedStores [.Tuple [.Name x px, .Name y py, .Name z pz] kt pt] (.Tuple [a, b, c] k2 pt2) X.env = pure (some [x, y, z]) := by rfl)
    (hs : swapsWithSole [.Tuple [.Name x px, .Name y py, .Name z pz] kt pt] (.Tuple [a, b, c] k2 pt2) pos.line X.env = pure false := by rfl)
    (hs1 : starEach [a, b, c] X.env = (false, eval a X.env) :: starEach [b, c] X.env := by rfl) (hs2 : starEach [b, c] X.env = (false, eval b X.env) :: starEach [c] X.env := by rfl) (hs3 : starEach [c] X.env = (false, eval c X.env) :: starEach [] X.env := by rfl) :
    WS Z X (.Assign [.Tuple [.Name x px, .Name y py, .Name z pz] kt pt] (.Tuple [a, b, c] k2 pt2) pos) env PO :=
  ws_of (ps_par3 hc hN hi hj hl hij hil hjl hx hy hz (pa_cons (pe_E (Z := Z)) (pa_cons (pe_E (Z := Z)) (pa_cons (pe_E (Z := Z)) pa_nil hs3) hs2) hs1) hw hs) fun σ H F O b0 o => by
    refine ⟨env, F, O, _, b0, o, h, fun v1 H1 ⟨F1, O1, r1, e1, b1, st1, fr1, t1, er1, p⟩ => ?_⟩
    subst er1
    obtain ⟨Oa, Ob, rfl, o1, w1⟩ := st1
    refine ⟨e1, F1, Oa, _, b1.left, o1, p, fun v2 H2 ⟨F2, O2, r2, e2, b2, st2, fr2, t2, er2, p⟩ => ?_⟩
    subst er2
    obtain ⟨Oc, Od, rfl, o2, w2⟩ := st2
    have ex1 : ∀ c ∈ Ob, Held H1 c := w1.held
    have b2' := Bas.frame fr2 b1 b2 ex1
    have w1' : Ow F2 H2 Ob v1 t1 := w1.stay fr2.fz (fr2.rest b1.nd ex1)
    have fr12 : Frm Tq H F O H2 F2 ((Oc ++ Od) ++ Ob) := fr1.trans fr2.frame
    have pq : ((Oc ++ Od) ++ Ob).Perm (Oc ++ (Od ++ Ob)) := by rw [List.append_assoc]
    have b2'' := b2'.perm pq
    refine ⟨e2, F2, Oc, _, b2''.left, o2, p, fun v3 H3 ⟨F3, O3, r3, e3, b3, st3, fr3, t3, er3, li, lj, ll, p⟩ => ?_⟩
    subst er3
    obtain ⟨Oe, Of, rfl, o3, w3⟩ := st3
    have ex2 : ∀ c ∈ Od ++ Ob, Held H2 c := fun c hc => (List.mem_append.mp hc).elim (w2.held c) (w1'.held c)
    have b3' := Bas.frame fr3 b2'' b3 ex2
    have rs := fr3.rest b2''.nd ex2
    have w1'' : Ow F3 H3 Ob v1 t1 := w1'.stay fr3.fz fun c hc => rs c (List.mem_append_right _ hc)
    have w2'' : Ow F3 H3 Od v2 t2 := w2.stay fr3.fz fun c hc => rs c (List.mem_append_left _ hc)
    obtain ⟨O5, P5, o5, p5⟩ := o3.set i w1'' li
    obtain ⟨O6, P6, o6, p6⟩ := o5.set j w2'' (by rw [List.length_set]; exact lj)
    obtain ⟨O7, P7, o7, p7⟩ := o6.set l w3 (by rw [List.length_set, List.length_set]; exact ll)
    have pm : ((Oe ++ Of) ++ (Od ++ Ob)).Perm (O7 ++ (P7 ++ (P6 ++ P5))) := by
      have z1 : ((Oe ++ Of) ++ (Od ++ Ob)).Perm (Of ++ (Od ++ (Ob ++ Oe))) := by
        refine (List.perm_append_comm (l₁ := Oe) (l₂ := Of)).append_right _ |>.trans ?_
        rw [List.append_assoc]
        refine List.Perm.append_left Of ?_
        refine (List.perm_append_comm (l₁ := Oe)).trans ?_
        rw [List.append_assoc]
      refine z1.trans ?_
      have z2 : (Od ++ (Ob ++ Oe)).Perm (O6 ++ (P6 ++ P5)) := (p5.append_left Od).trans (by
        rw [← List.append_assoc, ← List.append_assoc]
        exact p6.append_right P5)
      refine (z2.append_left Of).trans ?_
      rw [← List.append_assoc, ← List.append_assoc O7]
      exact p7.append_right _
    have fr : Frm Tq H F O H3 F3 ((Oe ++ Of) ++ (Od ++ Ob)) := (fr12.perm (fun _ => Iff.rfl) fun c hc => pq.mem_iff.mpr hc).trans fr3.frame
    exact ⟨v1, v2, v3, rfl, F3, O7, _, (b3'.perm pm).left, o7, fr.perm (fun _ => Iff.rfl) fun c hc => pm.mem_iff.mpr (List.mem_append_left _ hc), p⟩
end QL

/-! QTC: things of one's own, one after another; o.f, o.g = e1, e2. -/
namespace QL
open PySem PySem.Spec PyProof.Rows L2
def WTs {Tq : List (Addr × Str)} (Z : Zb Tq) (X : Cx) : List Expr → Env → (List T → Env → Prop) → Prop
  | [], env, P => P [] env
  | e :: es, env, P => (starEach (e :: es) X.env = (false, eval e X.env) :: starEach es X.env) ∧ WE Z X e env fun r e1 => ∃ t, r = .t t ∧ WTs Z X es e1 fun ts e2 => P (t :: ts) e2
def PostTs {Tq : List (Addr × Str)} (Z : Zb Tq) (σ : L2.St) (H0 F0 : Hp) (O0 : List Addr) (P : List T → Env → Prop) : List V → Hp → Prop := fun vs H => ∃ F O1 O2 ts env, Bas Z F H (O1 ++ O2) ∧ OwE F H O1 σ env ∧ StV F H O2 vs ts ∧ Frm Tq H0 F0 O0 H F (O1 ++ O2) ∧ P ts env
theorem StV.stay {F H F' H' : Hp} (s : Same F F') : ∀ {O : List Addr} {vs : List V} {ts : List T}, StV F H O vs ts → (∀ a ∈ O, H' a = H a) → StV F' H' O vs ts
  | _, _, _, .nil, _ => .nil
  | _, _, _, .cons h r, k => .cons (h.stay s fun a ha => k a (List.mem_append_left _ ha)) (r.stay s fun a ha => k a (List.mem_append_right _ ha))
theorem StV.held {F H : Hp} : ∀ {O : List Addr} {vs : List V} {ts : List T}, StV F H O vs ts → ∀ a ∈ O, Held H a
  | _, _, _, .nil, a, ha => nomatch ha
  | _, _, _, .cons h r, a, ha => (List.mem_append.mp ha).elim (h.held a) (r.held a)
theorem StV.there {F H : Hp} : ∀ {O : List Addr} {vs : List V} {ts : List T}, StV F H O vs ts → ∀ a ∈ O, H a ≠ none
  | _, _, _, .nil, a, ha => nomatch ha
  | _, _, _, .cons h r, a, ha => (List.mem_append.mp ha).elim (h.there a) (r.there a)
def tTs {Tq : List (Addr × Str)} (Z : Zb Tq) (X : Cx) (es : List Expr) : TA := fun σ H Q => ∃ env F O P, Bas Z F H O ∧ OwE F H O σ env ∧ WTs Z X es env P ∧ ∀ v H', PostTs Z σ H F O P v H' → Q v H'
theorem pa_Ts {Tq : List (Addr × Str)} {Z : Zb Tq} {X : Cx} : ∀ {es : List Expr}, PA X es (tTs Z X es)
  | [] => ⟨fun pos pins s σ H Q I ⟨env, F, O, P, b, o, w, q⟩ => pa_nil.run pos pins s σ H Q I (q [] H ⟨F, O, [], [], env, by rw [List.append_nil]; exact b, o, .nil, by rw [List.append_nil]; exact Frm.refl _ _ _, w⟩)⟩
  | e :: es => ⟨fun pos pins s σ H Q I ⟨env, F, O, P, b, o, w, q⟩ => by
    have hp := pa_cons (X := X) (pe_E (Z := Z) (e := e)) (pa_Ts (Z := Z) (es := es)) w.1
    refine hp.run pos pins s σ H Q I ⟨env, F, O, _, b, o, w.2, ?_⟩
    rintro v1 H1 ⟨F1, O1, r1, env1, b1, st1, fr1, t1, er, w1⟩
    subst er
    obtain ⟨Oa, Ob, rfl, o1, w2⟩ := st1
    refine ⟨env1, F1, Oa, _, b1.left, o1, w1, ?_⟩
    rintro vs H2 ⟨F2, Oc, Od, ts, env2, b2, o2, st2, fr2, w3⟩
    have ex : ∀ c ∈ Ob, Held H1 c := w2.held
    have b3 := Bas.frame fr2 b1 b2 ex
    have w4 : Ow F2 H2 Ob v1 t1 := w2.stay fr2.fz (fr2.rest b1.nd ex)
    have pm : ((Oc ++ Od) ++ Ob).Perm (Oc ++ (Ob ++ Od)) := by
      rw [List.append_assoc]
      exact List.perm_append_comm.append_left Oc
    refine q _ _ ⟨F2, Oc, Ob ++ Od, t1 :: ts, env2, b3.perm pm, o2, .cons w4 st2, ?_, w3⟩
    exact (fr1.trans fr2.frame).perm (fun _ => Iff.rfl) fun c hc => pm.mem_iff.mpr hc⟩
/-! ### o.f as a target -/
def gAttr (K : PySem.W.Frag) (to : TE) (f : Str) : TG := fun v σ H Q => to σ H fun x H2 => ∃ a C dx fs, x = .ref a ∧ H2 a = some (.ins C dx fs) ∧ Cls K C ∧ NoAttr K C f ∧ fs.length < 1000 ∧ Q σ (upd H2 a (.ins C dx (putF f v fs)))
theorem pg_attr {X : Cx} {o : Expr} {f : Str} {pos : Pos} {to : TE} (ho : PE X o to) : PG X (.Attribute o f pos) (gAttr X.K to f) := by
  refine ⟨fun pins s σ H v u Q I r h => ?_⟩
  rw [assign_Attribute]
  refine wpAny_bind (wpAny_holding (thn (ho.run pins s σ H _ I h) fun ov s1 ⟨x, H1, I1, rx, a, C, dx, fs, ex, ea, c, n, l, q⟩ => ?_))
  subst ex
  obtain rfl : ov = Value.ref a := rx
  refine wpAny_bind (wpAny_standAt (wpAny_bind (wpAny_holding (setattr_ok I1 ea c n l r fun s3 I3 => ?_))))
  exact wpAny_release ⟨σ, _, I3, q⟩
def putFs (K : PySem.W.Frag) (i : Nat) : List Str → List T → Env → (Env → Prop) → Prop
  | f :: fs, t :: ts, e, k => putFR K t i f e fun e2 => putFs K i fs ts e2 k
  | [], [], e, k => k e
  | _, _, _, _ => False
def gAs (K : PySem.W.Frag) (i : Nat) : List Str → TGs
  | [] => gNil
  | f :: fs => gCons (gAttr K (tVar i) f) (gAs K i fs)
theorem gas_ok {Tq : List (Addr × Str)} {Z : Zb Tq} {K : PySem.W.Frag} {i : Nat} {σ : L2.St} {k : Env → Prop} {Q : L2.St → Hp → Prop} {H0 F0 : Hp} {O0 : List Addr} : ∀ {fs : List Str} {ts : List T} {vs : List V} {F H : Hp} {O1 O2 : List Addr} {env : Env}, Bas Z F H (O1 ++ O2) → OwE F H O1 σ env → StV F H O2 vs ts → Frm Tq H0 F0 O0 H F (O1 ++ O2) → putFs K i fs ts env k →
    (∀ F' H' O' e', Bas Z F' H' O' → OwE F' H' O' σ e' → Frm Tq H0 F0 O0 H' F' O' → k e' → Q σ H') → gAs K i fs vs σ H Q
  | [], ts, vs, F, H, O1, O2, env, b, o, st, fr, h, q => by
    cases st with
    | nil => exact ⟨rfl, q F H O1 env b.left o (fr.perm (fun _ => Iff.rfl) fun c hc => List.mem_append_left _ hc) h⟩
    | cons w st => exact h.elim
  | f :: fs, ts, vs, F, H, O1, O2, env, b, o, st, fr, h, q => by
    cases st with
    | nil => exact h.elim
    | @cons Oa Ob v t vs ts w st =>
      refine ⟨v, vs, rfl, ?_⟩
      unfold putFs putFR at h
      split at h
      · rename_i a C fls hi
        obtain ⟨⟨c, n, l⟩, h⟩ := h
        rw [← List.append_assoc] at b fr
        obtain ⟨dx, vls, hσ, ha, hl, O', b3, o3, fr3⟩ := mutI (f := f) b.left o hi w
        have ex : ∀ c ∈ Ob, Held H c := st.held
        have b4 := Bas.frame fr3 b b3 ex
        have st4 := st.stay fr3.fz (fr3.rest b.nd ex)
        refine ⟨_, hσ, a, C, dx, vls, rfl, ha, c, n, by rw [hl]; exact l, ?_⟩
        exact gas_ok b4 o3 st4 (fr.trans fr3.frame) h q
      · exact h.elim
section
variable {Tq : List (Addr × Str)} {Z : Zb Tq} {X : Cx} {env : Env} {PO : Out → Prop} {es : List Expr} {pos : Pos}
theorem ws_attrs (i : Nat) (fs : List Str) {tgs : List Expr} {kt k2 : _} {tpos epos : Pos} (hc : X.calm = true) (hg : PGs X tgs (gAs X.K i fs)) (h : WTs Z X es env fun ts e1 => ts.length ≤ sizeLine ∧ ts.length = fs.length ∧ putFs X.K i fs ts e1 fun e2 => PO (.nx e2))
    (hn : (assignEach tgs X.env).length = fs.length := by rfl) (hst : (assignEach tgs X.env).findIdx? (·.1) = none := by rfl)
    (hs : swapsWithSole [.Tuple tgs kt tpos] (.Tuple es k2 epos) pos.line X.env = pure false := by rfl) (hw : swappedStores [.Tuple tgs kt tpos] (.Tuple es k2 epos) X.env = pure none := by rfl)
    (h1 : (assignEach [.Tuple tgs kt tpos] X.env).map (·.2) = [assign (.Tuple tgs kt tpos) X.env] := by rfl) : WS Z X (.Assign [.Tuple tgs kt tpos] (.Tuple es k2 epos) pos) env PO :=
  ws_of (ps_asg (pe_tup (pa_Ts (Z := Z))) (pg_tup hc hg hn hst) hs hw h1) fun σ H F O b o => ⟨env, F, O, _, b, o, h, fun vs H1 ⟨F1, O1, O2, ts, e1, b1, o1, st1, fr1, z, l, p⟩ => by
    refine ⟨by rw [st1.len]; exact z, fun a ha => ?_⟩
    have sm : Same H1 (upd H1 a (.tup vs)) := same_new ha
    have na : ∀ c ∈ O1 ++ O2, c ≠ a := fun c hc e => by
      subst e
      exact (List.mem_append.mp hc).elim (fun z => o1.there c z ha) fun z => st1.there c z ha
    have keep : ∀ c ∈ O1 ++ O2, upd H1 a (.tup vs) c = H1 c := fun c hc => upd_ne (na c hc)
    have fr2 : Frm Tq H1 F1 (O1 ++ O2) (upd H1 a (.tup vs)) F1 (O1 ++ O2) := ⟨Same.refl _, fun c y e _ _ => sm c y e, fun c e => by
      by_cases z : c = a
      · subst z; rw [upd_same]; exact fun z => nomatch z
      · rw [upd_ne z]; exact e, fun c e => .inl e, fun c hc => .inl hc, tab_same sm⟩
    have b2 : Bas Z F1 (upd H1 a (.tup vs)) (O1 ++ O2) := ⟨fun c y e => sm c y (b1.sub c y e), b1.nd, b1.dis, b1.abs.trans fr2⟩
    refine ⟨a, vs, rfl, SqT.of upd_same, by rw [st1.len, l], ?_⟩
    exact gas_ok b2 (o1.stay (Same.refl _) fun c hc => keep c (List.mem_append_left _ hc)) (st1.stay (Same.refl _) fun c hc => keep c (List.mem_append_right _ hc)) (fr1.trans fr2) p fun F' H' O' e' b' o' fr' q => ⟨F', O', e', b', o', fr', q⟩⟩
end
end QL

/-! QTD: f(e), e a thing that has no name yet. -/
namespace QL
open PySem PySem.Spec PyProof.Rows L2
section
variable {Tq : List (Addr × Str)} {Z : Zb Tq} {X : Cx} {e : Expr} {env : Env} {pos p : Pos} {P : R → Env → Prop} {x : Str} {k : Nat} {ps : List Str} {sp : Spc}
theorem w_fnT1X {ET : Ex → Env → Prop} (G : Df X.prog X.w X.K X.mg X.base Tq k x ps sp) (hr : Room k X.A) (hgd : X.A.guards = some []) (tk : Takes X (wxOf Z ET)) (h : WE Z X e env fun r e1 => ∃ t, r = .t t ∧ callT sp t [] e1 (fun t e => P (.t t) e) ET)
    (hg : Gl X x := by rfl) (hdb : (x == ("__debug__" : Str)) = false := by decide) (he : starEach [e] X.env = (false, eval e X.env) :: starEach [] X.env := by rfl) (hpl : (backTo pos (starEach [] X.env)).any (·.1) = false := by rfl) :
    WE Z X (.Call (.Name x p) [e] [] pos) env P := fun pins s σ H F O I b o => by
  obtain ⟨f, fd, g, hm, hk, hb⟩ := G.ex
  refine wpAny_Call_Name_kw (ld_glob I hg hm ?_ hdb)
  refine PySem.W.callWith_K (h₀ := X.base) I.ok.mod.kin hk (thn ((pa_cons (pe_E (Z := Z)) pa_nil he).run pos pins s σ H (fun xs H1 => ∃ v, xs = [v] ∧ Post Z σ H F O _ v H1) I ⟨env, F, O, _, b, o, h, fun v H' q => ⟨v, rfl, q⟩⟩) fun us s1 ⟨vs0, H1, I1, r1, v, evs, F1, O1, r, e1, b1, st, fr, t, er, q⟩ => ⟨I1.kIn, ?_⟩) he hpl
  subst evs er
  obtain ⟨u, rfl, rx⟩ := vals1 r1
  obtain ⟨Oa, Ob, rfl, o1, wx⟩ := st
  have hl2 : [u].length = ps.length := by
    obtain ⟨ts, e3, Oc, Or, pm, sv, o3, hh⟩ := deref_ok (as := []) (vs := []) .nil o1 q
    cases sv
    rw [← g.len _ _ _ hh]
    rfl
  have hb2 := hb s1 [u] I1.kIn hl2
  rw [List.append_nil] at hb2
  exact thn (call_own (us0 := [u]) (kw := []) (us := []) (vs := []) (as := []) g hr hgd tk hb2 I1 b1 o1 wx rx .nil .nil q) (EP.imp fun v H' q => q.from fr)
theorem w_fnT1 (G : Df X.prog X.w X.K X.mg X.base Tq k x ps sp) (hr : Room k X.A) (hgd : X.A.guards = some []) (h : WE Z X e env fun r e1 => ∃ t, r = .t t ∧ callT sp t [] e1 (fun t e => P (.t t) e) fun _ _ => False)
    (hg : Gl X x := by rfl) (hdb : (x == ("__debug__" : Str)) = false := by decide) (he : starEach [e] X.env = (false, eval e X.env) :: starEach [] X.env := by rfl) (hpl : (backTo pos (starEach [] X.env)).any (·.1) = false := by rfl) :
    WE Z X (.Call (.Name x p) [e] [] pos) env P := w_fnT1X G hr hgd takes_no h hg hdb he hpl
end
end QL

/-! QTK: methods with *args: def m(self, *xs). -/
namespace QL
open PySem PySem.Spec PyProof.Rows L2 StX
/-- a def's promise to its callers, by the arguments as they are written (by place alone) -/
structure FnS (P : Program) (w : World) (K : PySem.W.Frag) (mg : Str → Option Value) (base : Heap) (Tq : List (Addr × Str)) (k : Nat) (f : Addr) (sp : Spc) : Prop where
  run : ∀ (A : Around) (outer : List PySem.Env) (s : Shared) (H : Hp) (us : List Value) (vs : List V) (F : Hp) (O : List Addr) (ts : List T) (QT : T → List (Option T) → Prop) (ET : Ex → List (Option T) → Prop) (E : XK) (tbs : TabZ Tq H F O),
    Room k A → A.guards = some [] → Env0 P w K mg base A outer s H → Vals vs us → Bas ⟨H, F, O, tbs⟩ F H O → StV F H O vs ts → sp ts QT ET →
    (∀ ex ts' cls d H' F' O', Bas ⟨H, F, O, tbs⟩ F' H' O' → StVO F' H' O' vs ts' → ExAt F' ex cls d → ET ex ts' → E cls d H') →
    codeAny (model P w) A (.call (.ref f) ⟨us, []⟩) (CR (L2.CX P w) outer P w H s (fun v H' => ∃ F' O1 O2 t ts', Bas ⟨H, F, O, tbs⟩ F' H' (O1 ++ O2) ∧ StVO F' H' O1 vs ts' ∧ Ow F' H' O2 v t ∧ QT t ts') E) s
theorem FnS.mono {P : Program} {w : World} {K : PySem.W.Frag} {mg : Str → Option Value} {base : Heap} {Tq : List (Addr × Str)} {j k : Nat} {f : Addr} {sp : Spc} (G : FnS P w K mg base Tq j f sp) (h : j ≤ k) : FnS P w K mg base Tq k f sp :=
  ⟨fun A outer s H us vs F O ts QT ET E tbs hr => G.run A outer s H us vs F O ts QT ET E tbs (hr.mono h)⟩
/-- one thing, then data that make a tuple -/
def spStar (sp : Spc) : Spc := fun ts QT ET => ∃ t0 ds, ts = t0 :: ds.map T.va ∧ ds.length ≤ sizeLine ∧
  sp [t0, .va (.tuple ds)] (fun t ts' => match ts' with | x :: _ => QT t (x :: ds.map fun _ => none) | [] => False) (fun ex ts' => match ts' with | x :: _ => ET ex (x :: ds.map fun _ => none) | [] => False)
theorem StV.datas {F H : Hp} : ∀ {ds : List D} {vs : List V} {O : List Addr}, StV F H O vs (ds.map T.va) → O = [] ∧ RpA F vs ds
  | [], _, _, .nil => ⟨rfl, .nil⟩
  | d :: ds, _, _, .cons w r => by
    cases w with
    | va q =>
      obtain ⟨e, rr⟩ := StV.datas (ds := ds) r
      exact ⟨by rw [e]; rfl, .cons q rr⟩
theorem StVO.nones {F H : Hp} : ∀ {vs : List V} {ds : List D}, vs.length = ds.length → StVO F H [] vs (ds.map fun _ => none)
  | [], [], _ => .nil
  | v :: vs, d :: ds, h => .un (StVO.nones (by simpa using h))
theorem fn_gS {P : Program} {w : World} {K : PySem.W.Frag} {mg : Str → Option Value} {base : Heap} {Tq : List (Addr × Str)} {x qual : Str} {st : Stmt} {f : Addr} {fd : FuncData} {N : List Str} {p0 pv : Str} {k : Nat} {sp : Spc} (Fn : Fun K x qual st f fd) (S : FnScope N [p0, pv] (defScope st))
    (hb : ∀ (kV doc pm : Value) (an : Option Addr) (cdv ct u : Value) (rest : List Value), bindArgs (PySem.W.fnOf x qual (defArgs st) (defBody st) (defScope st) .none kV doc pm an cdv ct) ⟨u :: rest, []⟩ = (newTuple rest >>= fun t => pure ([(p0, u)] ++ [(pv, t)])))
    (hbody : ∀ (cdv : Value) (A : Around) (outer : List PySem.Env) (s : Shared) (H : Hp) (E : XK) (Z : Zb Tq) (ts : List T) (QT : T → List (Option T) → Prop) (ET : Ex → List (Option T) → Prop), Room k (BX P w K mg base N qual st f cdv A outer s H E).A → (BX P w K mg base N qual st f cdv A outer s H E).A.guards = some [] →
      PassesOwn (model P w) (BX P w K mg base N qual st f cdv A outer s H E).A (BX P w K mg base N qual st f cdv A outer s H E).env (BX P w K mg base N qual st f cdv A outer s H E).xe →
      Takes (BX P w K mg base N qual st f cdv A outer s H E) (wxOf Z fun ex e => back ts e (ET ex)) → sp ts QT ET → WSs Z (BX P w K mg base N qual st f cdv A outer s H E) (defBody st) (startE N ts) (finP QT ts)) : FnS P w K mg base Tq (k + 1) f (spStar sp) := by
  obtain ⟨oc, od, kV, doc, pm, an, cdv, ct, osl, rfl, lk, hcd⟩ := Fn.ex
  refine ⟨fun A outer s H us vs F O ts QT ET E tbs hr hg e0 r b sv hsp hE => ?_⟩
  obtain ⟨t0, ds, rfl, hz, hsp⟩ := hsp
  cases sv with
  | @cons O1 O2 v0 _ vs _ w0 sv =>
  cases r with
  | @cons _ u0 _ us r0 r =>
  obtain ⟨rfl, rr⟩ := sv.datas
  have eO : O1 ++ [] = O1 := List.append_nil O1
  revert tbs
  rw [eO]
  intro tbs b hE
  have hn : H s.heap.objs.size = Option.none := e0.hok.fresh (Nat.le_refl _)
  have hl2 : us.length ≤ sizeLine := by rw [← r.length, rr.len]; exact hz
  refine run_bnd (ps := [p0, pv]) lk hcd S hr e0 (G := fun xs H2 => ∃ p, H p = Option.none ∧ xs = [v0, V.ref p] ∧ H2 = upd H p (.tup vs)) (fun A' Ex Q' h => ?_) fun s2 H2 xs ⟨p, hp, ex, eH⟩ hr' => ?_
  · rw [hb]
    refine wpAny_bind (wpAny_newTuple (wpAny_pure ?_) hl2)
    have new : ObjOk P w (upd H s.heap.objs.size (.tup vs)) (s.heap.push ({ cls := .type "tuple", data := .seq us.toArray } : Obj)) s.heap.objs.size (.tup vs) := ⟨by rw [rr.len]; exact hz, us, r, ⟨_, Heap.get?_push_size _ rfl, rfl, _, rfl⟩⟩
    have un := un_laid (fs := frs outer) (s := s) (o := ({ cls := .type "tuple", data := .seq us.toArray } : Obj)) (u := .tup vs) hn
    exact h _ _ [v0, V.ref s.heap.objs.size] [u0, Value.ref s.heap.objs.size] (env0_laid e0 new) un rfl (fun e s' => cxUp outer s H _ _ E e s' un (fun b o q => Heap.get?_push_of_some _ q) rfl) (.cons r0 (.cons rfl .nil)) rfl ⟨_, hn, rfl, rfl⟩
  · subst ex eH
    have Fp : F p = none := b.sub.free hp
    have sm : Same H (upd H p (.tup vs)) := same_new hp
    have sF : Same F (upd F p (.tup vs)) := same_new Fp
    have keep : ∀ c ∈ O1, upd H p (.tup vs) c = H c := fun c hc => upd_ne fun z => by rw [z] at hc; exact w0.there _ hc hp
    have fr2 : Frm Tq H F O1 (upd H p (.tup vs)) (upd F p (.tup vs)) O1 := ⟨sF, fun c y e _ _ => sm c y e, fun c e => by
      by_cases z : c = p
      · subst z; rw [upd_same]; exact fun z => nomatch z
      · rw [upd_ne z]; exact e, fun c e => by
      by_cases z : c = p
      · subst z; exact .inr (.inl hp)
      · rw [upd_ne z] at e; exact .inl e, fun c hc => .inl hc, tab_same sm⟩
    have b2 : Bas ⟨H, F, O1, tbs⟩ (upd F p (.tup vs)) (upd H p (.tup vs)) O1 := ⟨same_upd2 b.sub, b.nd, fun c hc => by rw [upd_ne fun z => by rw [z] at hc; exact w0.there _ hc hp]; exact b.dis c hc, b.abs.trans fr2⟩
    have w2 : Ow (upd F p (.tup vs)) (upd H p (.tup vs)) O1 v0 t0 := w0.stay sF keep
    have sv2 : StV (upd F p (.tup vs)) (upd H p (.tup vs)) O1 [v0, V.ref p] [t0, .va (.tuple ds)] := by
      have := StV.cons w2 (.cons (.va (.tup upd_same (rr.mono sF))) .nil : StV (upd F p (.tup vs)) (upd H p (.tup vs)) ([] ++ []) [V.ref p] [.va (.tuple ds)])
      rwa [List.append_nil, List.append_nil] at this
    have fin : ∀ {F' H' : Hp} {Oa Ob : List Addr} {t : T} {e : Env} {v : V} {σ : L2.St} {QQ : List (Option T) → Prop}, Bas ⟨H, F, O1, tbs⟩ F' H' (Oa ++ Ob) → OwE F' H' Oa σ e → Ow F' H' Ob v t → back [t0, .va (.tuple ds)] e QQ →
        ∃ O3 x, Bas ⟨H, F, O1, tbs⟩ F' H' (O3 ++ Ob) ∧ StVO F' H' O3 (v0 :: vs) (x :: ds.map fun _ => none) ∧ ∃ tl, QQ (x :: tl) := fun {F' H' Oa Ob t e v σ QQ} b' o' w' q => by
      obtain ⟨O3, Od, ts', p3, s3, q⟩ := back_ok sv2 o' q
      have p4 : (Oa ++ Ob).Perm ((O3 ++ Ob) ++ Od) := (p3.append_right Ob).trans (by
        rw [List.append_assoc, List.append_assoc]
        exact List.perm_append_comm.append_left O3)
      have hlen : vs.length = ds.length := rr.len
      cases s3 with
      | un s3 => exact ⟨[], none, ((b'.perm p4).left.perm List.perm_append_comm).left.perm (by rw [List.nil_append]) , .un (StVO.nones hlen), _, q⟩
      | @cons Oc Oe _ tx _ ts'' wx s3 =>
        have p5 : ((Oc ++ Oe) ++ Ob).Perm ((Oc ++ Ob) ++ Oe) := by
          rw [List.append_assoc, List.append_assoc]
          exact List.perm_append_comm.append_left Oc
        refine ⟨Oc, some tx, (((b'.perm p4).left).perm p5).left, ?_, _, q⟩
        have := StVO.cons wx (StVO.nones (F := F') (H := H') hlen)
        rwa [List.append_nil] at this
    have tk : Takes (BX P w K mg base N qual st f cdv A outer s2 (upd H p (.tup vs)) E) (wxOf ⟨H, F, O1, tbs⟩ fun ex e => back [t0, .va (.tuple ds)] e (fun ts' => match ts' with | x :: _ => ET ex (x :: ds.map fun _ => none) | [] => False)) := by
      refine (takes_of (X := BX P w K mg base N qual st f cdv A outer s2 (upd H p (.tup vs)) E) (E := E) rfl rfl rfl rfl).imp fun cls d σ H' ⟨F', O', env, ex, b', o', xa, q⟩ => ?_
      obtain ⟨O3, x, b3, s3, tl, q⟩ := fin (Ob := []) (v := .non) (t := .va .none) (by rw [List.append_nil]; exact b') o' (.va .non) q
      rw [List.append_nil] at b3
      exact hE ex _ cls d H' F' O3 b3 s3 xa q
    have hgd : (BX P w K mg base N qual st f cdv A outer s2 (upd H p (.tup vs)) E).A.guards = some [] := hg
    have body := hbody cdv A outer s2 (upd H p (.tup vs)) E ⟨H, F, O1, tbs⟩ [t0, .va (.tuple ds)] _ _ hr' hgd (passes_of (X := BX P w K mg base N qual st f cdv A outer s2 (upd H p (.tup vs)) E) rfl) tk hsp
    have o0 : OwE (upd F p (.tup vs)) (upd H p (.tup vs)) O1 (L2.start N [v0, V.ref p]) (startE N [t0, .va (.tuple ds)]) := by
      unfold L2.start startE
      exact sv2.start (N := N) _
    refine ⟨tSs ⟨H, F, O1, tbs⟩ (BX P w K mg base N qual st f cdv A outer s2 (upd H p (.tup vs)) E) (defBody st), pss_S, startE N [t0, .va (.tuple ds)], upd F p (.tup vs), O1, _, b2, o0, body, ?_⟩
    exact ⟨fun σ H' ⟨F', O', e, b', o', fr, q⟩ => by
      obtain ⟨O3, x, b3, s3, tl, q⟩ := fin (Ob := []) (v := .non) (t := .va .none) (by rw [List.append_nil]; exact b') o' (.va .non) q
      exact ⟨F', O3, [], .va .none, _, b3, s3, .va .non, q⟩, fun v H' ⟨F', Oa, Ob, σ, t, e, b', o', w', fr, q⟩ => by
      obtain ⟨O3, x, b3, s3, tl, q⟩ := fin b' o' w' q
      exact ⟨F', O3, Ob, t, _, b3, s3, w', q⟩, fun σ H' ⟨F', O', e, b', o', fr, q⟩ => q.elim, fun σ H' ⟨F', O', e, b', o', fr, q⟩ => q.elim⟩
structure MfS (P : Program) (w : World) (K : PySem.W.Frag) (mg : Str → Option Value) (base : Heap) (Tq : List (Addr × Str)) (k : Nat) (C : Addr) (m : Str) (sp : Spc) : Prop where
  ex : ∃ f, FnS P w K mg base Tq k f (spStar sp) ∧ Cls K C ∧ Meth K C m f ∧ (PySem.W.specialIn K (.ref f) "__get__" = some (some (.builtin "function.__get__")) ∧ PySem.W.takesIn K (.ref f) = some false ∧ PySem.W.copiedNames.contains m = false ∧ PySem.W.fnIn K f = true)
theorem MfS.mono {P : Program} {w : World} {K : PySem.W.Frag} {mg : Str → Option Value} {base : Heap} {Tq : List (Addr × Str)} {j k : Nat} {C : Addr} {m : Str} {sp : Spc} (G : MfS P w K mg base Tq j C m sp) (h : j ≤ k) : MfS P w K mg base Tq k C m sp :=
  let ⟨f, g, r⟩ := G.ex; ⟨f, g.mono h, r⟩
section
variable {Tq : List (Addr × Str)} {Z : Zb Tq} {X : Cx} {e a b c o value : Expr} {es : List Expr} {env : Env} {pos pos' apos p : Pos} {P : R → Env → Prop} {m : Str} {k : Nat} {C : Addr} {sp : Spc}
theorem call_gSc {k : Nat} {f : Addr} {sp : Spc} {ET : Ex → Env → Prop} {as : List A} {vs : List V} {us : List Value} {pins : List (Addr × Obj)} {s : Shared} {σ : L2.St} {H F : Hp} {O : List Addr}
    (G : FnS X.prog X.w X.K X.mg X.base Tq k f sp) (hr : Room k X.A) (hg : X.A.guards = some []) (tk : Takes X (wxOf Z ET)) (I : Inv X pins σ H s) (b : Bas Z F H O) (o : OwE F H O σ env)
    (st : StAs F vs as) (r : Vals vs us) (h : callD sp as env (fun t e => P (.t t) e) ET) : codeAny (model X.prog X.w) X.A (.call (.ref f) ⟨us, []⟩) (fun r s' => match r with | .ok (.ret v) => EP X pins σ (Post Z σ H F O P) v s' | .ok _ => False | .error e => X.xe e s') s := by
  obtain ⟨ts, e2, Oc, Or, pm, sv, o2, h⟩ := deref_ok st o h
  have bc := (b.perm pm).left.entry
  have ex : ∀ c ∈ Or, Held H c := o2.held
  refine (codeAny_mono (G.run X.A X.stack s H us vs F Oc ts _ _ (fun cls d H' => ∃ e ts' F' O', Bas ⟨H, F, Oc, (b.perm pm).left.tabs⟩ F' H' O' ∧ StVO F' H' O' vs ts' ∧ ExAt F' e cls d ∧ putb as ts' e2 fun e3 => ET e e3) (b.perm pm).left.tabs hr hg I.env0 r bc sv h
    fun e ts' cls d H' F' O' b' s' x' q => ⟨e, ts', F', O', b', s', x', q⟩) fun rs s' hq => ?_)
  have back : ∀ {F' H' : Hp} {O1 O2 : List Addr} {ts' : List (Option T)} {kk : Env → Prop}, Bas ⟨H, F, Oc, (b.perm pm).left.tabs⟩ F' H' (O1 ++ O2) → StVO F' H' O1 vs ts' → putb as ts' e2 kk →
      ∃ e3 O3, OwE F' H' O3 σ e3 ∧ Bas Z F' H' (O3 ++ O2) ∧ Frm Tq H F O H' F' (O3 ++ O2) ∧ kk e3 := fun {F' H' O1 O2 ts' kk} b' s' q => by
    have fr := b'.abs
    have b3 := Bas.frame fr (b.perm pm) b' ex
    have keep := fr.rest (R := Or) (pm.nodup b.nd) ex
    obtain ⟨e3, O3, Od, o3, p3, q3⟩ := putb_ok st s' (o2.stay fr.fz keep) q
    have p4 : ((O1 ++ O2) ++ Or).Perm ((O3 ++ O2) ++ Od) := by
      have e1 : ((O1 ++ O2) ++ Or).Perm ((O1 ++ Or) ++ O2) := by
        rw [List.append_assoc, List.append_assoc]
        exact List.perm_append_comm.append_left O1
      have e2 : ((O3 ++ O2) ++ Od).Perm ((O3 ++ Od) ++ O2) := by
        rw [List.append_assoc, List.append_assoc]
        exact List.perm_append_comm.append_left O3
      exact e1.trans ((p3.append_right O2).trans e2.symm)
    exact ⟨e3, O3, o3, (b3.perm p4).left, (fr.frame (R := Or)).perm (fun c => pm.symm.mem_iff) (fun c hc => p4.mem_iff.mpr (List.mem_append_left _ hc)), q3⟩
  cases rs with
  | error e =>
    refine tk e s' (XE.of_call I (fun cls d H' hE => ?_) hq)
    obtain ⟨x, ts', F', O', b', sv', xa, q⟩ := hE
    obtain ⟨e3, O3, o3, b3, fr3, q3⟩ := back (O2 := []) (by rw [List.append_nil]; exact b') sv' q
    rw [List.append_nil] at b3 fr3
    exact ⟨F', O3, e3, x, b3, o3, xa, q3⟩
  | ok fl =>
    cases fl with
    | ret u =>
      refine EP.imp (fun v H' q => ?_) u s' (I.after hq)
      obtain ⟨F', O1, O2, t, ts', b', sv', w', q⟩ := q
      obtain ⟨e3, O3, o3, b3, fr3, q3⟩ := back b' sv' q
      exact ⟨F', O3 ++ O2, .t t, e3, b3, ⟨O3, O2, rfl, o3, w'⟩, fr3, q3⟩
    | next => exact hq.elim
    | brk => exact hq.elim
    | cont => exact hq.elim

theorem call_gS {k : Nat} {f : Addr} {sp : Spc} {ET : Ex → Env → Prop} {as : List A} {vs : List V} {us : List Value} {pins : List (Addr × Obj)} {s : Shared} {σ : L2.St} {H F : Hp} {O : List Addr}
    (G : FnS X.prog X.w X.K X.mg X.base Tq k f sp) (hr : Room k X.A) (hg : X.A.guards = some []) (tk : Takes X (wxOf Z ET)) (I : Inv X pins σ H s) (b : Bas Z F H O) (o : OwE F H O σ env)
    (st : StAs F vs as) (r : Vals vs us) (h : callD sp as env (fun t e => P (.t t) e) ET) : wpAny (model X.prog X.w) X.A (call (.ref f) us []) (EP X pins σ (Post Z σ H F O P)) X.xe s := wpAny_call (call_gSc G hr hg tk I b o st r h)
theorem w_methSX {ET : Ex → Env → Prop} {pl : Sem Bool} (G : MfS X.prog X.w X.K X.mg X.base Tq k C m sp) (hr : Room k X.A) (hgd : X.A.guards = some []) (tk : Takes X (wxOf Z ET))
    (h : WE Z X o env fun r e1 => methR (e :: es) Z X C m r e1 fun as e2 => callD (spStar sp) as e2 (fun t e => P (.t t) e) ET)
    (hst : starEach (e :: es) X.env = (false, eval e X.env) :: starEach es X.env := by rfl) (hpl : (backTo pos (starEach es X.env)).any (·.1) = false := by rfl)
    (ht : eval (.Call (.Attribute o m apos) (e :: es) [] pos) X.env = (do
      let ov ← eval o X.env
      standAt apos.atName
      let (f, first) ← holding [ov] (getMethod ov m pl)
      callWith pos f first (backTo pos (starEach (e :: es) X.env)) (backToKw pos (keywordEach [] X.env))) := by rfl) :
    WE Z X (.Call (.Attribute o m apos) (e :: es) [] pos) env P := fun pins s σ H F O I b o0 => by
  obtain ⟨f, g, c, hm, _⟩ := G.ex
  refine PySem.W.methodCall_KW (pl := pl) (thn (h pins s σ H F O I b o0) fun u s1 ⟨v, H1, I1, rx, F1, O1, r, e1, b1, st, fr, q⟩ => ?_) ht
  obtain ⟨a, i, p, dx, vs, rfl, rfl, ha, hl, o1, q⟩ := methR_ok st q
  obtain rfl : u = Value.ref a := rx
  refine getmeth_ok I1 ha c hm hl ?_
  refine PySem.W.callWith_K (first := [.ref a]) (h₀ := X.base) I1.ok.mod.kin hm.kp (thn ((pa_As (Z := Z)).run pos pins s1 σ H1 (PostAs Z σ H1 F1 O1 _) I1 ⟨e1, F1, O1, _, b1, o1, q, fun _ _ q => q⟩) fun us s2 ⟨vs2, H2, I2, r2, F2, O2, as, e2, b2, o2, st2, fr2, q2⟩ => ⟨I2.kIn, ?_⟩) hst hpl
  exact thn (call_gS (us := .ref a :: us) (vs := .ref a :: vs2) (as := .bor a i p :: as) g hr hgd tk I2 b2 o2 (.cons rfl st2) (.cons rfl r2) q2) (EP.imp fun v H' q => q.from (fr.trans fr2))
theorem w_methSX0 {ET : Ex → Env → Prop} {pl : Sem Bool} (G : MfS X.prog X.w X.K X.mg X.base Tq k C m sp) (hr : Room k X.A) (hgd : X.A.guards = some []) (tk : Takes X (wxOf Z ET))
    (h : WE Z X o env fun r e1 => methR [] Z X C m r e1 fun as e2 => callD (spStar sp) as e2 (fun t e => P (.t t) e) ET)
    (ht : eval (.Call (.Attribute o m apos) [] [] pos) X.env = (do
      let ov ← eval o X.env
      standAt apos.atName
      let (f, first) ← holding [ov] (getMethod ov m pl)
      callWith pos f first (backTo pos (starEach [] X.env)) (backToKw pos (keywordEach [] X.env))) := by rfl) :
    WE Z X (.Call (.Attribute o m apos) [] [] pos) env P := fun pins s σ H F O I b o0 => by
  obtain ⟨f, g, c, hm, _⟩ := G.ex
  refine PySem.W.methodCall_KW (pl := pl) (thn (h pins s σ H F O I b o0) fun u s1 ⟨v, H1, I1, rx, F1, O1, r, e1, b1, st, fr, q⟩ => ?_) ht
  obtain ⟨a, i, p, dx, vs, rfl, rfl, ha, hl, o1, q⟩ := methR_ok st q
  obtain rfl : u = Value.ref a := rx
  refine getmeth_ok I1 ha c hm hl ?_
  replace q : callD (spStar sp) [.bor a i p] e1 (fun t e => P (R.t t) e) ET := q
  exact PySem.W.callWith_K0 (first := [.ref a]) I1.kIn hm.kp (thn (call_gS (us := [.ref a]) (vs := [.ref a]) (as := [.bor a i p]) g hr hgd tk I1 b1 o1 (.cons rfl .nil) (.cons rfl .nil) q) (EP.imp fun v H' q => q.from fr))

theorem w_methS {pl : Sem Bool} (G : MfS X.prog X.w X.K X.mg X.base Tq k C m sp) (hr : Room k X.A) (hgd : X.A.guards = some [])
    (h : WE Z X o env fun r e1 => methR (e :: es) Z X C m r e1 fun as e2 => callD (spStar sp) as e2 (fun t e => P (.t t) e) fun _ _ => False)
    (hst : starEach (e :: es) X.env = (false, eval e X.env) :: starEach es X.env := by rfl) (hpl : (backTo pos (starEach es X.env)).any (·.1) = false := by rfl)
    (ht : eval (.Call (.Attribute o m apos) (e :: es) [] pos) X.env = (do
      let ov ← eval o X.env
      standAt apos.atName
      let (f, first) ← holding [ov] (getMethod ov m pl)
      callWith pos f first (backTo pos (starEach (e :: es) X.env)) (backToKw pos (keywordEach [] X.env))) := by rfl) :
    WE Z X (.Call (.Attribute o m apos) (e :: es) [] pos) env P := w_methSX (pl := pl) G hr hgd takes_no h hst hpl ht
theorem w_methS0 {pl : Sem Bool} (G : MfS X.prog X.w X.K X.mg X.base Tq k C m sp) (hr : Room k X.A) (hgd : X.A.guards = some [])
    (h : WE Z X o env fun r e1 => methR [] Z X C m r e1 fun as e2 => callD (spStar sp) as e2 (fun t e => P (.t t) e) fun _ _ => False)
    (ht : eval (.Call (.Attribute o m apos) [] [] pos) X.env = (do
      let ov ← eval o X.env
      standAt apos.atName
      let (f, first) ← holding [ov] (getMethod ov m pl)
      callWith pos f first (backTo pos (starEach [] X.env)) (backToKw pos (keywordEach [] X.env))) := by rfl) :
    WE Z X (.Call (.Attribute o m apos) [] [] pos) env P := w_methSX0 (pl := pl) G hr hgd takes_no h ht
/-- o, then one thing of which all items are handed in -/
def methSR {Tq : List (Addr × Str)} (e : Expr) (Z : Zb Tq) (X : Cx) (C : Addr) (m : Str) (r : R) (e1 : Env) (k : A → List D → Env → Prop) : Prop := match r with
  | .bor a i p => match getP i p e1 with
    | some (.ins a' C' fs) => (a' = a ∧ C' = C ∧ fs.lookup m = none) ∧ WA Z X e e1 fun a2 e2 => View a2 e2 fun d => match d with
      | .tuple ds => k (.bor a i p) ds e2
      | .list ds => k (.bor a i p) ds e2
      | _ => False
    | _ => False
  | _ => False
theorem methSR_ok {σ : L2.St} {F H : Hp} {O : List Addr} {v : V} {r : R} {e1 : Env} {kk : A → List D → Env → Prop} (st : StR F H O σ e1 v r) (h : methSR e Z X C m r e1 kk) :
    ∃ a i p dx vs, v = .ref a ∧ r = .bor a i p ∧ H a = some (.ins C dx vs) ∧ vs.lookup m = none ∧ OwE F H O σ e1 ∧ WA Z X e e1 fun a2 e2 => View a2 e2 fun d => match d with
      | .tuple ds => kk (.bor a i p) ds e2
      | .list ds => kk (.bor a i p) ds e2
      | _ => False := by
  cases r with
  | t t => exact h.elim
  | bor a i p =>
    obtain ⟨o1, rfl⟩ := st
    unfold methSR at h
    simp only at h
    split at h
    · rename_i a' C' fs hg
      obtain ⟨⟨rfl, rfl, hm⟩, h⟩ := h
      obtain ⟨w, ⟨Oj, O', h1, h2, h3⟩, _⟩ := o1.focus hg
      cases h1 with
      | ins ha hd rr =>
        refine ⟨_, i, p, _, _, rfl, rfl, ha, ?_, o1, h⟩
        rcases rr.look (f := m) with ⟨_, e2⟩ | ⟨t, w, Ot, e2, _, _⟩
        · exact e2
        · rw [hm] at e2; cases e2
    · exact h.elim
/-- the thing itself, and data -/
def callS1 (sp : Spc) (a : A) (ds : List D) (e : Env) (PT : T → Env → Prop) (ET : Ex → Env → Prop) : Prop := match a with
  | .bor a i p => ∃ t, getP i p e = some t ∧ t.addr = some a ∧ ds.length ≤ sizeLine ∧ sp [t, .va (.tuple ds)]
      (fun r ts' => match ts' with | some u :: _ => getP i p (setP i p (.hole a) e) = some (.hole a) ∧ u.addr = some a ∧ PT r (setP i p u (setP i p (.hole a) e)) | _ => False)
      (fun ex ts' => match ts' with | some u :: _ => getP i p (setP i p (.hole a) e) = some (.hole a) ∧ u.addr = some a ∧ ET ex (setP i p u (setP i p (.hole a) e)) | _ => False)
  | _ => False
theorem deref_datas : ∀ {ds : List D} {env : Env} {k : List T → Env → Prop}, k (ds.map T.va) env → deref (ds.map A.va) env k
  | [], _, _, h => h
  | d :: ds, env, k, h => deref_datas (ds := ds) (k := fun ts e => k (.va d :: ts) e) h
theorem putb_datas : ∀ {ds : List D} {env : Env} {k : Env → Prop}, k env → putb (ds.map A.va) (ds.map fun _ => none) env k
  | [], _, _, h => h
  | _ :: ds, _, _, h => putb_datas (ds := ds) h
/-- promises only hand on what they are asked for -/
def Mono (sp : Spc) : Prop := ∀ ts QT QT' ET ET', (∀ t ts', QT t ts' → QT' t ts') → (∀ ex ts', ET ex ts' → ET' ex ts') → sp ts QT ET → sp ts QT' ET'
theorem callS1_ok {a : A} {ds : List D} {e : Env} {PT : T → Env → Prop} {ET : Ex → Env → Prop} (m : Mono sp) (h : callS1 sp a ds e PT ET) : callD (spStar sp) (a :: ds.map A.va) e PT ET := by
  cases a with
  | va d => exact h.elim
  | bor a i p =>
    obtain ⟨t, hg, ha, hz, h⟩ := h
    show deref (.bor a i p :: ds.map A.va) e _
    unfold deref
    rw [hg]
    refine ⟨ha, deref_datas ⟨t, ds, rfl, hz, m _ _ _ _ _ (fun r ts' q => ?_) (fun ex ts' q => ?_) h⟩⟩
    · cases ts' with
      | nil => exact q.elim
      | cons u us =>
        cases u with
        | none => exact q.elim
        | some u => exact ⟨q.1, q.2.1, putb_datas q.2.2⟩
    · cases ts' with
      | nil => exact q.elim
      | cons u us =>
        cases u with
        | none => exact q.elim
        | some u => exact ⟨q.1, q.2.1, putb_datas q.2.2⟩
/-- o.m( *e) -/
theorem w_methS1X {ET : Ex → Env → Prop} {sp_ : Pos} (G : MfS X.prog X.w X.K X.mg X.base Tq k C m sp) (hr : Room k X.A) (hgd : X.A.guards = some []) (tk : Takes X (wxOf Z ET))
    (mo : Mono sp) (h : WE Z X o env fun r e1 => methSR e Z X C m r e1 fun a0 ds e2 => callS1 sp a0 ds e2 (fun t e => P (.t t) e) ET)
    (hbase : attributeBase o m X.env (eval o X.env) = eval o X.env := by rfl) :
    WE Z X (.Call (.Attribute o m apos) [.Starred e sp_] [] pos) env P := fun pins s σ H F O I b o0 => by
  obtain ⟨g, gS, c, hm, h1, h2, h3, h4⟩ := G.ex
  have bm : BMeth X.K C m g := ⟨hm, h1, h2, h3, h4⟩
  refine starcall_of hbase (thn (h pins s σ H F O I b o0) fun u s1 ⟨v, H1, I1, rx, F1, O1, r, e1, b1, st, fr, q⟩ => ?_)
  obtain ⟨a, i, p, dx, vs, rfl, rfl, ha, hl, o1, q⟩ := methSR_ok st q
  obtain rfl : u = Value.ref a := rx
  refine getbound_ok I1 ha c bm hl fun q1 s2 hq1 I2 => ?_
  have Fq : F1 q1 = none := b1.sub.free hq1
  have sm : Same H1 (upd H1 q1 (.met g a)) := same_new hq1
  have nq : q1 ∉ O1 := fun z => o1.there _ z hq1
  have keep : ∀ c ∈ O1, upd H1 q1 (.met g a) c = H1 c := fun c hc => upd_ne fun z => nq (z ▸ hc)
  have fr2 : Frm Tq H1 F1 O1 (upd H1 q1 (.met g a)) F1 O1 := ⟨Same.refl _, fun c y e _ _ => sm c y e, fun c e => by
    by_cases z : c = q1
    · subst z; rw [upd_same]; exact fun z => nomatch z
    · rw [upd_ne z]; exact e, fun c e => .inl e, fun c hc => .inl hc, tab_same sm⟩
  have b2 : Bas Z F1 (upd H1 q1 (.met g a)) O1 := ⟨fun c y e => sm c y (b1.sub c y e), b1.nd, b1.dis, b1.abs.trans fr2⟩
  refine PySem.W.ks_call (P := PySem.W.MethP X.K q1 g (.ref a)) rfl (PySem.W.keeps_M h4) (PySem.W.ks_lone ?_)
  refine thn (q.run I2 b2 (o1.stay (Same.refl _) keep)) fun v s3 ⟨y, H2, I3, ry, F2, O2, a2, e2, b3, o2, st2, fr3, q2⟩ => ?_
  obtain ⟨d, vw, q2⟩ := View.vw q2 o2 st2
  have hq2 : H2 q1 = some (.met g a) := fr3.out q1 _ upd_same (fun _ z => nomatch z) nq
  have fin : ∀ {t : Addr} {xs : List V} {ds : List D}, y = .ref t → (SqT X.K H2 t xs ∨ SqL X.K H2 t xs) → RpA F2 xs ds → callD (spStar sp) (.bor a i p :: ds.map A.va) e2 (fun t e => P (.t t) e) ET →
      PySem.W.StarOf (model X.prog X.w) X.A X.xe v (fun vs s₂ => PySem.W.MethP X.K q1 g (.ref a) s₂.heap ∧ wpAny (model X.prog X.w) X.A (call (.ref q1) ([] ++ vs) []) (EP X pins σ (Post Z σ H F O P)) X.xe s₂) s3 := fun {t xs ds} ey ht rr q3 => by
    subst ey
    obtain rfl : v = Value.ref t := ry
    refine StX.star_any I3 ht fun us s4 I4 rv => ⟨met_P I4 hq2, ?_⟩
    refine wpAny_call (PySem.W.method_call (met_P I4 hq2).1 ?_)
    have z := call_gSc (us := .ref a :: us) (vs := .ref a :: xs) (as := .bor a i p :: ds.map A.va) gS hr hgd tk I4 b3 o2 (.cons rfl rr.stas) (.cons rfl rv) q3
    refine codeAny_mono z fun rs s5 hq => ?_
    cases rs with
    | error e => exact hq
    | ok fl =>
      cases fl with
      | ret u => exact EP.imp (fun v H' q => q.from ((fr.trans fr2).trans fr3)) u s5 hq
      | next => exact hq
      | brk => exact hq
      | cont => exact hq
  cases d with
  | tuple ds =>
    obtain ⟨t, xs, rfl, h3, r3⟩ := vw.tup
    exact fin rfl (.inl (SqT.of (b3.sub _ _ h3))) r3 (callS1_ok mo q2)
  | list ds =>
    obtain ⟨t, xs, rfl, h3, r3⟩ := vw.lst' b3.sub
    exact fin rfl (.inr (SqL.of h3)) r3 (callS1_ok mo q2)
  | _ => exact q2.elim
theorem w_methS1 {sp_ : Pos} (G : MfS X.prog X.w X.K X.mg X.base Tq k C m sp) (hr : Room k X.A) (hgd : X.A.guards = some []) (mo : Mono sp)
    (h : WE Z X o env fun r e1 => methSR e Z X C m r e1 fun a0 ds e2 => callS1 sp a0 ds e2 (fun t e => P (.t t) e) fun _ _ => False)
    (hbase : attributeBase o m X.env (eval o X.env) = eval o X.env := by rfl) :
    WE Z X (.Call (.Attribute o m apos) [.Starred e sp_] [] pos) env P := w_methS1X G hr hgd takes_no mo h hbase
end
end QL

/-! QLa: a lambda without parameters, handed to a def that calls it. -/
namespace QL
open PySem PySem.Spec PyProof.Rows L2

theorem among_mono {p' : Pos} {cv : Value} (l m : List Value) (hc : codeAmong p' l = some cv) : codeAmong p' (l ++ m) = some cv := by
  fun_induction codeAmong p' l with
  | case1 line t col u c rest hq => simp only [List.cons_append, codeAmong]; rw [if_pos hq]; exact hc
  | case2 line t col u c rest hq ih => simp only [List.cons_append, codeAmong]; rw [if_neg hq]; exact ih hc
  | case3 l h => cases hc
theorem among_new {pos : Pos} {c : Value} (l : List Value) (h : TriplesOk l) (hn : codeAmong pos l = none) : codeAmong pos (l ++ [rawInt pos.line, rawInt pos.col, c]) = some c := by
  fun_induction TriplesOk l with
  | case1 => simp [rawInt, codeAmong]
  | case2 a t b u x rest ih =>
    simp only [List.cons_append, codeAmong] at hn ⊢
    split at hn
    · cases hn
    · rename_i q
      rw [if_neg q]
      exact ih h hn
  | case3 l h1 h2 => exact h.elim
section
variable {X : Cx} {pins : List (Addr × Obj)} {σ : L2.St} {H : Hp} {s : Shared}
/-- the lambda is made: its code object is new, or found in the table -/
theorem lam_make3 {Tq : List (Addr × Str)} {c P : Addr} {params : Arguments} {body : Expr} {scope : Scope} {pos : Pos} {E : Value → Shared → Prop} {Q : Value → Shared → Prop} (I : Inv X pins σ H s) (TB : LamX.TabB X.base X.mg c P) (hcode : X.env.code = .ref c)
    (hT : LamX.TabS H P (X.env.qual ++ "<lambda>")) (hu : ∀ p ∈ Tq, p.1 = P → p.2 = X.env.qual ++ "<lambda>") (hdef : defaultsOf params X.env = ([], [])) (hfree : ∀ y ∈ scope.names, y.2 = .free → ∃ c, X.env.cells.lookup y.1 = some c)
    (h : ∀ (f c' : Addr) (pm ctv : Value) (H1 : Hp) (s' : Shared), Inv X pins σ H1 s' → (∀ b, b ≠ P → H b ≠ none → H1 b = H b) → (∀ b, H b ≠ none → H1 b ≠ none) → TabM Tq H H1 → Told H1 P c' →
      s'.heap.get? f = some (PySem.W.kla_obj "<lambda>" (X.env.qual ++ "<lambda>") params body scope (cloFrom X.env.cells scope.names []) pm c' ctv) → H1 f = none → f ∉ frs X.stack → Q (.ref f) s') :
    wpAny (model X.prog X.w) X.A (eval (.Lambda params body scope pos) X.env) Q E s := by
  obtain ⟨ps, hP, ht, ha⟩ := hT
  refine PySem.W.kla_eval hdef ?_
  have bP : s.heap.BuiltinsAt X.mg P := TB.bm.keeps I.bk
  have hP' : s.heap.get? P = some { cls := .none, data := .fields ps } := I.hok P _ hP
  have nofr : ∀ f, s.heap.objs.size ≤ f → f ∉ frs X.stack := fun f hf z => by
    rcases List.mem_cons.mp (I.stkSub _ z) with e | e
    · have h1 := I.lt
      rw [← e] at h1
      exact Nat.lt_irrefl _ (Nat.lt_of_lt_of_le h1 hf)
    · exact I.nofs hf e
  cases hc : codeAmong pos ps.toList with
  | none =>
    refine PySem.W.kla_makeFunction (mg := X.mg) (c := c) (P := P) (ps := ps) (closure_ok hfree) I.ok.glob (I.mod.glob.keeps I.bk) hcode (TB.code.keeps I.bk) hP' ht hc TB.gP bP fun c' ctv h' tk hx hge hlt hrec htb => ?_
    obtain ⟨c2, oc, vs, t, e2, hoc, hd, hv⟩ := hrec
    cases e2
    have hsz : s.heap.objs.size ≤ h'.objs.size := Nat.le_trans hge (Nat.le_of_lt hlt)
    have nC : H c' = none := I.hok.fresh hge
    have I1 := LamX.inv_table (t' := tk) (more := #[rawInt pos.line, rawInt pos.col, .ref c']) (h' := h'.push (PySem.W.kla_obj "<lambda>" (X.env.qual ++ "<lambda>") params body scope (cloFrom X.env.cells scope.names []) ((X.mg "__name__").getD .none) c' ctv)) I hP
      (fun b o hb e => Heap.get?_push_of_some _ (hx b o hb e)) (Heap.get?_push_of_some _ htb) hge ⟨oc, vs, t, Heap.get?_push_of_some _ hoc, hd, hv⟩
    have hE : LamX.ExtN H (upd (upd H P (.tbl (ps ++ #[rawInt pos.line, rawInt pos.col, .ref c']))) c' (LamX.CodeO c' (X.env.qual ++ "<lambda>"))) := fun b o e n => by
      rw [upd_ne (ne_of_none e nC), upd_ne (fun z => n ps (Option.some.inj (e.symm.trans (by rw [z]; exact hP))))]
      exact e
    have eL : (ps ++ #[rawInt pos.line, rawInt pos.col, .ref c']).toList = ps.toList ++ [rawInt pos.line, rawInt pos.col, .ref c'] := by simp
    have hN : upd (upd H P (.tbl (ps ++ #[rawInt pos.line, rawInt pos.col, .ref c']))) c' (LamX.CodeO c' (X.env.qual ++ "<lambda>")) P = some (.tbl (ps ++ #[rawInt pos.line, rawInt pos.col, .ref c'])) := by rw [upd_ne (ne_of_none hP nC), upd_same]
    refine h h'.objs.size c' ((X.mg "__name__").getD .none) ctv _ _ I1 (fun b n hb => by rw [upd_ne (fun z => hb (by rw [z]; exact nC)), upd_ne n]) (fun b hb => ?_) (fun p hp t => ?_) ⟨_, pos, hN, by rw [eL]; exact among_new _ ht hc⟩ (Heap.get?_push_size _ rfl) ?_ (nofr _ hsz)
    · by_cases z : b = c'
      · subst z; rw [upd_same]; exact fun z => nomatch z
      · rw [upd_ne z]
        by_cases z2 : b = P
        · subst z2; rw [upd_same]; exact fun z => nomatch z
        · rw [upd_ne z2]; exact hb
    · by_cases hb : p.1 = P
      · rw [hu p hp hb, hb]
        refine ⟨⟨_, hN, by rw [eL]; exact PySem.TriplesOk_snoc _ _ _ _ ht, fun p' cv hcv => ?_⟩, fun c0 ⟨ps', pos', g1, g2⟩ => ?_⟩
        · rw [eL] at hcv
          rcases LamX.among_app _ ht hcv with z | z
          · obtain ⟨c0, e1, e2⟩ := ha p' cv z
            exact ⟨c0, e1, hE _ _ e2 LamX.codeO_ne⟩
          · exact ⟨c', z, upd_same⟩
        · rw [hP] at g1
          cases g1
          exact ⟨_, pos', hN, by rw [eL]; exact among_mono _ _ g2⟩
      · obtain ⟨ps', a1, a2, a3⟩ := t
        have k : upd (upd H P (.tbl (ps ++ #[rawInt pos.line, rawInt pos.col, .ref c']))) c' (LamX.CodeO c' (X.env.qual ++ "<lambda>")) p.1 = H p.1 := by rw [upd_ne (ne_of_none a1 nC), upd_ne hb]
        refine ⟨⟨ps', k.trans a1, a2, fun p' cv hcv => ?_⟩, fun c0 ⟨ps', pos', g1, g2⟩ => ⟨ps', pos', k.trans g1, g2⟩⟩
        obtain ⟨c0, e1, e2⟩ := a3 p' cv hcv
        exact ⟨c0, e1, hE _ _ e2 LamX.codeO_ne⟩
    · have n1 : h'.objs.size ≠ c' := Nat.ne_of_gt hlt
      have n2 : h'.objs.size ≠ P := Nat.ne_of_gt (Nat.lt_of_lt_of_le (Heap.lt_size hP') hsz)
      rw [upd_ne n1, upd_ne n2]
      exact I.hok.fresh hsz
  | some cv =>
    obtain ⟨c', e, hco⟩ := ha pos cv hc
    subst e
    refine PySem.W.kla_makeFunctionHit (mg := X.mg) (c := c) (P := P) (ps := ps) (closure_ok hfree) I.ok.glob (I.mod.glob.keeps I.bk) hcode (TB.code.keeps I.bk) hP' ht hc bP fun ctv h' tk hx hsz => ?_
    have I1 : Inv X pins σ H { s with heap := h'.push (PySem.W.kla_obj "<lambda>" (X.env.qual ++ "<lambda>") params body scope (cloFrom X.env.cells scope.names []) ((X.mg "__name__").getD .none) c' ctv), toks := tk } := I.kept fun b o e => Heap.get?_push_of_some _ (hx b o e)
    exact h h'.objs.size c' ((X.mg "__name__").getD .none) ctv H _ I1 (fun _ _ _ => rfl) (fun _ z => z) (TabM.refl _) ⟨ps, pos, hP, hc⟩ (Heap.get?_push_size _ rfl) (I.hok.fresh hsz) (nofr _ hsz)
end

/-! ### the slots after an error -/
def DomT (x y : Option T) : Prop := match y with
  | none => True
  | some (.va d) => x = some (.va d)
  | some t' => match t'.addr with
    | some a => ∃ t, x = some t ∧ t.addr = some a
    | none => False
/-- what e' says stands in the same values as what e said -/
def Dom : Env → Env → Prop
  | [], [] => True
  | x :: e, y :: e' => DomT x y ∧ Dom e e'
  | _, _ => False
theorem OwE.dom {F H F' H' : Hp} (s : Same F F') : ∀ {e e' : Env} {σ σ' : L2.St} {O O' : List Addr}, OwE F H O σ e → OwE F' H' O' σ' e' → Dom e e' → OwE F' H' O' σ e'
  | [], [], _, _, _, _, .nil, .nil, _ => .nil
  | [], _ :: _, _, _, _, _, _, _, h => h.elim
  | _ :: _, [], _, _, _, _, _, _, h => h.elim
  | x :: e, y :: e', _, _, _, _, o, o', h => by
    cases o' with
    | un o' =>
      cases o with
      | un o => exact .un (OwE.dom s o o' h.2)
      | so w o => exact .un (OwE.dom s o o' h.2)
    | @so O1 O2 σ2 _ v t' w' o' =>
      have h1 := h.1
      cases o with
      | un o =>
        exfalso
        cases t' with
        | va d => have h1 : (none : Option T) = some (.va d) := h1; cases h1
        | _ =>
          simp only [DomT] at h1
          split at h1
          · obtain ⟨_, z, _⟩ := h1; cases z
          · exact h1
      | @so P1 P2 τ _ u t w o =>
        refine .so ?_ (OwE.dom s o o' h.2)
        have addr : ∀ a, t'.addr = some a → t.addr = some a → Ow F' H' O1 u t' := fun a e1 e2 => by
          have := w'.ref e1
          subst this
          have := w.ref e2
          subst this
          exact w'
        cases ht : t' with
        | va d =>
          subst ht
          have h1 : some t = some (.va d) := h1
          cases h1
          cases w with
          | va r =>
            cases w' with
            | va r' => exact .va (r.mono s)
        | _ =>
          rw [ht] at h1
          have h2 : ∃ a, t'.addr = some a ∧ t.addr = some a := by
            rw [ht]
            simp only [DomT] at h1
            split at h1
            · rename_i a ea
              obtain ⟨t0, e0, e1⟩ := h1
              cases e0
              exact ⟨a, ea, e1⟩
            · exact h1.elim
          obtain ⟨a, e1, e2⟩ := h2
          rw [← ht]
          exact addr a e1 e2
/-! ### a lambda as a thing: it holds all that its maker's names hold -/
def lamT (σ : L2.St) (f : Addr) (e : Env) : T := .ob none fun F H O v => v = .ref f ∧ OwE F H O σ e
theorem lamT_ow {F H : Hp} {O : List Addr} {σ : L2.St} {f : Addr} {e : Env} (o : OwE F H O σ e) : Ow F H O (.ref f) (lamT σ f e) :=
  .ob ⟨rfl, o⟩ ⟨fun F H F' H' O v ⟨h1, h2⟩ s k => ⟨h1, h2.stay s k⟩, fun F H O v ⟨_, h2⟩ b hb => h2.held b hb, fun F H O v b _ e => nomatch e⟩
/-- what a lambda promises: of its maker's names as they are -/
abbrev LamB := Env → (T → Env → Prop) → (Ex → Env → Prop) → Prop
/-- the rule that a()  gets, in the def that holds the lambda in slot i -/
def Act {Tq : List (Addr × Str)} (Z : Zb Tq) (Xc : Cx) (a : Str) (i : Nat) (lam : Env → T) (LB : LamB) : Prop :=
  ∀ (Z' : Zb Tq) (pn : List (Addr × Obj)) (xe : Value → Shared → Prop) (p1 p2 : Pos) (env e : Env) (P : R → Env → Prop) (ET : Ex → Env → Prop), TabM Tq Z.H Z'.H → Takes (Xc.tr pn xe) (wxOf Z' ET) → env[i]? = some (some (lam e)) →
    LB e (fun t e' => P (.t t) (env.set i (some (lam e')))) (fun ex e' => ET ex (env.set i (some (lam e')))) → WE Z' (Xc.tr pn xe) (.Call (.Name a p1) [] [] p2) env P
section
variable {Tq : List (Addr × Str)} {Z : Zb Tq} {X : Cx} {pins : List (Addr × Obj)} {σ : L2.St} {H : Hp} {s : Shared}
theorem w_act {Ng : List Str} {qg : Str} {st : Stmt} {g f c' Pt : Addr} {cdg pm ctv : Value} {Eg : XK} {params : Arguments} {body : Expr} {scope : Scope} {k i : Nat} {a : Str} {LB : LamB}
    (I : Inv X pins σ H s) (L : LamX.LamS X.env.scope scope) (hf : s.heap.get? f = some (PySem.W.kla_obj "<lambda>" (X.env.qual ++ "<lambda>") params body scope (cloFrom X.env.cells scope.names []) pm c' ctv)) (hfn : H f = none) (hfr : f ∉ frs X.stack)
    (hm : (Pt, X.env.qual ++ "<lambda>") ∈ Tq) (td : Told Z.H Pt c')
    (hbind : bindArgs (PySem.W.kla_fn "<lambda>" (X.env.qual ++ "<lambda>") params body scope (cloFrom X.env.cells scope.names []) pm (.ref c') ctv) ⟨[], []⟩ = pure [])
    (hr : Room (k + 1) (BX X.prog X.w X.K X.mg X.base Ng qg st g cdg X.A X.stack s H Eg).A) (hgd : X.A.guards = some [])
    (hbody : ∀ (A : Around) (outer : List PySem.Env) (s : Shared) (H : Hp) (E : XK) (Zl : Zb Tq) (e : Env) (Pl : R → Env → Prop) (ET : Ex → Env → Prop), Room k (LamX.lamCx X A outer s H E scope f c').A → (LamX.lamCx X A outer s H E scope f c').A.guards = some [] →
      Takes (LamX.lamCx X A outer s H E scope f c') (wxOf Zl ET) → LB e (fun t e' => Pl (.t t) e') ET → WE Zl (LamX.lamCx X A outer s H E scope f c') body e Pl)
    (hD : ∀ e Q E, LB e Q E → LB e Q fun ex e' => Dom e e' ∧ E ex e') (hN : Ng[i]? = some a) (hv : Vis (defScope st) a) (hd : (a == ("__debug__" : Str)) = false := by decide) (hcd : (a == ("__classdict__" : Str)) = false := by decide) :
    Act Z (BX X.prog X.w X.K X.mg X.base Ng qg st g cdg X.A X.stack s H Eg) a i (lamT σ f) LB := by
  intro Z' pn xe p1 p2 env e P ET tm tk he hL pinsZ sZ σZ HZ F O IZ b o
  have hL := hD _ _ _ hL
  obtain ⟨w, hw, Oj, O', h1, h2, h3⟩ := o.focusI he
  cases h1 with
  | ob hφ hst =>
  obtain ⟨ew, oe⟩ := hφ
  subst ew
  have hc : HZ c' = some (LamX.CodeO c' (X.env.qual ++ "<lambda>")) := ((b.abs.tb _ hm (Z'.tb.tabs _ hm)).2 c' ((tm _ hm (Z.tb.tabs _ hm)).2 c' td)).code (b.tabs.tabs _ hm)
  have bl := (b.perm h2).left.entry
  have ex : ∀ c ∈ O', Held HZ c := fun c hc => o.held c (h2.mem_iff.mpr (List.mem_append_right _ hc))
  refine wpAny_Call_Name_kw (thn ((pe_var (pos := p1) (i := i) hN hv hd hcd).run pinsZ sZ σZ HZ (fun v H1 => v = .ref f ∧ H1 = HZ) IZ ⟨.ref f, hw, rfl, rfl⟩) fun u s1 ⟨v, H1, I1, r1, q1⟩ => ?_)
  obtain ⟨ev, eH⟩ := q1
  subst ev
  rw [eH] at I1
  obtain rfl : u = Value.ref f := r1
  have of1 : s1.heap.get? f = some (PySem.W.kla_obj "<lambda>" (X.env.qual ++ "<lambda>") params body scope (cloFrom X.env.cells scope.names []) pm c' ctv) := I1.base.keep f _ hf hfn hfr (fun z => nomatch (show f ∈ ([] : List Addr) from z))
  refine PySem.W.callWith_F0 ⟨_, _, _, _, of1⟩ ?_
  have un : Un (frs X.stack) [] H HZ s.heap s1.heap := I1.base
  obtain ⟨⟨oc, vs, t, hoc, hdc, hvc⟩, _, _⟩ := I1.hok c' _ hc
  -- what the body leaves, put back into the slot
  have back : ∀ {F' H' : Hp} {O1 O2 : List Addr} {e' : Env}, Bas ⟨HZ, F, Oj, (b.perm h2).left.tabs⟩ F' H' (O1 ++ O2) → OwE F' H' O1 σ e' →
      ∃ O3, OwE F' H' O3 σZ (env.set i (some (lamT σ f e'))) ∧ Bas Z' F' H' (O3 ++ O2) ∧ Frm Tq HZ F O H' F' (O3 ++ O2) := fun {F' H' O1 O2 e'} b' o' => by
    have fr := b'.abs
    have b3 := Bas.frame fr (b.perm h2) b' ex
    have keep := fr.rest (R := O') (h2.nodup b.nd) ex
    obtain ⟨O3, q1, q2⟩ := h3 F' H' O1 _ fr.fz keep (lamT_ow (f := f) o')
    have p4 : ((O1 ++ O2) ++ O').Perm (O3 ++ O2) := by
      have e1 : ((O1 ++ O2) ++ O').Perm ((O1 ++ O') ++ O2) := by
        rw [List.append_assoc, List.append_assoc]
        exact List.perm_append_comm.append_left O1
      exact e1.trans (q2.symm.append_right O2)
    exact ⟨O3, q1, b3.perm p4, (fr.frame (R := O')).perm (fun c => h2.symm.mem_iff) (fun c hc => p4.mem_iff.mpr hc)⟩
  have rc : codeAny (model X.prog X.w) (X.A.deeper (envOfC qg (defScope st) s.heap.objs.size g cdg)) (.call (.ref f) ⟨[], []⟩) (CR (L2.CX X.prog X.w) (envOfC qg (defScope st) s.heap.objs.size g cdg :: X.stack) X.prog X.w HZ s1
      (Post ⟨HZ, F, Oj, (b.perm h2).left.tabs⟩ σ HZ F Oj fun r e' => match r with | .t t => P (.t t) (env.set i (some (lamT σ f e'))) | .bor _ _ _ => False)
      (fun cls d H' => ∃ F' O1 e' ex, Bas ⟨HZ, F, Oj, (b.perm h2).left.tabs⟩ F' H' O1 ∧ OwE F' H' O1 σ e' ∧ ExAt F' ex cls d ∧ ET ex (env.set i (some (lamT σ f e'))))) s1 := by
    refine PySem.W.kla_callFunE hr.depth of1 rfl L.co L.gen rfl ⟨c', oc, vs, t, rfl, hoc, hdc, hvc⟩ ?_
    rw [hbind]
    refine wpAny_pure (wpAny_newFunctionEnv (fun y hy => (L.own y hy).2) (fun y hy => absurd hy (by simp)) (fun h₁ hns hsb => ⟨I1.nolimit.fresh _ hsb, ?_⟩) L.kind)
    show codeAny _ _ (.expr body (LamX.lamEnv X scope s1.heap.objs.size f c')) _ _
    have kp : ∀ b o, s1.heap.get? b = some o → h₁.get? b = some o := fun b o e => hsb.extBut b o (Nat.ne_of_lt (Heap.lt_size e)) (Heap.get?_push_of_some _ e)
    generalize hE : (fun (cls : Value) (d : Option Addr) (H' : Hp) => ∃ F' O1 e' ex, Bas ⟨HZ, F, Oj, (b.perm h2).left.tabs⟩ F' H' O1 ∧ OwE F' H' O1 σ e' ∧ ExAt F' ex cls d ∧ ET ex (env.set i (some (lamT σ f e')))) = EE
    have J : Inv (LamX.lamCx X (X.A.deeper (envOfC qg (defScope st) s.heap.objs.size g cdg)) (envOfC qg (defScope st) s.heap.objs.size g cdg :: X.stack) s1 HZ EE scope f c') [] σ HZ { s1 with heap := h₁, toks := s1.toks + ([] : List (Str × Value)).length } :=
      LamX.lam_start2 I L I1.env0 hr.hd un hns kp
    have tkl : Takes (LamX.lamCx X (X.A.deeper (envOfC qg (defScope st) s.heap.objs.size g cdg)) (envOfC qg (defScope st) s.heap.objs.size g cdg :: X.stack) s1 HZ EE scope f c') (wxOf ⟨HZ, F, Oj, (b.perm h2).left.tabs⟩ fun ex e' => Dom e e' ∧ ET ex (env.set i (some (lamT σ f e')))) := by
      refine (takes_of (X := LamX.lamCx X (X.A.deeper (envOfC qg (defScope st) s.heap.objs.size g cdg)) (envOfC qg (defScope st) s.heap.objs.size g cdg :: X.stack) s1 HZ EE scope f c') (E := EE) rfl rfl rfl rfl).imp fun cls d σ' H' ⟨F', O1, e', exx, b', o', xa, dm, q⟩ => ?_
      subst hE
      exact ⟨F', O1, e', exx, b', OwE.dom b'.abs.fz oe o' dm, xa, q⟩
    refine PySem.W.kla_codeExpr (wpAny_mono (hbody _ _ s1 HZ EE ⟨HZ, F, Oj, (b.perm h2).left.tabs⟩ e (fun r e' => match r with | .t t => P (.t t) (env.set i (some (lamT σ f e'))) | .bor _ _ _ => False) _ (hr.deeper _) hgd tkl hL [] _ _ HZ F Oj J bl oe) (fun v s' hq => ?_) fun e s' hq => hq)
    obtain ⟨w', H', J', rv, q⟩ := hq
    exact ⟨w', H', J'.os, J'.bare, J'.base, J'.hok, rv, q⟩
  refine wpAny_call (codeAny_mono rc fun r s' hq => ?_)
  cases r with
  | error e =>
    refine tk e s' (XE.of_call I1 (fun cls d H' hE => ?_) hq)
    obtain ⟨F', O1, e', exx, b', o', xa, q⟩ := hE
    obtain ⟨O3, q1, q2, _⟩ := back (O2 := []) (by rw [List.append_nil]; exact b') o'
    rw [List.append_nil] at q2
    exact ⟨F', O3, _, exx, q2, q1, xa, q⟩
  | ok fl =>
    cases fl with
    | ret u =>
      obtain ⟨v, H', I3, rv, F', O1, r, e', b', st', fr', q⟩ := I1.after hq
      cases r with
      | bor _ _ _ => exact q.elim
      | t t =>
        obtain ⟨O2, O4, rfl, o', w'⟩ := st'
        obtain ⟨O3, q1, q2, q3⟩ := back b' o'
        exact ⟨v, H', I3, rv, F', O3 ++ O4, .t t, _, q2, ⟨O3, O4, rfl, q1, w'⟩, q3, q⟩
    | next => exact False.elim hq
    | brk => exact False.elim hq
    | cont => exact False.elim hq
end
/-- what a def promises that gets a lambda and calls it; tg: what is wanted of the lambda, from what is wanted of the answer and of the maker's names then -/
abbrev Tg := ((T → Env → Prop) → (Ex → Env → Prop) → Prop) → (T → Env → Prop) → Prop
structure GvL (P : Program) (w : World) (K : PySem.W.Frag) (mg : Str → Option Value) (base : Heap) (Tq : List (Addr × Str)) (k : Nat) (x a : Str) (tg : Tg) : Prop where
  ex : ∃ (Ng : List Str) (st : Stmt) (g : Addr) (fd : FuncData), Fun K x x st g fd ∧ mg x = some (.ref g) ∧ PySem.W.keepIn K (.ref g) = true ∧ L2.Binds K fd [a] [] ∧ FnScope Ng [a] (defScope st) ∧ Ng[0]? = some a ∧ Vis (defScope st) a ∧
    ∀ (cdg : Value) (A : Around) (outer : List PySem.Env) (s : Shared) (H : Hp) (Z : Zb Tq) (lam : Env → T) (LB : LamB) (e0 : Env) (QT : T → Env → Prop),
      Room k (BX P w K mg base Ng x st g cdg A outer s H fun _ _ _ => False).A → (BX P w K mg base Ng x st g cdg A outer s H fun _ _ _ => False).A.guards = some [] →
      PassesOwn (model P w) (BX P w K mg base Ng x st g cdg A outer s H fun _ _ _ => False).A (BX P w K mg base Ng x st g cdg A outer s H fun _ _ _ => False).env (BX P w K mg base Ng x st g cdg A outer s H fun _ _ _ => False).xe →
      Act Z (BX P w K mg base Ng x st g cdg A outer s H fun _ _ _ => False) a 0 lam LB → tg (LB e0) QT →
      WSs Z (BX P w K mg base Ng x st g cdg A outer s H fun _ _ _ => False) (defBody st) (startE Ng [lam e0]) fun o => match o with
        | .ret t env => ∃ e', env[0]? = some (some (lam e')) ∧ QT t e'
        | _ => False
section
variable {Tq : List (Addr × Str)} {Z : Zb Tq} {X : Cx} {env : Env} {P : R → Env → Prop}
theorem w_lam {k : Nat} {x a : Str} {c Pt : Addr} {tg : Tg} {LB : LamB} {params : Arguments} {body : Expr} {scope : Scope} {p lpos pos : Pos} (G : GvL X.prog X.w X.K X.mg X.base Tq (k + 1) x a tg)
    (TB : LamX.TabB X.base X.mg c Pt) (hcode : X.env.code = .ref c) (hmT : (Pt, X.env.qual ++ "<lambda>") ∈ Tq) (hu : ∀ p ∈ Tq, p.1 = Pt → p.2 = X.env.qual ++ "<lambda>") (hr : Room (k + 2) X.A) (hgd : X.A.guards = some [])
    (L : LamX.LamS X.env.scope scope)
    (hbody : ∀ (A : Around) (outer : List PySem.Env) (s : Shared) (H : Hp) (E : XK) (f c' : Addr) (Zl : Zb Tq) (e : Env) (Pl : R → Env → Prop) (ET : Ex → Env → Prop), Room k (LamX.lamCx X A outer s H E scope f c').A → (LamX.lamCx X A outer s H E scope f c').A.guards = some [] →
      Takes (LamX.lamCx X A outer s H E scope f c') (wxOf Zl ET) → LB e (fun t e' => Pl (.t t) e') ET → WE Zl (LamX.lamCx X A outer s H E scope f c') body e Pl)
    (hD : ∀ e Q E, LB e Q E → LB e Q fun ex e' => Dom e e' ∧ E ex e') (h : tg (LB env) fun t e => P (.t t) e) (hdef : defaultsOf params X.env = ([], []) := by rfl)
    (hbind : ∀ (q : Str) (cl : List (Str × Addr)) (pm cv ctv : Value), bindArgs (PySem.W.kla_fn "<lambda>" q params body scope cl pm cv ctv) ⟨[], []⟩ = pure [] := by intros; rfl)
    (hg : Gl X x := by rfl) (hdb : (x == ("__debug__" : Str)) = false := by decide) (hd : (a == ("__debug__" : Str)) = false := by decide) (hcd : (a == ("__classdict__" : Str)) = false := by decide) :
    WE Z X (.Call (.Name x p) [.Lambda params body scope lpos] [] pos) env P := by
  obtain ⟨Ng, st, g, fd, Fn, hm, hk, hb, Sg, hNg, hva, hG⟩ := G.ex
  obtain ⟨oc, od, kV, doc, pm, an, cdg, ct, osl, rfl, lk, hcg⟩ := Fn.ex
  intro pins s σ H F O I b o
  refine wpAny_Call_Name_kw (ld_glob I hg hm ?_ hdb)
  refine PySem.W.callWith_K (h₀ := X.base) I.ok.mod.kin hk ?_ (by rfl) (by rfl)
  show wpAny _ _ (spliced ((false, eval (.Lambda params body scope lpos) X.env) :: backTo pos (starEach [] X.env))) _ _ s
  refine Calls.spliced_cons (lam_make3 (Tq := Tq) I TB hcode (b.tabs.tabs _ hmT) hu hdef (L.has I.ok) fun f c' pm' ctv H1 s' I1 eN al tm td hf hfn hfr => ?_)
  refine Calls.spliced_nil ⟨I1.kIn, ?_⟩
  have tz := b.tabs
  have FP : F Pt = none := tz.tn _ hmT
  have OP : Pt ∉ O := tz.to _ hmT
  obtain ⟨ps0, hP0, _⟩ := tz.tabs _ hmT
  have keepO : ∀ c ∈ O, H1 c = H c := fun c hc => eN c (fun z => OP (z ▸ hc)) (o.held c hc).ne
  have sF : Same F H1 := fun c u e => by
    have hne : H c ≠ none := by rw [b.sub c u e]; exact fun z => nomatch z
    rw [eN c (fun z => by rw [z, FP] at e; cases e) hne]
    exact b.sub c u e
  have fr1 : Frm Tq H F O H1 F O := ⟨Same.refl _, fun c u e nt _ => by
    rw [eN c (fun z => by rw [z] at e; exact nt ps0 (Option.some.inj (e.symm.trans hP0))) (by rw [e]; exact fun z => nomatch z)]
    exact e, al, fun c e => .inl e, fun c hc => .inl hc, tm⟩
  have b1 : Bas Z F H1 O := ⟨sF, b.nd, b.dis, b.abs.trans fr1⟩
  have o1 : OwE F H1 O σ env := o.stay (Same.refl _) keepO
  have bc := b1.entry
  have rc : codeAny (model X.prog X.w) X.A (.call (.ref g) ⟨[.ref f], []⟩) (CR (L2.CX X.prog X.w) X.stack X.prog X.w H1 s' (Post Z σ H F O P) fun _ _ _ => False) s' := by
    refine LamX.run_ofS (N := Ng) (ps := [a]) (us := [.ref f]) (vs := [.ref f]) lk hcg Sg hr I1.env0 (hb s' [.ref f] I1.kIn rfl) (.cons rfl .nil) rfl fun hr' => ?_
    have act := w_act (Z := ⟨H1, F, O, b1.tabs⟩) (Ng := Ng) (qg := x) (st := st) (g := g) (cdg := cdg) (Eg := fun _ _ _ => False) (i := 0) (a := a) (LB := LB) (k := k) I1 L hf hfn hfr hmT td (hbind _ _ _ _ _) hr' hgd
      (fun A outer s H E Zl e Pl ET => hbody A outer s H E f c' Zl e Pl ET) hD hNg hva hd hcd
    have body := hG cdg X.A X.stack s' H1 ⟨H1, F, O, b1.tabs⟩ (lamT σ f) LB env (fun t e => P (.t t) e) hr' hgd (passes_of (X := BX X.prog X.w X.K X.mg X.base Ng x st g cdg X.A X.stack s' H1 fun _ _ _ => False) rfl) act h
    have sv : StV F H1 (O ++ []) [V.ref f] [lamT σ f env] := .cons (lamT_ow o1) .nil
    rw [List.append_nil] at sv
    have o0 : OwE F H1 O (L2.start Ng [V.ref f]) (startE Ng [lamT σ f env]) := by
      unfold L2.start startE
      exact sv.start (N := Ng) _
    refine ⟨tSs ⟨H1, F, O, b1.tabs⟩ (BX X.prog X.w X.K X.mg X.base Ng x st g cdg X.A X.stack s' H1 fun _ _ _ => False) (defBody st), pss_S, startE Ng [lamT σ f env], F, O, _, bc, o0, body, ?_⟩
    refine ⟨fun σ H' ⟨F', O', e, b', o', fr, q⟩ => q.elim, fun v H' ⟨F', Oa, Ob, σ', t, e, b', o', w', fr, q⟩ => ?_, fun σ H' ⟨F', O', e, b', o', fr, q⟩ => q.elim, fun σ H' ⟨F', O', e, b', o', fr, q⟩ => q.elim⟩
    obtain ⟨e', he, q⟩ := q
    obtain ⟨w, hw, Oj, Od, h1, h2, h3⟩ := o'.focusI he
    cases h1 with
    | ob hφ _ =>
    obtain ⟨_, oe⟩ := hφ
    have pm : (Oa ++ Ob).Perm ((Oj ++ Ob) ++ Od) := (h2.append_right Ob).trans (by
      rw [List.append_assoc, List.append_assoc]
      exact List.perm_append_comm.append_left Oj)
    have bz : Bas Z F' H' (Oa ++ Ob) := ⟨b'.sub, b'.nd, b'.dis, b1.abs.trans b'.abs⟩
    exact ⟨F', Oj ++ Ob, .t t, e', (bz.perm pm).left, ⟨Oj, Ob, rfl, oe, w'⟩, (fr1.trans b'.abs).perm (fun _ => Iff.rfl) fun c hc => pm.mem_iff.mpr (List.mem_append_left _ hc), q⟩
  refine wpAny_call (codeAny_mono rc fun r s2 hq => ?_)
  cases r with
  | error e =>
    obtain ⟨_, _, _, _, _, _, _, _, _, _, _, _, q⟩ := hq
    exact q.elim
  | ok fl =>
    cases fl with
    | ret u => exact I1.after hq
    | next => exact False.elim hq
    | brk => exact False.elim hq
    | cont => exact False.elim hq
end
end QL

/-! QLb: try: .. except C as e: x = e; what x is afterwards. -/
namespace QL
open PySem PySem.Spec PyProof.Rows L2

/-- at a: an exception of the class cls, its dict at d -/
def ExK (cls : Value) (d : Option Addr) (a : Addr) : HO := .ext fun h => ∃ (oe : Obj) (vs : Array Value), h.get? a = some oe ∧ Zc cls d oe ∧ oe.data = .fields vs
theorem exK_ok {P : Program} {w : World} {H : Hp} {h : Heap} {a : Addr} {cls : Value} {d : Option Addr} {oe : Obj} {vs : Array Value} (e : h.get? a = some oe) (z : Zc cls d oe) (hd : oe.data = .fields vs) : ObjOk P w H h a (ExK cls d a) :=
  ⟨⟨oe, vs, e, z, hd⟩, ⟨oe, e⟩, fun _ _ ⟨o, v, q, r⟩ k => ⟨o, v, k o q, r⟩⟩
section
variable {X : Cx} {pins : List (Addr × Obj)} {σ : L2.St} {H : Hp} {s : Shared}
/-- an object of ours, pinned so far, is tracked from now on -/
theorem track {a : Addr} {oe : Obj} {o : HO} (I : Inv X ((a, oe) :: pins) σ H s) (h0 : X.s_0.heap.get? a = none) (np : ∀ p ∈ X.pn ++ pins, p.1 ≠ a) (new : ObjOk X.prog X.w (upd H a o) s.heap a o) : Inv X pins σ (upd H a o) s := by
  obtain ⟨ha, na, nL, nF, nc⟩ := I.pin (a, oe) (List.mem_append_right _ List.mem_cons_self)
  have na : H a = none := na
  refine ⟨I.ok, I.os, I.bare, ⟨I.base.keep, I.base.slot, fun b q e n hx => ?_, I.base.there, fun b xs e => ?_, fun b q u e => ?_, fun b ps e => ?_⟩, I.loc, I.cell, ?_, fun x c e => ?_, fun p hp => ?_, I.hok.laidN (fun _ _ z => z) na new, I.len⟩
  · rw [upd_ne fun z => by rw [z, h0] at e; cases e]
    exact I.base.free b q e n hx
  · have := I.base.tups b xs e
    rw [upd_ne (ne_of_none this na)]
    exact this
  · have := I.base.frzs b q u e
    rw [upd_ne (ne_of_none this na)]
    exact this
  · obtain ⟨more, this⟩ := I.base.tbls b ps e
    exact ⟨more, by rw [upd_ne (ne_of_none this na)]; exact this⟩
  · rw [upd_ne fun z => nL z.symm]
    exact I.free
  · rw [upd_ne fun z => ?_]
    · exact I.freeC x c e
    · subst z
      obtain ⟨v, o', ho', hd'⟩ := I.cell x c e
      rw [ha] at ho'
      cases ho'
      exact nc _ hd'
  · obtain ⟨q1, q2, q3, q4, q5⟩ := I.pin p (by
      rcases List.mem_append.mp hp with z | z
      · exact List.mem_append_left _ z
      · exact List.mem_append_right _ (List.mem_cons_of_mem _ z))
    exact ⟨q1, by rw [upd_ne (np p hp)]; exact q2, q3, q4, q5⟩
end
/-- what the clause 'except x as n' wishes: the exception is tracked behind the suite -/
def wAsT (K : PySem.W.Frag) (c : Value) (i : Nat) (ts : Addr → Value → Option Addr → TS) (D : Ends) : WX := fun cls d σ H =>
  PySem.W.exmOne K cls c = some true ∧ ∀ a, H a = none → ts a cls d { nx := fun σ' H' => H' a = none ∧ D.nx (σ'.set i none) (upd H' a (ExK cls d a)), rt := fun _ _ => False, bk := fun _ _ => False, ct := fun _ _ => False } (σ.set i (some (.ref a))) H
section
variable {X : Cx} {x n : Str} {c : Value} {i : Nat} {body suite : List Stmt} {b₀ : Stmt} {np pos pos' : Pos} {tb : WX → TS} {ts : Addr → Value → Option Addr → TS}
theorem ps_try_asT (hs : X.stack = X.env :: X.outer) (hf : X.env.frame = some X.env.locals) (hex : X.ex = []) (hN : X.N.Nodup) (hi : X.N[i]? = some n) (hln : X.env.kindOf n = some .local) (hc : Names X x c)
    (hb : ∀ (W : WX) (pn : List (Addr × Obj)) (xe : Value → Shared → Prop), Takes (X.tr pn xe) W → PassesOwn (model X.prog X.w) X.A X.env xe → PSs (X.tr pn xe) body (tb W))
    (hsu : ∀ (a : Addr) (oe : Obj) (cls : Value) (d : Option Addr) (pn : List (Addr × Obj)), Zc cls d oe → (∃ vs, oe.data = .fields vs) → PSs (X.suite a ((a, oe) :: pn)) (b₀ :: suite) (ts a cls d)) :
    PS X (.Try body [.ExceptHandler (some (.Name x np)) (some n) (b₀ :: suite) pos'] [] [] pos) (fun D σ H => tb (wAsT X.K c i ts D) D σ H) := by
  refine ⟨fun pins s σ H D I h => ?_⟩
  have ok := I.ok
  have hfr : X.A.frames = some (X.env :: X.outer) := by rw [ok.frames, hs]
  have hloc : Loc X.env.scope n := .inl hln
  refine wpAny_Try_except ?_
  refine wpAny_mono ((hb (wAsT X.K c i ts D) (X.pn ++ pins) (fun e s₁ => wpAny (model X.prog X.w) X.A (noteFrame e X.env) (fun _ s₂ => wpAny (model X.prog X.w) X.A (setFlight e none) (fun _ s₃ =>
    wpAny (model X.prog X.w) X.A (handleBy e X.env [.ExceptHandler (some (.Name x np)) (some n) (b₀ :: suite) pos']) (SP X pins D) X.xe s₃) X.xe s₂) X.xe s₁) (fun u s' xx => ?_) PassesOwn.looking).run [] s σ H D (I.toTry _) h) (fun f s1 hsp => ?_) (fun e s1 he => he)
  · -- the catch
    obtain ⟨a, B, sI, pins', σ', H', cls, d, rfl, J', nb, up, sky, na, os, ag, hb1, hyes⟩ := xx
    have J : Inv X pins σ' H' sI := J'.ofTry ok
    have sky' : Sky B (X.env :: X.outer) a (Zc cls d) X.env.locals s'.heap := by rw [← hs]; exact sky
    show wpAny (model X.prog X.w) X.A (noteFrame (.ref a) X.env) _ _ _
    refine Sky.land Zc.steady hfr hf sky' fun h3 fl3 up3 => ?_
    have J3 : Inv X pins σ' H' { s' with heap := h3 } := J.landed nb fl3.1 (up.trans up3) os ag
    obtain ⟨oe3, vs3, he3, hz3, hd3⟩ := fl3.there
    have notFr : ∀ {h : Heap} {o : Obj} {vs : Array Value}, h.FunFrames B (X.env :: X.outer) → h.get? a = some o → o.data = .fields vs → a ∉ frs (X.env :: X.outer) := fun {h o vs} ff e dd hm => by
      obtain ⟨_, o', e', hnf⟩ := ff.mem hm
      rw [e] at e'; cases e'
      exact hnf _ dd
    have nfr := notFr fl3.2.2.1 he3 hd3
    have nL : a ≠ X.env.locals := fun z => nfr (List.mem_filterMap.mpr ⟨X.env, List.mem_cons_self, by rw [hf, z]⟩)
    have nF : a ∉ X.fs := fun hm => by
      obtain ⟨e, he, q⟩ := List.mem_filterMap.mp hm
      exact nfr (List.mem_filterMap.mpr ⟨e, List.mem_cons_of_mem _ he, q⟩)
    have Ba : B.get? a = none := fl3.2.1
    have h0 : X.s_0.heap.get? a = none := by
      cases q : X.s_0.heap.get? a with
      | none => rfl
      | some o =>
        obtain ⟨o', e⟩ := J.base.there a o q (by rw [hex]; exact List.not_mem_nil)
        have := nb a o' e (by rw [hs]; exact nfr)
        rw [Ba] at this
        cases this
    have npa : ∀ p ∈ X.pn ++ pins, p.1 ≠ a := fun p hp z => by
      obtain ⟨q1, _⟩ := J.pin p hp
      rw [z] at q1
      have := nb a _ q1 (by rw [hs]; exact nfr)
      rw [Ba] at this
      cases this
    have S3 := J3.suite he3 hd3 na nL nF
    refine wpAny_handleBy_cons (codeAny_handlers_test ?_) (by intro q; cases q)
    have LT : PySem.W.Looks (model X.prog X.w) h3 (typeOf (.ref a)) cls := fun A Q E s k q => wpAny_typeOf_ref (k _ _ he3) (by rw [hz3.1]; exact q)
    have LM := PySem.W.exm_one (M := model X.prog X.w) (J3.kIn) LT hb1
    have test : ∀ {Q : Value → Shared → Prop} {E : Value → Shared → Prop}, Q c { s' with heap := h3 } → wpAny (model X.prog X.w) (X.A.mark (some (.ref a))) (eval (.Name x np) X.env) Q E { s' with heap := h3 } := fun {Q E} q => by
      obtain ⟨hg, hdbg, hm | ⟨hm, hv, hnn⟩⟩ := hc
      · exact ld_glob (X := X.suite a ((a, oe3) :: (X.pn ++ pins))) S3 hg hm q hdbg
      · exact ld_blt (X := X.suite a ((a, oe3) :: (X.pn ++ pins))) S3 hg hm hv q hnn hdbg
    refine test (LM.here ?_)
    refine codeAny_handlers_suite_as ?_
    refine HandSPX.lands_againZ fl3 fun h4 fl4 up4 => ?_
    have J4 : Inv X pins σ' H' { s' with heap := h4 } := J.landed nb fl4.1 ((up.trans up3).trans up4) os ag
    obtain ⟨oe4, vs4, he4, hz4, hd4⟩ := fl4.there
    have S4 := J4.suite he4 hd4 na nL nF
    refine store_ok (X := X.suite a ((a, oe4) :: (X.pn ++ pins))) (v := .ref a) S4 hN hi hloc rfl (fun s5 S5 => ?_) (.inr hln)
    refine wpAny_mono ((hsu a oe4 cls d (X.pn ++ pins) hz4 ⟨_, hd4⟩).run [] s5 _ H' _ S5 (hyes a na)) (fun f s6 hsp => ?_) (fun _ _ z => False.elim z)
    cases f with
    | next =>
      obtain ⟨σ6, H6, S6, n6, q6⟩ := hsp
      have P6 : Inv X ((a, oe4) :: pins) σ6 H6 s6 := ⟨ok, S6.os, S6.bare, S6.base, S6.loc, S6.cell, S6.free, S6.freeC, fun p hp => S6.pin p (by
        rcases List.mem_append.mp hp with z | z
        · exact List.mem_append_left _ (List.mem_cons_of_mem _ (List.mem_append_left _ z))
        · rcases List.mem_cons.mp z with z | z
          · rw [z]; exact List.mem_append_left _ List.mem_cons_self
          · exact List.mem_append_left _ (List.mem_cons_of_mem _ (List.mem_append_right _ z))), S6.hok, S6.len⟩
      refine gone_ok P6 hN hi hln fun s7 J7 => ?_
      have e7 := (J7.pin (a, oe4) (List.mem_append_right _ List.mem_cons_self)).1
      exact ⟨_, _, track J7 h0 npa (exK_ok e7 hz4 hd4), q6⟩
    | brk =>
      obtain ⟨σ6, H6, S6, q6⟩ := hsp
      exact q6.elim
    | cont =>
      obtain ⟨σ6, H6, S6, q6⟩ := hsp
      exact q6.elim
    | ret u =>
      obtain ⟨v6, σ6, H6, S6, r6, q6⟩ := hsp
      exact q6.elim
  · cases f with
    | next =>
      obtain ⟨σ', H', J', q⟩ := hsp
      exact wpAny_execs_nil ⟨σ', H', J'.ofTry ok, q⟩
    | brk =>
      obtain ⟨σ', H', J', q⟩ := hsp
      exact ⟨σ', H', J'.ofTry ok, q⟩
    | cont =>
      obtain ⟨σ', H', J', q⟩ := hsp
      exact ⟨σ', H', J'.ofTry ok, q⟩
    | ret u =>
      obtain ⟨v, σ', H', J', r, q⟩ := hsp
      exact ⟨v, σ', H', J'.ofTry ok, r, q⟩
end
theorem ExAt.mono {F F' : Hp} {ex : Ex} {cls : Value} {d : Option Addr} (s : Same F F') (h : ExAt F ex cls d) : ExAt F' ex cls d := by
  obtain ⟨e, h | ⟨dd, vfs, ed, hd, r⟩⟩ := h
  · exact ⟨e, .inl h⟩
  · exact ⟨e, .inr ⟨dd, vfs, ed, s _ _ hd, r.mono s⟩⟩
/-- a caught exception that a name holds -/
def excT (a : Addr) (ex : Ex) : T := .ob (some a) fun F _ O v => O = [] ∧ v = .ref a ∧ ∃ cls d, F a = some (ExK cls d a) ∧ ExAt F ex cls d
theorem excT_ow {F H : Hp} {a : Addr} {ex : Ex} {cls : Value} {d : Option Addr} (h : F a = some (ExK cls d a)) (x : ExAt F ex cls d) : Ow F H [] (.ref a) (excT a ex) :=
  .ob ⟨rfl, rfl, cls, d, h, x⟩ ⟨fun F H F' H' O v ⟨h1, h2, cls, d, h3, h4⟩ s _ => ⟨h1, h2, cls, d, s _ _ h3, h4.mono s⟩, fun F H O v ⟨h1, _⟩ b hb => (by subst h1; cases hb), fun F H O v b ⟨_, h2, _⟩ e => by cases e; exact h2⟩
theorem endsOf.back {Tq : List (Addr × Str)} {Z : Zb Tq} {F H : Hp} {O : List Addr} {P : Out → Prop} (b : Bas Z F H O) : EndsLe (endsOf ⟨H, F, O, b.tabs⟩ H F O P) (endsOf Z H F O P) :=
  have to : ∀ {F' H' : Hp} {O' : List Addr}, Bas ⟨H, F, O, b.tabs⟩ F' H' O' → Bas Z F' H' O' := fun b' => ⟨b'.sub, b'.nd, b'.dis, b.abs.trans b'.abs⟩
  ⟨fun σ H' ⟨F', O', e, b', o', fr, q⟩ => ⟨F', O', e, to b', o', fr, q⟩, fun v H' ⟨F', Oa, Ob, σ, t, e, b', o', w', fr, q⟩ => ⟨F', Oa, Ob, σ, t, e, to b', o', w', fr, q⟩,
    fun σ H' ⟨F', O', e, b', o', fr, q⟩ => ⟨F', O', e, to b', o', fr, q⟩, fun σ H' ⟨F', O', e, b', o', fr, q⟩ => ⟨F', O', e, to b', o', fr, q⟩⟩
/-- try: body / except x as n: y = n -/
theorem ws_try_err {Tq : List (Addr × Str)} {Z : Zb Tq} {X : Cx} {env : Env} {PO : Out → Prop} (i j : Nat) {x n y : Str} {c : Value} {body : List Stmt} {np pos pos' py pn pa : Pos} (hs : X.stack = X.env :: X.outer) (hf : X.env.frame = some X.env.locals) (hex : X.ex = []) (hN : X.N.Nodup) (hc : Names X x c)
    (h : ∀ (Z' : Zb Tq) (pins : List (Addr × Obj)) (xe : Value → Shared → Prop), TabM Tq Z.H Z'.H → Takes (X.tr pins xe) (wxOf Z' fun ex e => PySem.W.exmOne X.K (.ref ex.C) c = some true ∧ i < e.length ∧ j < e.length ∧ ∀ a, PO (.nx ((e.set j (some (excT a ex))).set i none))) → WSs Z' (X.tr pins xe) body env PO)
    (hi : X.N[i]? = some n := by rfl) (hj : X.N[j]? = some y := by rfl) (hij : i ≠ j := by decide) (hln : X.env.kindOf n = some .local := by rfl) (hlj : X.env.scope.names.lookup y = some .local := by rfl) (hv : Vis X.env.scope n := by first | exact Or.inl rfl | exact Or.inr (Or.inl rfl) | exact Or.inr (Or.inr rfl))
    (hd : (n == ("__debug__" : Str)) = false := by decide) (hcd : (n == ("__classdict__" : Str)) = false := by decide) (hsw : swapsWith (.Name n pn) (some (.Name y py)) pa.line X.env = pure false := by rfl) :
    WS Z X (.Try body [.ExceptHandler (some (.Name x np)) (some n) [.Assign [.Name y py] (.Name n pn) pa] pos'] [] [] pos) env PO :=
  ws_of (ps_try_asT (i := i) (c := c) (ts := fun a cls d D σ H => ∃ v, σ[i]? = some (some v) ∧ D.nx (σ.set j (some v)) H)
    (tb := fun W D σ H => ∀ (pins : List (Addr × Obj)) (xe : Value → Shared → Prop), Takes (X.tr pins xe) W → ∃ Z' : Zb Tq, tSs Z' (X.tr pins xe) body D σ H)
    hs hf hex hN hi hln hc (fun W pins xe tk _ => ⟨fun pins' s σ H D I t => let ⟨Z', t'⟩ := t pins xe tk; (pss_S (Z := Z')).run pins' s σ H D I t'⟩)
    (fun a oe cls d pins hz hf => pss_one (ps_set (X := X.suite a ((a, oe) :: pins)) hN hj (.inl hlj) (pe_var (i := i) hi hv hd hcd) hsw (.inr hlj)))) fun σ H F O b o => by
    intro pins xe tk
    refine ⟨⟨H, F, O, b.tabs⟩, env, F, O, PO, b.entry, o, h ⟨H, F, O, b.tabs⟩ pins xe b.abs.tb (tk.imp fun cls d σ' H' wx => ?_), endsOf.back b⟩
    obtain ⟨F', O', e, ex, b', o', xa, hx, li, lj, q⟩ := wx
    have ec : cls = .ref ex.C := xa.1
    refine ⟨by rw [ec]; exact hx, fun a na => ⟨.ref a, ?_, na, ?_⟩⟩
    · rw [List.getElem?_set_self (by rw [o'.len]; exact li)]
    have fa : F' a = none := b'.sub.free na
    have sF : Same F' (upd F' a (ExK cls d a)) := same_new fa
    have sH : Same H' (upd H' a (ExK cls d a)) := same_new na
    have keep : ∀ c ∈ O', upd H' a (ExK cls d a) c = H' c := fun c hc => upd_ne fun z => o'.there c hc (z ▸ na)
    have o1 := o'.stay sF keep
    obtain ⟨O1, P1, o2, p1⟩ := o1.set j (excT_ow (H := upd H' a (ExK cls d a)) upd_same (xa.mono sF)) lj
    obtain ⟨O2, P2, o3, p2⟩ := o2.wipeO [i]
    have pm : O'.Perm (O2 ++ (P2 ++ P1)) := by
      rw [← List.append_assoc]
      have := p1.trans (p2.append_right P1)
      rwa [List.nil_append] at this
    have es : ((σ'.set i (some (V.ref a))).set j (some (V.ref a))).set i none = (σ'.set j (some (V.ref a))).set i none := by
      rw [List.set_comm _ _ hij, List.set_set]
    have fr : Frm Tq H' F' O' (upd H' a (ExK cls d a)) (upd F' a (ExK cls d a)) O2 := ⟨sF, fun c y e _ _ => sH c y e, fun c e => by
      by_cases z : c = a
      · subst z; rw [upd_same]; exact fun z => nomatch z
      · rw [upd_ne z]; exact e, fun c e => by
      by_cases z : c = a
      · subst z; exact .inr (.inl na)
      · rw [upd_ne z] at e; exact .inl e, fun c hc => .inl (pm.mem_iff.mpr (List.mem_append_left _ hc)), tab_new na⟩
    refine ⟨upd F' a (ExK cls d a), O2, (e.set j (some (excT a ex))).set i none, ⟨fun c y z => ?_, (List.nodup_append.mp (pm.nodup b'.nd)).1, fun c hc => ?_, (b.abs.trans b'.abs).trans fr⟩, ?_, b'.abs.trans fr, q a⟩
    · by_cases z2 : c = a
      · subst z2; rw [upd_same] at z ⊢; exact z
      · rw [upd_ne z2] at z ⊢; exact b'.sub c y z
    · have hc' : c ∈ O' := pm.mem_iff.mpr (List.mem_append_left _ hc)
      rw [upd_ne fun z => o'.there c hc' (by rw [z]; exact na)]
      exact b'.dis c hc'
    · rw [es]
      refine OwE.none_any (e := (e.set j (some (excT a ex))).set i none) o3 (List.length_set ..) fun m hm => ?_
      rw [List.getElem?_set_ne]
      intro z
      subst z
      exact hm (by rw [List.getElem?_set_self (by rw [List.length_set]; exact li)])
end QL

/-! QLc: an exception that a name holds: isinstance, is None, its fields. -/
namespace QL
open PySem PySem.Spec PySem.Calls PyProof.Rows L2
section
variable {prog : Program} {w : World} {A : Around} {E : Value → Shared → Prop} {s : Shared} {K : PySem.W.Frag} {x D : Addr} {ox : Obj} {od : Option Obj}
theorem findObj_dataO {C : Addr} {name : Str} {a g : Value} (hc : (PySem.W.clsIn K C).isSome = true) (ha : PySem.W.findIn K (.ref C) name = some (some a)) (hg : PySem.W.specialIn K a "__get__" = some (some g)) (ht : PySem.W.takesIn K a = some true) : PySem.W.findObj K C od name = some (.bind g a) := by
  obtain ⟨cd, hc⟩ := Option.isSome_iff_exists.mp hc
  unfold PySem.W.findObj
  rw [hc, Option.bind_some, ha, Option.bind_some]
  simp [hg, ht]
theorem kin_classO {Q : Option Value → Shared → Prop} (C : ExcC K D) (X : K.In s.heap) (I : PySem.W.InstAt s.heap x ox D od) (h : Q (some (.ref D)) { s with toks := s.toks + 1 }) : wpAny (model prog w) A (getAttr? (.ref x) "__class__") Q E s := by
  obtain ⟨hga, hgt, hsub, hdct, ha, hn, htk, hm⟩ := C
  have hf : PySem.W.findObj K D od "__class__" = some (.bind (.builtin "getset_descriptor.__get__") (.builtin "object.__class__")) := findObj_dataO (by obtain ⟨cd, hc, _⟩ := PySem.W.any_some hdct; rw [hc]; rfl) ha hn htk
  obtain ⟨hp, g, d, t, os⟩ := s
  have L0 := I.type (M := model prog w)
  have L1 := PySem.W.looks_findIn (M := model prog w) X hga
  have L2 := PySem.W.looks_findIn (M := model prog w) X hgt
  have L3 := PySem.W.looks_find (M := model prog w) X I hf
  have sub : PySem.W.Looks (model prog w) hp (isInstance (.ref x) (.type "BaseException")) true := L0.andThen (PySem.W.looks_subIn X hsub)
  have hx0 : (false && onTheHeap (Value.builtin "BaseException.__getattribute__")) = false := rfl
  have hx2 : (Value.builtin "BaseException.__getattribute__" == Value.builtin "object.__getattribute__") = false := by decide +kernel
  have hx1 : (onTheHeap (Value.ref D) && Value.builtin "BaseException.__getattribute__" == Value.builtin "object.__getattribute__") = false := by rw [hx2]; rfl
  unfold getAttr? getAttrBy? getAttrBy
  refine wpAny_bind (wpAny_mkText (wpAny_bind (wpAny_attempt (wpAny_holding (wpAny_bind (L0.at (wpAny_bind (L1.at ?_))))))))
  show wpAny _ _ (if (onTheHeap (Value.ref D) && Value.builtin "BaseException.__getattribute__" == Value.builtin "object.__getattribute__") = true then _ else _) _ _ _
  rw [hx1, if_neg Bool.false_ne_true]
  unfold getAttrByItsOwn hookBefore
  refine wpAny_bind ?_
  rw [if_pos (show onTheHeap (Value.ref D) = true from rfl)]
  refine L2.at ?_
  refine wpAny_bind (wpAny_attempt (wpAny_holding ?_))
  unfold callGetattribute
  rw [hx0, if_neg Bool.false_ne_true]
  unfold boundAndCalled
  rw [PySem.F.excAttr_ValueError.ga.bind (.ref x)]
  refine wpAny_bind (wpAny_pure ?_)
  show wpAny _ _ (call (.builtin "BaseException.__getattribute__") [.ref x, .str "__class__" t]) _ _ _
  refine wpAny_call (codeAny_call_builtin PySem.F.excAttr_ValueError.ga.plain PySem.F.entry_bexc_ga ?_)
  refine @PySem.W.check_slot (model prog w) _ _ ⟨hp, g, d, t + 1, os⟩ "BaseException.__getattribute__" "BaseException" "__getattribute__" (.ref x) [.str "__class__" t] [] _ (by decide +kernel) (by decide +kernel) sub (PySem.F.args_bexc_ga (.ref x) (.str "__class__" t)) ?_
  unfold Builtin.«object.__getattribute__»
  refine wpAny_bind (wpAny_of_eq (a := ((Value.ref x : Value), [Value.str "__class__" t])) (by first | rfl | (simp only [slotArgs]; rfl)) ?_)
  refine wpAny_bind (wpAny_pure (wpAny_bind (L0.at (wpAny_bind (L3.at ?_)))))
  show wpAny _ _ (holding [Value.builtin "object.__class__"] (call (.builtin "getset_descriptor.__get__") [.builtin "object.__class__", .ref x, .ref D]) >>= ret) _ _ _
  refine wpAny_bind (wpAny_holding (wpAny_call (PySem.W.class_get (s := ⟨hp, g, d, t + 1, os⟩) (ox := ox) (od := od) X I hm ?_)))
  refine wpAny_pure ?_
  show wpAny _ _ (handedOut (.ref D)) _ _ _
  rw [PySem.W.handedOut_of (v := .ref D) rfl]
  first
    | exact wpAny_pure (wpAny_pure h)
    | exact wpAny_pure h
    | exact wpAny_pure (wpAny_bind (wpAny_pure (wpAny_pure h)))
theorem kitx_excO (C : ExcC K D) : PySem.W.KitX K (.ref x) (.ref D) (fun h => PySem.W.InstAt h x ox D od) where
  ty := fun _ _ _ I => I.type
  it := fun _ _ X _ => by
    obtain ⟨cdD, hcD, _⟩ := PySem.W.any_some C.hd
    unfold PySem.W.clsIn at hcD
    split at hcD
    · rename_i c' d' cd' sl' ho
      intro A' Q' E' s' k q
      unfold isType loadHead
      exact wpAny_bind (wpAny_loadPart (k _ _ (X _ _ ho)) (wpAny_pure q))
    · cases hcD
  ne := fun h tp dd its n sl X htp => by
    obtain ⟨cdD, hcD, _⟩ := PySem.W.any_some C.hd
    refine Bool.eq_false_iff.mpr fun q => ?_
    have e : D = tp := Value.ref.inj (beq_iff_eq.mp q)
    subst e
    unfold PySem.W.clsIn at hcD
    split at hcD
    · rename_i c' d' cd' sl' ho
      have z := (X _ _ ho).symm.trans htp
      cases z
    · cases hcD
  ca := fun X I k => kin_classO C X I k
end
theorem inst_of {X : Cx} {pins : List (Addr × Obj)} {σ : L2.St} {H : Hp} {s : Shared} {a D : Addr} {d : Option Addr} (I : Inv X pins σ H s) (h : H a = some (ExK (.ref D) d a)) (hd : d = none ∨ ∃ dd fs, d = some dd ∧ H dd = some (.xd fs)) : ∃ ox od, PySem.W.InstAt s.heap a ox D od := by
  obtain ⟨⟨oe, vs, hget, hz, hv⟩, _, _⟩ := I.hok a _ h
  rcases hd with rfl | ⟨dd, fs, rfl, hx⟩
  · exact ⟨oe, none, hget, hz.1, by unfold PySem.W.notCls; rw [hv] <;> rfl, by rw [hz.2]; trivial⟩
  · have hx : ObjOk X.prog X.w H s.heap dd (.xd fs) := I.hok dd _ hx
    obtain ⟨mA, hns, hr⟩ := hx
    obtain ⟨od, ho, hl⟩ := lookIn_ns hns
    exact ⟨oe, some od, hget, hz.1, by unfold PySem.W.notCls; rw [hv] <;> rfl, by rw [hz.2]; exact ho⟩
def rIsX (K : PySem.W.Frag) (D a : Addr) : List V → Hp → VK → Prop := fun xs H Q => ∃ (c : V) (cv : Value) (b : Bool) (d : Option Addr), xs = [.ref a, c] ∧ (∀ u, RelV c u → u = cv) ∧ PySem.W.kitOne K (.ref D) cv = some b ∧ H a = some (ExK (.ref D) d a) ∧ (d = none ∨ ∃ dd fs, d = some dd ∧ H dd = some (.xd fs)) ∧ Q (.bl b) H
theorem call_isX {X : Cx} {a D : Addr} (C : ExcC X.K D) : CallR X (.builtin "isinstance") (rIsX X.K D a) := by
  intro pins s σ H xs us Q I r h
  obtain ⟨c, cv, b, d, rfl, hcv, e, ha, hd, q⟩ := h
  cases r with
  | cons rx rr =>
    cases rr with
    | cons rt rr =>
      cases rr
      cases rx
      have ec := hcv _ rt
      subst ec
      obtain ⟨ox, od, J⟩ := inst_of I ha hd
      exact PySem.W.kia_one (kitx_excO C) I.kIn J e (fun z => nomatch z) fun tk => ⟨.bl b, H, I.kept (t' := tk) fun _ _ z => z, rfl, q⟩
section
variable {Tq : List (Addr × Str)} {Z : Zb Tq} {X : Cx} {env : Env} {P : R → Env → Prop} {pos p p1 p2 apos : Pos} {y : Str} {a : Addr} {ex : Ex}
theorem exc_at {F H : Hp} {O : List Addr} {σ : L2.St} {i : Nat} (b : Bas Z F H O) (o : OwE F H O σ env) (he : env[i]? = some (some (excT a ex))) :
    σ[i]? = some (some (.ref a)) ∧ ∃ d, F a = some (ExK (.ref ex.C) d a) ∧ ExAt F ex (.ref ex.C) d := by
  obtain ⟨w, hw, Oj, O', h1, h2, h3⟩ := o.focusI he
  cases h1 with
  | ob h _ =>
    obtain ⟨_, e, cls, d, h4, h5⟩ := h
    subst e
    obtain rfl : cls = .ref ex.C := h5.1
    exact ⟨hw, d, h4, h5⟩
theorem ExAt.dict {F H : Hp} {cls : Value} {d : Option Addr} (s : Same F H) (h : ExAt F ex cls d) : d = none ∨ ∃ dd fs, d = some dd ∧ H dd = some (.xd fs) := by
  obtain ⟨_, h | ⟨dd, vfs, ed, hd, _⟩⟩ := h
  · exact .inl h.1
  · exact .inr ⟨dd, vfs, ed, s _ _ hd⟩
/-- isinstance(y, T), y an exception, T a class of one's own -/
theorem w_isE (i : Nat) {T : Str} {D : Addr} {k : Bool} (C : ExcC X.K ex.C) (he : env[i]? = some (some (excT a ex))) (hk : PySem.W.kitOne X.K (.ref ex.C) (.ref D) = some k) (h : P (.t (.va (.bool k))) env) (hm : X.mg "isinstance" = none) (hmT : X.mg T = some (.ref D))
    (hN : X.N[i]? = some y := by rfl) (hv : Vis X.env.scope y := by first | exact Or.inl rfl | exact Or.inr (Or.inl rfl) | exact Or.inr (Or.inr rfl)) (hd : (y == ("__debug__" : Str)) = false := by decide) (hcd : (y == ("__classdict__" : Str)) = false := by decide)
    (hg : Gl X "isinstance" := by rfl) (hgT : Gl X T := by rfl) (hdT : (T == ("__debug__" : Str)) = false := by decide)
    (hs : starEach [.Name y p1, .Name T p2] X.env = (false, eval (.Name y p1) X.env) :: starEach [.Name T p2] X.env := by rfl) (hs2 : starEach [.Name T p2] X.env = (false, eval (.Name T p2) X.env) :: starEach [] X.env := by rfl)
    (hpl : (backTo pos (starEach [.Name T p2] X.env)).any (·.1) = false := by rfl) : WE Z X (.Call (.Name "isinstance" p) [.Name y p1, .Name T p2] [] pos) env P :=
  we_of (pe_callB (call_isX C) hg hm rfl (pa_cons (pe_var (i := i) hN hv hd hcd) (pa_cons (pe_glob (v := .ref D) hgT hmT rfl hdT) pa_nil hs2) hs) (by decide) (by decide) hs hpl) fun σ H F O b o => by
    obtain ⟨hw, d, hF, xa⟩ := exc_at b o he
    exact ⟨_, hw, .ref D, .ref D, k, d, rfl, fun u r => r, hk, b.sub _ _ hF, xa.dict b.sub, post_val b o (.bl _) h⟩
/-- y.f, y an exception -/
theorem w_excF (i : Nat) {f : Str} {dv : D} (C : XfC X.K ex.C) (hno : PySem.W.findIn X.K (.ref ex.C) f = some none) (he : env[i]? = some (some (excT a ex))) (hf : ex.fs.lookup f = some dv) (h : P (.t (.va dv)) env)
    (hN : X.N[i]? = some y := by rfl) (hv : Vis X.env.scope y := by first | exact Or.inl rfl | exact Or.inr (Or.inl rfl) | exact Or.inr (Or.inr rfl)) (hd : (y == ("__debug__" : Str)) = false := by decide) (hcd : (y == ("__classdict__" : Str)) = false := by decide)
    (hb : attributeBase (.Name y p1) f X.env (eval (.Name y p1) X.env) = eval (.Name y p1) X.env := by rfl) : WE Z X (.Attribute (.Name y p1) f apos) env P := by
  intro pins s σ H F O I b o
  obtain ⟨hw, d, hF, xa⟩ := exc_at b o he
  refine attr_of hb (thn ((pe_var (pos := p1) (i := i) hN hv hd hcd).run pins s σ H (fun v H1 => v = .ref a ∧ H1 = H) I ⟨_, hw, rfl, rfl⟩) fun u s1 ⟨v, H1, I1, r1, q1⟩ => ?_)
  obtain ⟨ev, eH⟩ := q1
  subst ev
  rw [eH] at I1
  obtain rfl : u = Value.ref a := r1
  obtain ⟨_, h0 | ⟨dd, vfs, rfl, hdd, rf⟩⟩ := xa
  · rw [h0.2] at hf; cases hf
  obtain ⟨⟨oe, vs, hget, hz, hv2⟩, _, _⟩ := I1.hok a _ (b.sub _ _ hF)
  have hx : ObjOk X.prog X.w H s1.heap dd (.xd vfs) := I1.hok dd _ (b.sub _ _ hdd)
  obtain ⟨mA, hns, hr⟩ := hx
  obtain ⟨od, ho, hl⟩ := lookIn_ns hns
  have find : ∀ {vfs : List (Str × V)} {ds : List (Str × D)}, RpF F vfs ds → ds.lookup f = some dv → ∃ v, vfs.lookup f = some v ∧ Rp F v dv := fun {vfs ds} r => by
    induction r with
    | nil => intro z; cases z
    | @cons n v d vs ds h r ih =>
      intro z
      rw [List.lookup_cons] at z ⊢
      cases q : (f == n) with
      | true => rw [q] at z; cases z; exact ⟨v, rfl, h⟩
      | false => rw [q] at z; exact ih z
  obtain ⟨v, l, rv⟩ := find rf hf
  obtain ⟨u, hu, ru⟩ := RelO.some_of (v := v) (o := mA f) (by rw [← l]; exact hr f)
  have J : PySem.W.InstAt s1.heap a oe ex.C (some od) := ⟨hget, hz.1, by unfold PySem.W.notCls; rw [hv2] <;> rfl, by rw [hz.2]; exact ho⟩
  exact HandSPX.exc_get I1.kIn J C.ga C.gg C.exC (PySem.W.findObj_own C.hdC hno rfl (by rw [hl, hu])) (handed_of ru) ⟨v, H, I1.tok _, ru, post_val b o rv h⟩
/-- y is None, y an exception -/
theorem w_excIsN (i : Nat) {kc : Nat} (he : env[i]? = some (some (excT a ex))) (h : P (.t (.va (.bool false))) env)
    (hN : X.N[i]? = some y := by rfl) (hv : Vis X.env.scope y := by first | exact Or.inl rfl | exact Or.inr (Or.inl rfl) | exact Or.inr (Or.inr rfl)) (hd : (y == ("__debug__" : Str)) = false := by decide) (hcd : (y == ("__classdict__" : Str)) = false := by decide)
    (hm : behindInMarks .Is (.Constant .none kc p2) = false := by first | exact nomark _ | rfl) : WE Z X (.Compare (.Name y p1) [.Is] [.Constant .none kc p2] pos) env P :=
  we_of (pe_cmpR op_isN (pe_var (i := i) hN hv hd hcd) pe_non hm) fun σ H F O b o => by
    obtain ⟨hw, d, hF, xa⟩ := exc_at b o he
    refine ⟨_, hw, rfl, ?_⟩
    exact post_val b o (.bl _) h
theorem vals_refs : ∀ {Ds : List Addr} {its : List Value}, Vals (Ds.map V.ref) its → its = Ds.map Value.ref
  | [], _, .nil => rfl
  | _ :: _, _, .cons r rr => by
    have e := vals_refs rr
    subst e
    cases r
    rfl
def rIsXT (K : PySem.W.Frag) (D a : Addr) (Ds : List Addr) : List V → Hp → VK → Prop := fun xs H Q => ∃ (tp : Addr) (b : Bool) (d : Option Addr), xs = [.ref a, .ref tp] ∧ H tp = some (.tup (Ds.map V.ref)) ∧ PySem.W.kitAny K (.ref D) (Ds.map Value.ref) = some b ∧ H a = some (ExK (.ref D) d a) ∧ (d = none ∨ ∃ dd fs, d = some dd ∧ H dd = some (.xd fs)) ∧ Q (.bl b) H
theorem call_isXT {X : Cx} {a D : Addr} {Ds : List Addr} (C : ExcC X.K D) : CallR X (.builtin "isinstance") (rIsXT X.K D a Ds) := by
  intro pins s σ H xs us Q I r h
  obtain ⟨tp, b, d, rfl, ht, e, ha, hd, q⟩ := h
  cases r with
  | cons rx rr =>
    cases rr with
    | cons rt rr =>
      cases rr
      cases rx
      cases rt
      obtain ⟨ox, od, J⟩ := inst_of I ha hd
      obtain ⟨_, its, rv, o, ho, hc, n, hdt⟩ := I.hok tp _ ht
      have ei := vals_refs rv
      subst ei
      obtain ⟨oc, odd, oda, osl⟩ := o
      dsimp only at hc hdt
      subst hc hdt
      exact PySem.W.kia_tup (kitx_excO C) I.kIn J ho e (fun z => nomatch z) fun tk => ⟨.bl b, H, I.kept (t' := tk) fun _ _ z => z, rfl, q⟩
/-- isinstance(y, (A, B, ..)), y an exception -/
theorem w_isET (i : Nat) {es : List Expr} {kt : Nat} {Ds : List Addr} {k : Bool} (C : ExcC X.K ex.C) (he : env[i]? = some (some (excT a ex))) (hes : PA X es fun σ H Q => Q (Ds.map V.ref) H) (hl : Ds.length ≤ sizeLine) (hk : PySem.W.kitAny X.K (.ref ex.C) (Ds.map Value.ref) = some k) (h : P (.t (.va (.bool k))) env) (hm : X.mg "isinstance" = none)
    (hN : X.N[i]? = some y := by rfl) (hv : Vis X.env.scope y := by first | exact Or.inl rfl | exact Or.inr (Or.inl rfl) | exact Or.inr (Or.inr rfl)) (hd : (y == ("__debug__" : Str)) = false := by decide) (hcd : (y == ("__classdict__" : Str)) = false := by decide)
    (hg : Gl X "isinstance" := by rfl)
    (hs : starEach [.Name y p1, .Tuple es kt p2] X.env = (false, eval (.Name y p1) X.env) :: starEach [.Tuple es kt p2] X.env := by rfl) (hs2 : starEach [.Tuple es kt p2] X.env = (false, eval (.Tuple es kt p2) X.env) :: starEach [] X.env := by rfl)
    (hpl : (backTo pos (starEach [.Tuple es kt p2] X.env)).any (·.1) = false := by rfl) : WE Z X (.Call (.Name "isinstance" p) [.Name y p1, .Tuple es kt p2] [] pos) env P :=
  we_of (pe_callB (call_isXT (Ds := Ds) C) hg hm rfl (pa_cons (pe_var (i := i) hN hv hd hcd) (pa_cons (pe_tup hes) pa_nil hs2) hs) (by decide) (by decide) hs hpl) fun σ H F O b o => by
    obtain ⟨hw, d, hF, xa⟩ := exc_at b o he
    refine ⟨_, hw, by rw [List.length_map]; exact hl, fun tp hp => ?_⟩
    have sm : Same H (upd H tp (.tup (Ds.map V.ref))) := same_new hp
    obtain ⟨b2, o2, fr2⟩ := b.grow o (Same.refl _) sm (b.sub.trans sm) fun _ z => .inl z
    exact ⟨tp, k, d, rfl, upd_same, hk, b2.sub _ _ hF, xa.dict b2.sub, (post_val b2 o2 (.bl _) h).from fr2⟩
end
end QL

/-! QLd: raise C(v), C a class of one's own whose __init__ calls B.__init__(self, '..') and sets one field. -/
namespace QL
open PySem PySem.Spec PySem.Calls PyProof.Rows L2
section
variable {X : Cx} {e : Expr} {es : List Expr} {ta : TA} {p1 p2 pos : Pos}
theorem pe_ownInit {x : Str} {B : Addr} {mc : Value} {pl : Sem Bool} (hg : Gl X x) (hm : X.mg x = some (.ref B)) (r : ClX.CRead X.K B mc) (hk : PySem.W.findCls X.K (.ref B) mc "__init__" = some (.val (.builtin "ValueError.__init__"))) (ha : PA X (e :: es) ta)
    (hc : eval (.Call (.Attribute (.Name x p1) "__init__" p2) (e :: es) [] pos) X.env = (do
      let ov ← eval (.Name x p1) X.env
      standAt p2.atName
      let (f, first) ← holding [ov] (getMethod ov "__init__" pl)
      callWith pos f first (backTo pos (starEach (e :: es) X.env)) (backToKw pos (keywordEach [] X.env))) := by rfl)
    (hdb : (x == ("__debug__" : Str)) = false := by decide) (he : starEach (e :: es) X.env = (false, eval e X.env) :: starEach es X.env := by rfl) (hpl : (backTo pos (starEach es X.env)).any (·.1) = false := by rfl) :
    PE X (.Call (.Attribute (.Name x p1) "__init__" p2) (e :: es) [] pos) (tVeI X.K ta) := by
  refine ⟨fun pins s σ H Q I h => ?_⟩
  refine PySem.W.methodCall_KW (ld_glob I hg hm ?_ hdb) hc
  refine PySem.W.method_cls I.kIn r.ga (PySem.W.cls_value I.kIn r.rd hk rfl ?_)
  show wpAny _ _ (callWith pos (Value.builtin "ValueError.__init__") [] (backTo pos (starEach (e :: es) X.env)) []) _ _ _
  refine PyProof.Rows.callWith_method1 (thn (ha.run pos pins _ σ H _ (I.tok _) h) fun us s1 ⟨vs, H1, I1, r1, a, C, ws, ev, hl, T, ea, q⟩ => ?_) he hpl
  subst ev
  cases r1 with
  | @cons _ u0 _ ur ra rw' =>
    obtain rfl : u0 = Value.ref a := ra
    have hlen : ur.length ≤ sizeLine := by
      rw [← Paired.length rw', sizeLine_eq]
      omega
    exact oinit_ok T I1 ea hlen fun s' J => ⟨.non, H1, J, rfl, q⟩
end
/-- what such an __init__ does: one field, with the value that it got -/
def spX (K : PySem.W.Frag) (C : Addr) (f : Str) : Sp := fun vs H Q E => ∃ (a : Addr) (v : V), vs = [.ref a, v] ∧ OexC K C ∧ H a = some (exo a C none) ∧ ∀ dx, H dx = none → dx ≠ a → Q .non (upd (upd H dx (exd dx [(f, v)])) a (exo a C (some dx)))
section
variable {Tq : List (Addr × Str)} {Z : Zb Tq} {X : Cx} {env : Env} {PO : Out → Prop} {ET : Ex → Env → Prop} {e : Expr} {p pos pos' : Pos}
/-- raise C(e) -/
theorem ws_raise1 {CX : CXT} {x f : Str} {C fI : Addr} {k : Nat} {fd : FuncData} {ps : List Str} (T : OexC X.K C) (iC : PySem.W.findIn X.K (.ref C) "__init__" = some (some (.ref fI))) (tI : PySem.W.typeIn X.K (.ref fI) = some (.type "function"))
    (F1 : FnOk X.prog X.w X.K X.mg X.base CX k fI fd ps (spX X.K C f)) (hr : Room (k + 1) X.A) (hb : L2.Binds X.K fd ps []) (hx : Passes CX X (fun _ _ _ => False)) (hm : X.mg x = some (.ref C)) (hc : X.calm = true) (tk : Takes X (wxOf Z ET))
    (h : WAs Z X [e] env fun as e1 => ∃ dv, as = [.va dv] ∧ ET ⟨C, [(f, dv)]⟩ e1) (hg : Gl X x := by rfl) (hdb : (x == ("__debug__" : Str)) = false := by decide)
    (he : starEach [e] X.env = (false, eval e X.env) :: starEach [] X.env := by rfl) (hpl : (backTo pos (starEach [] X.env)).any (·.1) = false := by rfl) : WS Z X (.Raise (some (.Call (.Name x p) [e] [] pos)) none pos') env PO :=
  ws_of (ps_raise hc tk (pmk_oex (ds := []) (dvs := []) T iC tI F1 hr hb .nil hx hg hm (pa_As (Z := Z)) hdb he hpl)) fun σ H F O b o => by
    refine ⟨env, F, O, _, b, o, h, fun vs H1 ⟨F1, O1, as, e1, b1, o1, st, fr, dv, eas, q⟩ => ?_⟩
    subst eas
    cases st with
    | @cons v vs _ _ s1 s2 =>
    cases s2
    have rv : Rp F1 v dv := s1
    refine ⟨by simp, fun a na => ⟨a, v, rfl, T, upd_same, fun dx ndx ne => ⟨rfl, dx, [(f, v)], upd_same, by rw [upd_ne ne, upd_same], by rwa [upd_ne ne] at ndx, ?_⟩⟩⟩
    have nd : H1 dx = none := by rwa [upd_ne ne] at ndx
    have eH : upd (del (upd (upd (upd H1 a (exo a C none)) dx (exd dx [(f, v)])) a (exo a C (some dx))) a) dx (.xd [(f, v)]) = upd H1 dx (.xd [(f, v)]) := by
      funext c
      by_cases z : c = dx
      · subst z; rw [upd_same, upd_same]
      · rw [upd_ne z, upd_ne z]
        by_cases z2 : c = a
        · subst z2; rw [del_same, na]
        · rw [del_ne z2, upd_ne z2, upd_ne z, upd_ne z2]
    rw [eH]
    have sF : Same F1 (upd F1 dx (.xd [(f, v)])) := same_new (b1.sub.free nd)
    have sH : Same H1 (upd H1 dx (.xd [(f, v)])) := same_new nd
    have sub : Same (upd F1 dx (.xd [(f, v)])) (upd H1 dx (.xd [(f, v)])) := fun c y z => by
      by_cases z2 : c = dx
      · subst z2; rw [upd_same] at z ⊢; exact z
      · rw [upd_ne z2] at z ⊢; exact b1.sub c y z
    obtain ⟨b2, o2, _⟩ := b1.grow o1 sF sH sub fun c z => by
      by_cases z2 : c = dx
      · subst z2; exact .inr nd
      · rw [upd_ne z2] at z; exact .inl z
    exact ⟨_, O1, e1, ⟨C, [(f, dv)]⟩, b2, o2, ⟨rfl, .inr ⟨dx, [(f, v)], rfl, upd_same, .cons (rv.mono sF) .nil⟩⟩, q⟩
end
/-! ### an error without fields -/
theorem mk_end00 {X : Cx} {pins : List (Addr × Obj)} {σ : L2.St} {H1 H2 : Hp} {hp hp2 h2 : Heap} {g1 g2 : Array GenState} {d1 d2 : Drawn} {t1 t2 : Nat} {os1 os2 : OsState} {a C : Addr} (I1 : Inv X pins σ H1 ⟨hp, g1, d1, t1, os1⟩)
    (ha : hp.objs.size ≤ a) (k : ∀ b o, hp.get? b = some o → hp2.get? b = some o) (un : Un (frs X.stack) [] (upd H1 a (exo a C none)) H2 hp2 h2) (hok : HOk X.prog X.w H2 h2) (ho : os2 = os1) (hb : AllBare g2)
    (ea : H2 a = some (exo a C none)) :
    ∃ (t0 : Addr) (G : Heap), Inv X pins σ (del H2 a) ⟨G, g2, d2, t2, os2⟩ ∧ (∀ b o, G.get? b = some o → h2.get? b = some o) ∧ G.get? a = none ∧
      h2.get? a = some ({ cls := .ref C, dict := none, data := .fields #[.ref t0, .none, .none, .none, .bool false, .none] } : Obj) ∧ (del H2 a) a = none := by
  obtain ⟨t0, hoe⟩ := exo_at hok ea
  have hn : H1 a = none := I1.hok.fresh ha
  obtain ⟨G, g1', g2'⟩ := restrict h2 fun b => decide (b ≠ a)
  have gk : ∀ b, b ≠ a → G.get? b = h2.get? b := fun b hb => g1' b (decide_eq_true hb)
  have ge : G.get? a = none := g2' a (by simp)
  have nha : ∀ {b : Addr} {o : Obj}, hp.get? b = some o → b ≠ a := fun {b o} z => Nat.ne_of_lt (Nat.lt_of_lt_of_le (Heap.lt_size z) ha)
  have up : ∀ {b : Addr}, b ≠ a → H1 b = none → upd H1 a (exo a C none) b = none := fun {b} hb n => by rw [upd_ne hb]; exact n
  have U : Un (frs X.stack) [] H1 (del H2 a) hp G := {
    keep := fun b o z n hf hx => by
      rw [gk b (nha z)]
      exact un.keep b o (k b o z) (up (nha z) n) hf hx
    slot := fun b o z n hf hx => by
      rw [gk b (nha z)]
      exact un.slot b o (k b o z) (up (nha z) n) hf hx
    free := fun b o z n hx => by
      rw [del_ne (nha z)]
      exact un.free b o (k b o z) (up (nha z) n) hx
    there := fun b o z hx => by
      rw [gk b (nha z)]
      exact un.there b o (k b o z) hx
    tups := fun b xs z => by
      rw [del_ne (ne_of_none z hn)]
      exact un.tups b xs (by rw [upd_ne (ne_of_none z hn)]; exact z)
    frzs := fun b o v z => by
      rw [del_ne (ne_of_none z hn)]
      exact un.frzs b o v (by rw [upd_ne (ne_of_none z hn)]; exact z)
    tbls := fun b ps z => by
      rw [del_ne (ne_of_none z hn)]
      exact un.tbls b ps (by rw [upd_ne (ne_of_none z hn)]; exact z) }
  have hok3 : HOk X.prog X.w (del H2 a) G := fun b o z => by
    have hba : b ≠ a := fun e => by
      rw [e, del_same] at z
      cases z
    rw [del_ne hba] at z
    have noa : ∀ {c : Addr}, H2 c = some (.own b) → c ≠ a := fun {c} hc => at_ne ea hc exo_own
    exact (hok b o z).stay (fun c v hc y => by
        have hca : c ≠ a := by
          rcases hc with hc | hc
          · rw [hc]
            exact hba
          · exact noa hc
        rw [gk c hca]
        exact y)
      (fun c hc => by rw [del_ne (noa hc)]; exact hc) (fun c xs hc => by rw [del_ne (at_ne ea hc exo_tup)]; exact hc)
  have J : Inv X pins σ (del H2 a) ⟨G, g2, d2, t2, os2⟩ := I1.call' (ch := []) ho U hok3 hb (fun b z => absurd z (by simp))
  refine ⟨t0, G, J, fun b o z => ?_, ge, hoe, del_same⟩
  by_cases hba : b = a
  · rw [hba, ge] at z
    cases z
  · exact (gk b hba).symm.trans z
/-- what an __init__ without fields does -/
def spX0 (K : PySem.W.Frag) (C : Addr) : Sp := fun vs H Q E => ∃ (a : Addr), vs = [.ref a] ∧ OexC K C ∧ H a = some (exo a C none) ∧ Q .non H
section
variable {X : Cx} {p pos : Pos}
theorem pmk_oex0 {CX : CXT} {x : Str} {C fI : Addr} {k : Nat} {fd : FuncData} {ps : List Str} (T : OexC X.K C) (iC : PySem.W.findIn X.K (.ref C) "__init__" = some (some (.ref fI))) (tI : PySem.W.typeIn X.K (.ref fI) = some (.type "function"))
    (F1 : FnOk X.prog X.w X.K X.mg X.base CX k fI fd ps (spX0 X.K C)) (hr : Room (k + 1) X.A) (hb : L2.Binds X.K fd ps []) (hx : Passes CX X (fun _ _ _ => False)) (hg : Gl X x) (hm : X.mg x = some (.ref C))
    (hdb : (x == ("__debug__" : Str)) = false := by decide) :
    PMk X (.Call (.Name x p) [] [] pos) (fun σ H Q => Q (.ref C) none H) := by
  intro pins s σ H Q I h
  obtain ⟨nm, q, N, bs, bm, sn, sub, ab, col, dd, k0, k1, k2, k3, k5, hC, hbm⟩ := T.cls
  refine wpAny_Call_Name_kw (ld_glob I hg hm ?_ hdb)
  refine PySem.W.callWith_K0 I.kIn T.kC ?_
  show wpAny _ _ (call (.ref C) []) _ _ _
  obtain ⟨hp, g, dr, tk, os⟩ := s
  have hsz : hp.objs.size ≤ hp.objs.size + 1 := Nat.le_succ _
  have hn : H (hp.objs.size + 1) = none := I.hok.fresh hsz
  have kk : ∀ b o, hp.get? b = some o → ((hp.push (PySem.W.kdv_tup [])).push (PySem.HandSPX.excO C hp.objs.size)).get? b = some o := fun b o e => Heap.get?_push_of_some _ (Heap.get?_push_of_some _ e)
  have hget : ((hp.push (PySem.W.kdv_tup [])).push (PySem.HandSPX.excO C hp.objs.size)).get? (hp.objs.size + 1) = some (PySem.HandSPX.excO C hp.objs.size) := by heap_get
  have I2 : Inv X pins σ (upd H (hp.objs.size + 1) (exo (hp.objs.size + 1) C none)) ⟨(hp.push (PySem.W.kdv_tup [])).push (PySem.HandSPX.excO C hp.objs.size), g, dr, tk, os⟩ :=
    I.laid (t' := tk) (a := hp.objs.size + 1) (o := exo (hp.objs.size + 1) C none) (h' := (hp.push (PySem.W.kdv_tup [])).push (PySem.HandSPX.excO C hp.objs.size)) kk hsz (exo_ok hget)
  have r2 : Vals [V.ref (hp.objs.size + 1)] [Value.ref (hp.objs.size + 1)] := .cons rfl .nil
  have hq : spX0 X.K C [V.ref (hp.objs.size + 1)] (upd H (hp.objs.size + 1) (exo (hp.objs.size + 1) C none)) (fun v H2 => v = .non ∧ H2 = upd H (hp.objs.size + 1) (exo (hp.objs.size + 1) C none)) (fun _ _ _ => False) := ⟨_, rfl, T, upd_same, rfl, rfl⟩
  have hl : ([Value.ref (hp.objs.size + 1)] : List Value).length = ps.length := by
    have e := F1.len _ _ _ _ hq
    exact e
  refine wpAny_call (PySem.HandSPX.call_own F.excBase_ValueError (fun Y => PySem.HandSPX.refsVE_contains Y bm hbm) (I.kIn _ _ hC) (PySem.W.looks_findIn I.kIn iC) (fun self => PySem.W.bind_fn I.kIn self tI) (Nat.zero_le _)
    (codeAny_mono (F1.run _ X.stack _ _ ⟨[Value.ref (hp.objs.size + 1)], []⟩ [Value.ref (hp.objs.size + 1)] _ _ (fun _ _ _ => False) (hr.make C [] []) (I2.env0.make C [] []) (by have := hb ⟨(hp.push (PySem.W.kdv_tup [])).push (PySem.HandSPX.excO C hp.objs.size), g, dr, tk, os⟩ [Value.ref (hp.objs.size + 1)] I2.kIn (by simpa using hl); rwa [List.append_nil] at this) r2 hq) fun r s' hq' => ?_))
  cases r with
  | error er => exact hx pins σ _ _ er s' I2 hq'
  | ok fl =>
    cases fl with
    | ret u =>
      obtain ⟨v, H2, os2, bare2, un2, hok2, rv, ev, eH⟩ := hq'
      subst ev
      obtain ⟨h2, g2, d2, t2, os'⟩ := s'
      have ea : H2 (hp.objs.size + 1) = some (exo (hp.objs.size + 1) C none) := by rw [eH]; exact upd_same
      have eD : del H2 (hp.objs.size + 1) = H := by
        rw [eH]
        funext c
        by_cases z : c = hp.objs.size + 1
        · rw [z, del_same, hn]
        · rw [del_ne z, upd_ne z]
      obtain ⟨t0, G, J, kG, ge, hoe, na⟩ := mk_end00 (d2 := d2) (t2 := t2) I hsz kk un2 hok2 os2 bare2 ea
      rw [eD] at J na
      exact ⟨rv, _, _, _, ⟨G, g2, d2, t2, os'⟩, _, .ref C, none, rfl, J, kG, ge, hoe, ⟨rfl, rfl⟩, rfl, rfl, na, rfl, bare2, raises_own T.exC T.tyC, h⟩
    | next => exact False.elim hq'
    | brk => exact False.elim hq'
    | cont => exact False.elim hq'
end
section
variable {Tq : List (Addr × Str)} {Z : Zb Tq} {X : Cx} {env : Env} {PO : Out → Prop} {ET : Ex → Env → Prop} {p pos pos' : Pos}
/-- raise C() -/
theorem ws_raise0 {CX : CXT} {x : Str} {C fI : Addr} {k : Nat} {fd : FuncData} {ps : List Str} (T : OexC X.K C) (iC : PySem.W.findIn X.K (.ref C) "__init__" = some (some (.ref fI))) (tI : PySem.W.typeIn X.K (.ref fI) = some (.type "function"))
    (F1 : FnOk X.prog X.w X.K X.mg X.base CX k fI fd ps (spX0 X.K C)) (hr : Room (k + 1) X.A) (hb : L2.Binds X.K fd ps []) (hx : Passes CX X (fun _ _ _ => False)) (hm : X.mg x = some (.ref C)) (hc : X.calm = true) (tk : Takes X (wxOf Z ET))
    (h : ET ⟨C, []⟩ env) (hg : Gl X x := by rfl) (hdb : (x == ("__debug__" : Str)) = false := by decide) : WS Z X (.Raise (some (.Call (.Name x p) [] [] pos)) none pos') env PO :=
  ws_of (ps_raise hc tk (pmk_oex0 T iC tI F1 hr hb hx hg hm hdb)) fun σ H F O b o => ⟨F, O, env, ⟨C, []⟩, b, o, ⟨rfl, .inl ⟨rfl, rfl⟩⟩, h⟩
end
end QL

/-! QLe: calls whose errors pass on; makers of lambdas; errors that a module makes. -/
namespace QL
open PySem PySem.Spec PySem.Calls PyProof.Rows L2
section
variable {Tq : List (Addr × Str)} {Z : Zb Tq} {X : Cx} {e : Expr} {es : List Expr} {env : Env} {pos p : Pos} {P : R → Env → Prop} {k : Nat} {x : Str} {ps ks : List Str} {ns : List Nat} {sp : Spc} {kws : List Keyword} {ET : Ex → Env → Prop}
theorem w_fnX (G : Df X.prog X.w X.K X.mg X.base Tq k x ps sp) (hr : Room k X.A) (hgd : X.A.guards = some []) (tk : Takes X (wxOf Z ET)) (h : WAs Z X (e :: es) env fun as e1 => callD sp as e1 (fun t e => P (.t t) e) ET)
    (hg : Gl X x := by rfl) (hdb : (x == ("__debug__" : Str)) = false := by decide) (he : starEach (e :: es) X.env = (false, eval e X.env) :: starEach es X.env := by rfl) (hpl : (backTo pos (starEach es X.env)).any (·.1) = false := by rfl) :
    WE Z X (.Call (.Name x p) (e :: es) [] pos) env P := by
  obtain ⟨f, fd, g, hm, hk, hb⟩ := G.ex
  refine w_call (dds := []) (vds := []) g hr hgd tk hm hk hb .nil (fun _ => .nil) ?_ hg hdb he hpl
  simpa only [vaAll, List.map_nil, List.append_nil] using h
theorem w_fnKX (G : Dk X.prog X.w X.K X.mg X.base Tq k x ps ks ns sp) (hr : Room k X.A) (hgd : X.A.guards = some []) (tk : Takes X (wxOf Z ET)) (h : WKs Z X kws env fun as e1 => as.length = ks.length ∧ callD sp (pick ns as) e1 (fun t e => P (.t t) e) ET)
    (hks : (backToKw pos (keywordEach kws X.env)).filterMap (·.1) = ks := by rfl) (hall : (backToKw pos (keywordEach kws X.env)).all (·.1.isSome) = true := by rfl)
    (hg : Gl X x := by rfl) (hdb : (x == ("__debug__" : Str)) = false := by decide) (hpl : ((backTo pos (starEach [] X.env)).any (·.1) || (backToKw pos (keywordEach kws X.env)).any (·.1.isNone)) = false := by rfl) :
    WE Z X (.Call (.Name x p) [] kws pos) env P := by
  obtain ⟨f, fd, g, hm, hk, hb⟩ := G.ex
  exact w_callK g hr hgd tk hm hk hb h hks hall hg hdb hpl
end
/-! ### errors that a module makes -/
/-- an error class with one field f -/
structure Rz (P : Program) (w : World) (K : PySem.W.Frag) (mg : Str → Option Value) (base : Heap) (k : Nat) (x : Str) (C : Addr) (f : Str) : Prop where
  ex : ∃ (fI : Addr) (fd : FuncData) (ps : List Str), OexC K C ∧ PySem.W.findIn K (.ref C) "__init__" = some (some (.ref fI)) ∧ PySem.W.typeIn K (.ref fI) = some (.type "function") ∧ FnOk P w K mg base (L2.CX P w) k fI fd ps (spX K C f) ∧ L2.Binds K fd ps [] ∧ mg x = some (.ref C)
theorem Rz.mono {P : Program} {w : World} {K : PySem.W.Frag} {mg : Str → Option Value} {base : Heap} {j k : Nat} {x : Str} {C : Addr} {f : Str} (R : Rz P w K mg base j x C f) (h : j ≤ k) : Rz P w K mg base k x C f :=
  let ⟨fI, fd, ps, a, b, c, d, e⟩ := R.ex; ⟨fI, fd, ps, a, b, c, d.mono h, e⟩
/-- an error class without fields -/
structure Rz0 (P : Program) (w : World) (K : PySem.W.Frag) (mg : Str → Option Value) (base : Heap) (k : Nat) (x : Str) (C : Addr) : Prop where
  ex : ∃ (fI : Addr) (fd : FuncData) (ps : List Str), OexC K C ∧ PySem.W.findIn K (.ref C) "__init__" = some (some (.ref fI)) ∧ PySem.W.typeIn K (.ref fI) = some (.type "function") ∧ FnOk P w K mg base (L2.CX P w) k fI fd ps (spX0 K C) ∧ L2.Binds K fd ps [] ∧ mg x = some (.ref C)
theorem Rz0.mono {P : Program} {w : World} {K : PySem.W.Frag} {mg : Str → Option Value} {base : Heap} {j k : Nat} {x : Str} {C : Addr} (R : Rz0 P w K mg base j x C) (h : j ≤ k) : Rz0 P w K mg base k x C :=
  let ⟨fI, fd, ps, a, b, c, d, e⟩ := R.ex; ⟨fI, fd, ps, a, b, c, d.mono h, e⟩
section
variable {Tq : List (Addr × Str)} {Z : Zb Tq} {X : Cx} {env : Env} {PO : Out → Prop} {ET : Ex → Env → Prop} {e : Expr} {p pos pos' : Pos}
theorem ws_raiseR0 {x : Str} {C : Addr} {k : Nat} (R : Rz0 X.prog X.w X.K X.mg X.base k x C) (hr : Room (k + 1) X.A) (tk : Takes X (wxOf Z ET))
    (h : ET ⟨C, []⟩ env) (hc : X.calm = true := by rfl) (hg : Gl X x := by rfl) (hdb : (x == ("__debug__" : Str)) = false := by decide) : WS Z X (.Raise (some (.Call (.Name x p) [] [] pos)) none pos') env PO := by
  obtain ⟨fI, fd, ps, T, iC, tI, F1, hb, hm⟩ := R.ex
  exact ws_raise0 T iC tI F1 hr hb (L2.passes_call (W := wxOf Z fun _ _ => False) takes_no fun _ _ _ _ z => z.elim) hm hc tk h hg hdb
theorem ws_raiseR {x f : Str} {C : Addr} {k : Nat} (R : Rz X.prog X.w X.K X.mg X.base k x C f) (hr : Room (k + 1) X.A) (tk : Takes X (wxOf Z ET))
    (h : WAs Z X [e] env fun as e1 => ∃ dv, as = [.va dv] ∧ ET ⟨C, [(f, dv)]⟩ e1) (hc : X.calm = true := by rfl) (hg : Gl X x := by rfl) (hdb : (x == ("__debug__" : Str)) = false := by decide)
    (he : starEach [e] X.env = (false, eval e X.env) :: starEach [] X.env := by rfl) (hpl : (backTo pos (starEach [] X.env)).any (·.1) = false := by rfl) : WS Z X (.Raise (some (.Call (.Name x p) [e] [] pos)) none pos') env PO := by
  obtain ⟨fI, fd, ps, T, iC, tI, F1, hb, hm⟩ := R.ex
  exact ws_raise1 T iC tI F1 hr hb (L2.passes_call (W := wxOf Z fun _ _ => False) takes_no fun _ _ _ _ z => z.elim) hm hc tk h hg hdb he hpl
end
/-- what is asked of an error's class by a suite that looks at it -/
def erB (K : PySem.W.Frag) (C : Addr) : Bool := decide (PySem.W.findIn K (.ref C) "__getattribute__" = some (some (.builtin "BaseException.__getattribute__"))) && decide (PySem.W.findIn K (.ref C) "__getattr__" = some none) && decide (PySem.W.subIn K (.ref C) (.type "BaseException") = some true) &&
  PySem.W.hasDictIn K C && decide (PySem.W.findIn K (.ref C) "__class__" = some (some (.builtin "object.__class__"))) && decide (PySem.W.specialIn K (.builtin "object.__class__") "__get__" = some (some (.builtin "getset_descriptor.__get__"))) && decide (PySem.W.takesIn K (.builtin "object.__class__") = some true) && decide (PySem.W.mroIn K C (.type "object") = some true)
theorem erB_ok {K : PySem.W.Frag} {C : Addr} (h : erB K C = true) : ExcC K C ∧ XfC K C := by
  unfold erB at h
  simp only [Bool.and_eq_true, decide_eq_true_eq] at h
  obtain ⟨⟨⟨⟨⟨⟨⟨h1, h2⟩, h3⟩, h4⟩, h5⟩, h6⟩, h7⟩, h8⟩ := h
  exact ⟨⟨h1, h2, h3, h4, h5, h6, h7, h8⟩, ⟨h1, h2, h3, h4⟩⟩
section
variable {Tq : List (Addr × Str)} {Z : Zb Tq} {X : Cx} {env : Env} {P : R → Env → Prop} {pos p p1 p2 apos : Pos} {y : Str} {a : Addr} {ex : Ex}
/-- y is None as a test, y an exception -/
theorem wt_excIsN {PT : Bool → Env → Prop} (i : Nat) {kc : Nat} (he : env[i]? = some (some (excT a ex))) (h : PT false env)
    (hN : X.N[i]? = some y := by rfl) (hv : Vis X.env.scope y := by first | exact Or.inl rfl | exact Or.inr (Or.inl rfl) | exact Or.inr (Or.inr rfl)) (hd : (y == ("__debug__" : Str)) = false := by decide) (hcd : (y == ("__classdict__" : Str)) = false := by decide)
    (hm : behindInMarks .Is (.Constant .none kc p2) = false := by first | exact nomark _ | rfl) : WT Z X (.Compare (.Name y p1) [.Is] [.Constant .none kc p2] pos) env PT :=
  wt_of (pt_cmpR op_isN (pe_var (i := i) hN hv hd hcd) pe_non hm) fun σ H F O b o => by
    obtain ⟨hw, d, hF, xa⟩ := exc_at b o he
    exact ⟨_, hw, rfl, false, rfl, F, O, env, b, o, Frm.refl _ _ _, h⟩
/-- isinstance(y, T), y an exception, T a class that is built in -/
theorem w_isEB (i : Nat) {T : Str} {t : String} {k : Bool} (C : ExcC X.K ex.C) (he : env[i]? = some (some (excT a ex))) (hk : PySem.W.kitOne X.K (.ref ex.C) (.type t) = some k) (h : P (.t (.va (.bool k))) env) (hm : X.mg "isinstance" = none) (hmT : X.mg T = none) (hvT : bootBuiltins T = some (.type t))
    (hN : X.N[i]? = some y := by rfl) (hv : Vis X.env.scope y := by first | exact Or.inl rfl | exact Or.inr (Or.inl rfl) | exact Or.inr (Or.inr rfl)) (hd : (y == ("__debug__" : Str)) = false := by decide) (hcd : (y == ("__classdict__" : Str)) = false := by decide)
    (hg : Gl X "isinstance" := by rfl) (hgT : Gl X T := by rfl) (hn : T ≠ "__name__" := by decide) (hdT : (T == ("__debug__" : Str)) = false := by decide)
    (hs : starEach [.Name y p1, .Name T p2] X.env = (false, eval (.Name y p1) X.env) :: starEach [.Name T p2] X.env := by rfl) (hs2 : starEach [.Name T p2] X.env = (false, eval (.Name T p2) X.env) :: starEach [] X.env := by rfl)
    (hpl : (backTo pos (starEach [.Name T p2] X.env)).any (·.1) = false := by rfl) : WE Z X (.Call (.Name "isinstance" p) [.Name y p1, .Name T p2] [] pos) env P :=
  we_of (pe_callB (call_isX C) hg hm rfl (pa_cons (pe_var (i := i) hN hv hd hcd) (pa_cons (pe_bltn (v := .ty t) hgT hmT hvT rfl hn hdT) pa_nil hs2) hs) (by decide) (by decide) hs hpl) fun σ H F O b o => by
    obtain ⟨hw, d, hF, xa⟩ := exc_at b o he
    exact ⟨_, hw, .ty t, .type t, k, d, rfl, fun u r => r, hk, b.sub _ _ hF, xa.dict b.sub, post_val b o (.bl _) h⟩
end
/-! ### makers of lambdas -/
theorem fn_gC {P : Program} {w : World} {K : PySem.W.Frag} {mg : Str → Option Value} {base : Heap} {Tq : List (Addr × Str)} {x qual : Str} {st : Stmt} {f c : Addr} {fd : FuncData} {N ps : List Str} {k : Nat} {sp : Spc} (Fn : Fun K x qual st f fd) (hc : fd.code = .ref c) (S : FnScope N ps (defScope st)) (len : ∀ ts Q E, sp ts Q E → ts.length = ps.length)
    (hbody : ∀ (A : Around) (outer : List PySem.Env) (s : Shared) (H : Hp) (E : XK) (Z : Zb Tq) (ts : List T) (QT : T → List (Option T) → Prop) (ET : Ex → List (Option T) → Prop), Room k (BX P w K mg base N qual st f (.ref c) A outer s H E).A → (BX P w K mg base N qual st f (.ref c) A outer s H E).A.guards = some [] →
      PassesOwn (model P w) (BX P w K mg base N qual st f (.ref c) A outer s H E).A (BX P w K mg base N qual st f (.ref c) A outer s H E).env (BX P w K mg base N qual st f (.ref c) A outer s H E).xe →
      Takes (BX P w K mg base N qual st f (.ref c) A outer s H E) (wxOf Z fun ex e => back ts e (ET ex)) → sp ts QT ET → WSs Z (BX P w K mg base N qual st f (.ref c) A outer s H E) (defBody st) (startE N ts) (finP QT ts)) : FnG P w K mg base Tq (k + 1) f fd ps sp := by
  obtain ⟨oc, od, kV, doc, pm, an, cdv, ct, osl, rfl, lk, hcd⟩ := Fn.ex
  obtain rfl : cdv = .ref c := hc
  refine ⟨len, fun A outer s H args us vs F O ts QT ET E tbs hr hg e0 hb r b sv hsp hE => ?_⟩
  have hl : vs.length = ps.length := sv.len.trans (len _ _ _ hsp)
  refine Att.call_fn (e0.mod.kin.keeps fun b o e => (e0.bs b o e).1) (e0.mod.nolimit.keeps fun b o e => (e0.bs b o e).1) lk hcd hr.depth hb ?_ (fun s1 ic => ?_) S.co S.gen S.kind
  · refine List.all_eq_true.mpr fun y hy => ?_
    rcases S.par y.1 (List.of_mem_zip hy).1 with q | q <;> rw [q] <;> rfl
  · have I : Inv (BX P w K mg base N qual st f (.ref c) A outer s H E) [] (L2.start N vs) H s1 := inv_start S hr.hd e0 hl r ic
    have tk : Takes (BX P w K mg base N qual st f (.ref c) A outer s H E) (wxOf ⟨H, F, O, tbs⟩ fun ex e => back ts e (ET ex)) := by
      refine (takes_of (X := BX P w K mg base N qual st f (.ref c) A outer s H E) (E := E) rfl rfl rfl rfl).imp fun cls d σ H' ⟨F', O', env, ex, b', o', xa, q⟩ => ?_
      obtain ⟨O1, Od, ts', p1, s1, q⟩ := back_ok sv o' q
      exact hE ex _ cls d H' F' O1 (b'.perm p1).left s1 xa q
    have hgd : (BX P w K mg base N qual st f (.ref c) A outer s H E).A.guards = some [] := hg
    have body := hbody A outer s H E ⟨H, F, O, tbs⟩ ts QT ET (hr.deeper _) hgd (passes_of (X := BX P w K mg base N qual st f (.ref c) A outer s H E) rfl) tk hsp
    have o0 : OwE F H O (L2.start N vs) (startE N ts) := by
      unfold L2.start startE
      rw [sv.len]
      exact sv.start (N := N) _
    refine wpAny_mono (body [] s1 (L2.start N vs) H F O I b o0) (fun fl s' hs => ?_) fun e s' hs => hs
    have fin : ∀ {σ' : L2.St} {H' F' : Hp} {O1 O2 : List Addr} {t : T} {e : Env} {v : V} {u : Value}, Inv (BX P w K mg base N qual st f (.ref c) A outer s H E) [] σ' H' s' → RelV v u → Bas ⟨H, F, O, tbs⟩ F' H' (O1 ++ O2) → (∃ σ'', OwE F' H' O1 σ'' e) → Ow F' H' O2 v t → back ts e (QT t) →
        CE outer P w H s (fun v H' => ∃ F' O1 O2 t ts', Bas ⟨H, F, O, tbs⟩ F' H' (O1 ++ O2) ∧ StVO F' H' O1 vs ts' ∧ Ow F' H' O2 v t ∧ QT t ts') u s' := fun {σ' H' F' O1 O2 t e v u} J rv b' ⟨σ'', o'⟩ w' q => by
      obtain ⟨O3, Od, ts', p3, s3, q⟩ := back_ok sv o' q
      refine ⟨v, H', J.os, J.bare, J.base, J.hok, rv, F', O3, O2, t, _, ?_, s3, w', q⟩
      have p4 : (O1 ++ O2).Perm ((O3 ++ O2) ++ Od) := (p3.append_right O2).trans (by
        rw [List.append_assoc, List.append_assoc]
        exact List.perm_append_comm.append_left O3)
      exact (b'.perm p4).left
    cases fl with
    | ret u =>
      obtain ⟨v, σ', H', J, rv, F', O1, O2, σ'', t, e, b', o', w', _, q⟩ := hs
      exact fin J rv b' ⟨σ'', o'⟩ w' q
    | next =>
      obtain ⟨σ', H', J, F', O1, e, b', o', _, q⟩ := hs
      exact fin (v := V.non) (u := Value.none) (t := .va .none) (O2 := []) J rfl (by rw [List.append_nil]; exact b') ⟨_, o'⟩ (.va .non) q
    | brk =>
      obtain ⟨_, _, _, _, _, _, _, _, _, q⟩ := hs
      exact q.elim
    | cont =>
      obtain ⟨_, _, _, _, _, _, _, _, _, q⟩ := hs
      exact q.elim
/-- a def with defaults -/
structure FunV (K : PySem.W.Frag) (x qual : Str) (st : Stmt) (f : Addr) (fd : FuncData) : Prop where
  ex : ∃ (oc : Value) (od : Option Addr) (dV kV doc pm : Value) (an : Option Addr) (cdv ct : Value) (osl : Array (Option Value)),
    fd = PySem.W.fnOf x qual (defArgs st) (defBody st) (defScope st) dV kV doc pm an cdv ct ∧ K.lookup f = some ⟨oc, od, .func fd, osl⟩ ∧ PySem.W.codeIn K cdv qual = true
theorem fn_gV {P : Program} {w : World} {K : PySem.W.Frag} {mg : Str → Option Value} {base : Heap} {Tq : List (Addr × Str)} {x qual : Str} {st : Stmt} {f : Addr} {fd : FuncData} {N ps : List Str} {k : Nat} {sp : Spc} (Fn : FunV K x qual st f fd) (S : FnScope N ps (defScope st)) (len : ∀ ts Q E, sp ts Q E → ts.length = ps.length)
    (hbody : ∀ (cdv : Value) (A : Around) (outer : List PySem.Env) (s : Shared) (H : Hp) (E : XK) (Z : Zb Tq) (ts : List T) (QT : T → List (Option T) → Prop) (ET : Ex → List (Option T) → Prop), Room k (BX P w K mg base N qual st f cdv A outer s H E).A → (BX P w K mg base N qual st f cdv A outer s H E).A.guards = some [] →
      PassesOwn (model P w) (BX P w K mg base N qual st f cdv A outer s H E).A (BX P w K mg base N qual st f cdv A outer s H E).env (BX P w K mg base N qual st f cdv A outer s H E).xe →
      Takes (BX P w K mg base N qual st f cdv A outer s H E) (wxOf Z fun ex e => back ts e (ET ex)) → sp ts QT ET → WSs Z (BX P w K mg base N qual st f cdv A outer s H E) (defBody st) (startE N ts) (finP QT ts)) : FnG P w K mg base Tq (k + 1) f fd ps sp := by
  obtain ⟨oc, od, dV, kV, doc, pm, an, cdv, ct, osl, rfl, lk, hcd⟩ := Fn.ex
  refine ⟨len, fun A outer s H args us vs F O ts QT ET E tbs hr hg e0 hb r b sv hsp hE => ?_⟩
  have hl : vs.length = ps.length := sv.len.trans (len _ _ _ hsp)
  refine Att.call_fn (e0.mod.kin.keeps fun b o e => (e0.bs b o e).1) (e0.mod.nolimit.keeps fun b o e => (e0.bs b o e).1) lk hcd hr.depth hb ?_ (fun s1 ic => ?_) S.co S.gen S.kind
  · refine List.all_eq_true.mpr fun y hy => ?_
    rcases S.par y.1 (List.of_mem_zip hy).1 with q | q <;> rw [q] <;> rfl
  · have I : Inv (BX P w K mg base N qual st f cdv A outer s H E) [] (L2.start N vs) H s1 := inv_start S hr.hd e0 hl r ic
    have tk : Takes (BX P w K mg base N qual st f cdv A outer s H E) (wxOf ⟨H, F, O, tbs⟩ fun ex e => back ts e (ET ex)) := by
      refine (takes_of (X := BX P w K mg base N qual st f cdv A outer s H E) (E := E) rfl rfl rfl rfl).imp fun cls d σ H' ⟨F', O', env, ex, b', o', xa, q⟩ => ?_
      obtain ⟨O1, Od, ts', p1, s1, q⟩ := back_ok sv o' q
      exact hE ex _ cls d H' F' O1 (b'.perm p1).left s1 xa q
    have hgd : (BX P w K mg base N qual st f cdv A outer s H E).A.guards = some [] := hg
    have body := hbody cdv A outer s H E ⟨H, F, O, tbs⟩ ts QT ET (hr.deeper _) hgd (passes_of (X := BX P w K mg base N qual st f cdv A outer s H E) rfl) tk hsp
    have o0 : OwE F H O (L2.start N vs) (startE N ts) := by
      unfold L2.start startE
      rw [sv.len]
      exact sv.start (N := N) _
    refine wpAny_mono (body [] s1 (L2.start N vs) H F O I b o0) (fun fl s' hs => ?_) fun e s' hs => hs
    have fin : ∀ {σ' : L2.St} {H' F' : Hp} {O1 O2 : List Addr} {t : T} {e : Env} {v : V} {u : Value}, Inv (BX P w K mg base N qual st f cdv A outer s H E) [] σ' H' s' → RelV v u → Bas ⟨H, F, O, tbs⟩ F' H' (O1 ++ O2) → (∃ σ'', OwE F' H' O1 σ'' e) → Ow F' H' O2 v t → back ts e (QT t) →
        CE outer P w H s (fun v H' => ∃ F' O1 O2 t ts', Bas ⟨H, F, O, tbs⟩ F' H' (O1 ++ O2) ∧ StVO F' H' O1 vs ts' ∧ Ow F' H' O2 v t ∧ QT t ts') u s' := fun {σ' H' F' O1 O2 t e v u} J rv b' ⟨σ'', o'⟩ w' q => by
      obtain ⟨O3, Od, ts', p3, s3, q⟩ := back_ok sv o' q
      refine ⟨v, H', J.os, J.bare, J.base, J.hok, rv, F', O3, O2, t, _, ?_, s3, w', q⟩
      have p4 : (O1 ++ O2).Perm ((O3 ++ O2) ++ Od) := (p3.append_right O2).trans (by
        rw [List.append_assoc, List.append_assoc]
        exact List.perm_append_comm.append_left O3)
      exact (b'.perm p4).left
    cases fl with
    | ret u =>
      obtain ⟨v, σ', H', J, rv, F', O1, O2, σ'', t, e, b', o', w', _, q⟩ := hs
      exact fin J rv b' ⟨σ'', o'⟩ w' q
    | next =>
      obtain ⟨σ', H', J, F', O1, e, b', o', _, q⟩ := hs
      exact fin (v := V.non) (u := Value.none) (t := .va .none) (O2 := []) J rfl (by rw [List.append_nil]; exact b') ⟨_, o'⟩ (.va .non) q
    | brk =>
      obtain ⟨_, _, _, _, _, _, _, _, _, q⟩ := hs
      exact q.elim
    | cont =>
      obtain ⟨_, _, _, _, _, _, _, _, _, q⟩ := hs
      exact q.elim
theorem binds_dflt1 {K : PySem.W.Frag} {fd : FuncData} {ps : List Str} {T : Addr} {oT dv : Value} {dT : Option Addr} {nT : Nat} {sT : Array (Option Value)} (lT : K.lookup T = some ⟨oT, dT, .seq #[dv] nT, sT⟩)
    (h : ∀ us : List Value, us.length = ps.length → ∃ k, bindArgs fd ⟨us, []⟩ = seqItems? (.ref T) >>= k ∧ k (some #[dv]) = pure (ps.zip us)) : L2.Binds K fd ps [] := fun s us X hl => by
  rw [List.append_nil] at hl ⊢
  obtain ⟨k, e1, e2⟩ := h us hl
  exact BindsTo.of_looks fun M => by rw [e1]; exact looks_items X lT rfl (PySem.W.Looks.of_pure e2)
theorem GvL.mono {P : Program} {w : World} {K : PySem.W.Frag} {mg : Str → Option Value} {base : Heap} {Tq : List (Addr × Str)} {j k : Nat} {x a : Str} {tg : Tg} (G : GvL P w K mg base Tq j x a tg) (h : j ≤ k) : GvL P w K mg base Tq k x a tg := by
  obtain ⟨Ng, st, g, fd, Fn, hm, hk, hb, Sg, hNg, hva, hG⟩ := G.ex
  exact ⟨Ng, st, g, fd, Fn, hm, hk, hb, Sg, hNg, hva, fun cdg A outer s H Z lam LB e0 QT hr => hG cdg A outer s H Z lam LB e0 QT (hr.mono h)⟩
/-- the name of the lambdas that the def x makes -/
abbrev lamQ (x : Str) : Str := (x ++ ".<locals>.") ++ "<lambda>"
/-- the goal that k_head leaves, with tables, told by what the head says -/
theorem walk_gY {l : PySem.W.OpenLaw} {n k : Nat} {q : Program} {loose : List Str} {XP : (Str → Option Value) → Heap → Prop} {YP : World → Heap → Prop} {d : DefRec} {K : Params → PySem.W.Frag} {sp : World → Spc} {x : Str} {cs : Params → Cs}
    (hn : l.most = some n) (hn2 : n ≤ sizeLine) (hdf : d.params.defaults = []) (hr : Room k callerA) (hY : ∀ (w : World) (h : Heap), YP w h → (K w.params).In h)
    (hcs : ∀ (w : World) (h : Heap), YP w h → (K w.params).In h → CsAt (K w.params) h (cs w.params))
    (F : ∀ (w : World) (mg : Str → Option Value) (fa : Addr) (h : Heap), (K w.params).In h → h.Ns mainGlobals mg → mg d.name = some (.ref fa) →
      ∃ fd : FuncData, (∀ (s : Shared) (u : Value), BindsTo s fd ⟨[u], []⟩ [(x, u)]) ∧ ∀ base : Heap, (K w.params).In base → base.Ns mainGlobals mg → (∀ p ∈ cs w.params, LamX.TabB base mg p.1 p.2.1) → FnG l.prog w (K w.params) mg base (cs w.params).tq k fa fd [x] (sp w))
    (hsp : ∀ (w : World) (a : Addr) (ns : List Int), ns.length ≤ n → sp w [scT (K w.params) a ns] (fun t _ => t = .va (.bool true)) fun _ _ => False) :
    PySem.W.WalkO q loose XP YP l.row.toRowW d [] (fun f vs => PySem.call f vs) :=
  Att.attach_call hn hdf fun w s₀ s₁ mg mb fa o pm cd doc a vs ns G Y ho hd hcd hmg hobj hints hlen hg => by
    obtain ⟨fd, hb, hF⟩ := F w mg fa _ (hY w _ Y) G.T.g hmg
    have c := hcs w _ Y (hY w _ Y)
    exact law_goes (hY w _ Y) G.T.g G.T.b G.T.builtins G.T.nolimit hg c.hT c.nT c.C G.T.bmain hobj hints (Nat.le_trans hlen hn2) hr hF hb (hsp w a ns hlen)
/-! ### a lambda whose maker's names are env -/
/-- what is promised at env alone -/
abbrev LBa (env : Env) (R : (T → Env → Prop) → (Ex → Env → Prop) → Prop) : LamB := fun e Q E => e = env ∧ R Q E
section
variable {Tq : List (Addr × Str)} {Z : Zb Tq} {X : Cx} {env : Env} {P : R → Env → Prop}
theorem w_lamS {k : Nat} {x a : Str} {c Pt : Addr} {tg : Tg} (R : (T → Env → Prop) → (Ex → Env → Prop) → Prop) {params : Arguments} {body : Expr} {scope : Scope} {p lpos pos : Pos} (G : GvL X.prog X.w X.K X.mg X.base Tq (k + 1) x a tg)
    (TB : LamX.TabB X.base X.mg c Pt) (hcode : X.env.code = .ref c) (hmT : (Pt, X.env.qual ++ "<lambda>") ∈ Tq) (hu : ∀ p ∈ Tq, p.1 = Pt → p.2 = X.env.qual ++ "<lambda>") (hr : Room (k + 2) X.A) (hgd : X.A.guards = some [])
    (L : LamX.LamS X.env.scope scope)
    (hbody : ∀ (A : Around) (outer : List PySem.Env) (s : Shared) (H : Hp) (E : XK) (f c' : Addr) (Zl : Zb Tq) (Pl : QL.R → Env → Prop) (ET : Ex → Env → Prop), Room k (LamX.lamCx X A outer s H E scope f c').A → (LamX.lamCx X A outer s H E scope f c').A.guards = some [] →
      Takes (LamX.lamCx X A outer s H E scope f c') (wxOf Zl ET) → R (fun t e' => Pl (.t t) e') ET → WE Zl (LamX.lamCx X A outer s H E scope f c') body env Pl)
    (hD : ∀ Q E, R Q E → R Q fun ex e' => Dom env e' ∧ E ex e') (h : tg R fun t e => P (.t t) e) (hmo : ∀ (L1 L2 : (T → Env → Prop) → (Ex → Env → Prop) → Prop) Q, (∀ Q E, L1 Q E → L2 Q E) → tg L1 Q → tg L2 Q) (hdef : defaultsOf params X.env = ([], []) := by rfl)
    (hbind : ∀ (q : Str) (cl : List (Str × Addr)) (pm cv ctv : Value), bindArgs (PySem.W.kla_fn "<lambda>" q params body scope cl pm cv ctv) ⟨[], []⟩ = pure [] := by intros; rfl)
    (hg : Gl X x := by rfl) (hdb : (x == ("__debug__" : Str)) = false := by decide) (hd : (a == ("__debug__" : Str)) = false := by decide) (hcd : (a == ("__classdict__" : Str)) = false := by decide) :
    WE Z X (.Call (.Name x p) [.Lambda params body scope lpos] [] pos) env P :=
  w_lam (LB := LBa env R) G TB hcode hmT hu hr hgd L (fun A outer s H E f c' Zl e Pl ET h1 h2 h3 ⟨h4, h5⟩ => by subst h4; exact hbody A outer s H E f c' Zl Pl ET h1 h2 h3 h5)
    (fun e Q E ⟨h1, h2⟩ => ⟨h1, by subst h1; exact hD Q E h2⟩) (hmo _ _ _ (fun Q E q => ⟨rfl, q⟩) h) hdef hbind hg hdb hd hcd
/-- a lambda that leaves all as it was -/
theorem w_lamP {k : Nat} {x a : Str} {c Pt : Addr} {tg : Tg} (R : (T → Prop) → (Ex → Prop) → Prop) {params : Arguments} {body : Expr} {scope : Scope} {p lpos pos : Pos} (G : GvL X.prog X.w X.K X.mg X.base Tq (k + 1) x a tg)
    (TB : LamX.TabB X.base X.mg c Pt) (hcode : X.env.code = .ref c) (hmT : (Pt, X.env.qual ++ "<lambda>") ∈ Tq) (hu : ∀ p ∈ Tq, p.1 = Pt → p.2 = X.env.qual ++ "<lambda>") (hr : Room (k + 2) X.A) (hgd : X.A.guards = some [])
    (L : LamX.LamS X.env.scope scope)
    (hbody : ∀ (A : Around) (outer : List PySem.Env) (s : Shared) (H : Hp) (E : XK) (f c' : Addr) (Zl : Zb Tq) (Pl : QL.R → Env → Prop) (ET : Ex → Env → Prop), Room k (LamX.lamCx X A outer s H E scope f c').A → (LamX.lamCx X A outer s H E scope f c').A.guards = some [] →
      Takes (LamX.lamCx X A outer s H E scope f c') (wxOf Zl ET) → R (fun t => Pl (.t t) env) (fun x => ET x env) → WE Zl (LamX.lamCx X A outer s H E scope f c') body env Pl)
    (hm : ∀ Q E E', (∀ x, E x → E' x) → R Q E → R Q E') (hdm : Dom env env) (h : tg (fun Q E => R (fun t => Q t env) fun x => E x env) fun t e => P (.t t) e) (hmo : ∀ (L1 L2 : (T → Env → Prop) → (Ex → Env → Prop) → Prop) Q, (∀ Q E, L1 Q E → L2 Q E) → tg L1 Q → tg L2 Q) (hdef : defaultsOf params X.env = ([], []) := by rfl)
    (hbind : ∀ (q : Str) (cl : List (Str × Addr)) (pm cv ctv : Value), bindArgs (PySem.W.kla_fn "<lambda>" q params body scope cl pm cv ctv) ⟨[], []⟩ = pure [] := by intros; rfl)
    (hg : Gl X x := by rfl) (hdb : (x == ("__debug__" : Str)) = false := by decide) (hd : (a == ("__debug__" : Str)) = false := by decide) (hcd : (a == ("__classdict__" : Str)) = false := by decide) :
    WE Z X (.Call (.Name x p) [.Lambda params body scope lpos] [] pos) env P :=
  w_lamS (R := fun Q E => R (fun t => Q t env) fun x => E x env) G TB hcode hmT hu hr hgd L (fun A outer s H E f c' Zl Pl ET h1 h2 h3 h4 => hbody A outer s H E f c' Zl Pl ET h1 h2 h3 h4)
    (fun Q E q => hm _ _ _ (fun x z => ⟨hdm, z⟩) q) h hmo hdef hbind hg hdb hd hcd
end
end QL

/-! QLf: xs.index(x) of data. -/
namespace QL
open PySem PySem.Spec PyProof.Rows L2
section
variable {Tq : List (Addr × Str)} {Z : Zb Tq} {X : Cx} {env : Env} {P : R → Env → Prop} {e o : Expr} {pos : Pos}
theorem w_indexV {apos : Pos} (hu : X.A.units + 65 < cLine) (h : WA Z X o env fun a1 e1 => ∃ ds, a1 = .va (.list ds) ∧ WA Z X e e1 fun a2 e2 => ∃ (d : D) (j : Nat) (z : D), a2 = .va d ∧ SeqAt.shaped (.list ds) = true ∧ SeqAt.shaped d = true ∧ ds[j]? = some z ∧ PyData.eqv z d = true ∧ (∀ (m : Nat) (z' : D), m < j → ds[m]? = some z' → PyData.eqv z' d = false) ∧ P (.t (.va (.int (j : Nat)))) e2)
    (hbase : attributeBase o "index" X.env (eval o X.env) = eval o X.env := by rfl)
    (hfew : ((backTo pos (starEach [e] X.env)).all (fun x => !x.1) && (backToKw pos (keywordEach [] X.env)).all (fun x => x.1.isSome)
      && decide (([e] : List Expr).length + ([] : List Keyword).length + (if ([] : List Keyword).isEmpty then 0 else 1) < 30)) = true := by rfl)
    (hline : (apos.endLine == pos.line) = true := by rfl) (hs : starEach [e] X.env = (false, eval e X.env) :: starEach [] X.env := by rfl) (hpl : (backTo pos (starEach [] X.env)).any (·.1) = false := by rfl) :
    WE Z X (.Call (.Attribute o "index" apos) [e] [] pos) env P :=
  we_of (pe_bm PySem.F.plainAttrs_list PySem.F.slot_list_index PySem.F.type_list_index (mt_indexQ hu) (pe_A (Z := Z)) (pa_cons (pe_A (Z := Z)) pa_nil hs) hbase hfew hline hs hpl) fun σ H F O b0 o0 =>
    ⟨env, F, O, _, b0, o0, h, fun v H1 ⟨F1, O1, a1, e1, b1, o1, st1, fr1, ds, ea, q⟩ => by
      subst ea
      have st1 : Rp F1 v (.list ds) := st1
      cases st1 with
      | @lst a xs _ h1 ra =>
      refine ⟨.inl ⟨rfl, _, SqL.of (b1.sub _ _ h1)⟩, e1, F1, O1, _, b1, o1, q, fun v2 H2 ⟨F2, O2, a2, e2, b2, o2, st2, fr2, d, j, z, ea2, s1, s2, hz, hzj, hno, q2⟩ => ?_⟩
      subst ea2
      have st2 : Rp F2 v2 d := st2
      exact ⟨F2, a, xs, v2, d, ds, j, z, b2.sub, rfl, rfl, SqL.of (b2.sub _ _ (fr2.fz _ _ h1)), ra.mono fr2.fz, st2, s1, s2, hz, hzj, hno, (post_val b2 o2 (.int _) q2).from (fr1.trans fr2)⟩⟩
end
/-- a value is a place of n, or none -/
theorem domT_map (o : Option D) : DomT (o.map T.va) (o.map T.va) := by cases o <;> trivial
end QL

namespace K56
open PySem PySem.Spec PyProof.Rows L2 QL
open LM
def isI : D → Bool
  | .int _ => true
  | _ => false
def btw (d : D) (lo hi : Int) : Bool := match d with
  | .int i => decide (lo ≤ i) && decide (i ≤ hi)
  | _ => false
theorem isB_int (d : D) : isB d "int" = true → (!isB d "bool") = isI d := by cases d <;> simp [isB, tyD, isI]
theorem isB_int0 (d : D) : isB d "int" = false → isI d = false := by cases d <;> simp [isB, tyD, isI]
theorem isB_tup (d : D) : isB d "tuple" = true → ∃ ds, d = .tuple ds := by cases d <;> simp [isB, tyD]
theorem isI_int (d : D) : isI d = true → ∃ i, d = .int i := by cases d <;> simp [isI]
theorem btw_no (d : D) (lo hi : Int) : isI d = false → btw d lo hi = false := by cases d <;> simp [isI, btw]
def spIsI : Spc := fun ts QT _ => ∃ d, ts = [.va d] ∧ QT (.va (.bool (isI d))) [none]
def spBtw : Spc := fun ts QT _ => ∃ d lo hi, ts = [.va d, .va (.int lo), .va (.int hi)] ∧ QT (.va (.bool (btw d lo hi))) [none, none, none]
def wordsB (wd : Int) (d : D) : Bool := match d with
  | .tuple ds => ds.all fun x => btw x 1 wd
  | _ => false
def textB (wd : Int) (d : D) : Bool := match d with
  | .tuple ds => (ds.all fun x => btw x 1 wd) && decide (ds.length ≤ 300)
  | _ => false
theorem isB_tup0 (d : D) (wd : Int) : isB d "tuple" = false → wordsB wd d = false ∧ textB wd d = false := by cases d <;> simp [isB, tyD, wordsB, textB]
theorem all_btw1 {wd : Int} : ∀ {ws : List Int}, (∀ x ∈ ws, 1 ≤ x ∧ x ≤ wd) → ((iDs ws).all fun x => btw x 1 wd) = true
  | [], _ => rfl
  | x :: ws, h => by
    have h1 := h x List.mem_cons_self
    show (btw (.int x) 1 wd && (iDs ws).all fun x => btw x 1 wd) = true
    rw [all_btw1 fun y hy => h y (List.mem_cons_of_mem _ hy), Bool.and_true]
    show (decide (1 ≤ x) && decide (x ≤ wd)) = true
    rw [decide_eq_true h1.1, decide_eq_true h1.2]; rfl
theorem textB_ok {wd : Int} {ws : List Int} (h : ∀ x ∈ ws, 1 ≤ x ∧ x ≤ wd) (hl : ws.length ≤ 300) : textB wd (.tuple (iDs ws)) = true := by
  show (((iDs ws).all fun x => btw x 1 wd) && decide ((iDs ws).length ≤ 300)) = true
  rw [all_btw1 h, List.length_map, decide_eq_true hl]; rfl
theorem btw_ok {i lo hi : Int} (h : lo ≤ i ∧ i ≤ hi) : btw (.int i) lo hi = true := by
  show (decide (lo ≤ i) && decide (i ≤ hi)) = true
  rw [decide_eq_true h.1, decide_eq_true h.2]; rfl
section
variable {P : Program} {w : World} {K : PySem.W.Frag} {mg : Str → Option Value} {base : Heap} {Tq : List (Addr × Str)}
abbrev N_is_integer : List Str := ["value"]
theorem sc_is_integer : FnScope N_is_integer ["value"] (defScope (topS 10)) := ⟨rfl, rfl, rfl, by decide +kernel, rfl, by decide +kernel, by decide +kernel⟩
theorem g_is_integer {f : Addr} {fd : FuncData} {k : Nat} (Fn : Fun K "is_integer" "is_integer" (topS 10) f fd) (m_bool : mg "bool" = none) (m_int : mg "int" = none) (m_isinstance : mg "isinstance" = none) : FnG P w K mg base Tq (k + 1) f fd ["value"] spIsI := by
  refine fn_g Fn sc_is_integer (fun ts Q E h => ?_) fun cdv A outer s H E Z ts QT ET hr hgd hp tk h => ?_
  · obtain ⟨dv, rfl, q⟩ := h; rfl
  · obtain ⟨dv, rfl, q⟩ := h
    -- line 36
    refine wss_one (ws_ret (w_and (w_isi (w_var 0 ⟨rfl, ⟨_, rfl, fun h => (w_one (w_not (w_isi (w_var 0 ⟨rfl, ⟨_, rfl, ?_⟩⟩) kit_bool m_isinstance m_bool rfl))), fun h => ?_⟩⟩) kit_int m_isinstance m_int rfl)))
    · have e := isB_int dv h
      show QT (.va (.bool (!isB dv "bool"))) [none]
      rw [e]; exact q
    · have e := isB_int0 dv h
      rw [e] at q; exact q
abbrev N_is_between : List Str := ["value", "least", "most"]
theorem sc_is_between : FnScope N_is_between ["value", "least", "most"] (defScope (topS 11)) := ⟨rfl, rfl, rfl, by decide +kernel, rfl, by decide +kernel, by decide +kernel⟩
theorem g_is_between {f : Addr} {fd : FuncData} {k : Nat} (Fn : Fun K "is_between" "is_between" (topS 11) f fd) (G_is_integer : Df P w K mg base Tq k "is_integer" ["value"] spIsI) : FnG P w K mg base Tq (k + 1) f fd ["value", "least", "most"] spBtw := by
  refine fn_g Fn sc_is_between (fun ts Q E h => ?_) fun cdv A outer s H E Z ts QT ET hr hgd hp tk h => ?_
  · obtain ⟨dv, lo, hi, rfl, q⟩ := h; rfl
  · obtain ⟨dv, lo, hi, rfl, q⟩ := h
    cases hI : isI dv
    · rw [btw_no dv lo hi hI] at q
      refine wss_one (ws_ret (w_and (w_fn G_is_integer hr hgd ⟨rfl, (w_var 0 ⟨_, rfl, ⟨_, rfl, fun h => ?_, fun h => ?_⟩⟩)⟩)))
      · exact absurd (hI.symm.trans h) (by decide)
      · exact q
    · obtain ⟨i, rfl⟩ := isI_int dv hI
      refine wss_one (ws_ret (w_and (w_fn G_is_integer hr hgd ⟨rfl, (w_var 0 ⟨_, rfl, ⟨_, rfl, fun h => (w_one (w_chain dop_le dop_le (w_var 1 (w_var 0 ⟨rfl, rfl, _, rfl, fun h => (w_var 2 ⟨rfl, rfl, ?_⟩), fun h => ?_⟩)))), fun h => ?_⟩⟩)⟩)))
      · have e : btw (.int i) lo hi = decide (i ≤ hi) := by
          show (decide (lo ≤ i) && decide (i ≤ hi)) = _
          rw [show decide (lo ≤ i) = true from h, Bool.true_and]
        rw [e] at q; exact q
      · have e : btw (.int i) lo hi = false := by
          show (decide (lo ≤ i) && decide (i ≤ hi)) = _
          rw [show decide (lo ≤ i) = false from h, Bool.false_and]
        rw [e] at q; exact q
      · exact absurd h (by simp [isI])
end
theorem sc6 : FnScope ["width", "value", "word"] ["width", "value"] (defScope (topS 12)) := ⟨rfl, rfl, rfl, by decide +kernel, rfl, by decide +kernel, by decide +kernel⟩
theorem sc7 : FnScope ["width", "value"] ["width", "value"] (defScope (topS 13)) := ⟨rfl, rfl, rfl, by decide +kernel, rfl, by decide +kernel, by decide +kernel⟩
section
variable {P : Program} {w : World} {K : PySem.W.Frag} {mg : Str → Option Value} {base : Heap} {Tq : List (Addr × Str)}
def spWidth : Spc := fun ts QT _ => ∃ d, ts = [.va d] ∧ QT (.va (.bool (btw d 1 1000000000))) [none]
def notLong (d : D) : Prop := match d with
  | .tuple ds => ds.length ≤ 2000
  | _ => True
def spWords : Spc := fun ts QT _ => ∃ wd d, ts = [.va (.int wd), .va d] ∧ notLong d ∧ QT (.va (.bool (wordsB wd d))) [none, none]
theorem g_words {f : Addr} {fd : FuncData} {k : Nat} (Fn : Fun K "are_words" "are_words" (topS 12) f fd) (G_is_between : Df P w K mg base Tq (k + 2) "is_between" ["value", "least", "most"] spBtw) (m_isi : mg "isinstance" = none) (m_tuple : mg "tuple" = none) (m_all : mg "all" = none) : FnG P w K mg base Tq (k + 3) f fd ["width", "value"] spWords := by
  refine fn_g Fn sc6 (fun ts Q E h => ?_) fun cdv A outer s H E Z ts QT ET hr hgd hp tk h => ?_
  · obtain ⟨wd, d, rfl, _⟩ := h
    rfl
  · obtain ⟨wd, d, rfl, hn, q⟩ := h
    refine wss_one (ws_ret (w_and (w_isi (w_var 1 (⟨rfl, ⟨_, rfl, fun h => ?yes, fun h => ?no⟩⟩)) kit_tuple m_isi m_tuple rfl)))
    case no =>
      rw [(isB_tup0 d wd h).1] at q
      exact q
    case yes =>
      obtain ⟨ds, rfl⟩ := isB_tup d h
      have hl : ds.length ≤ 2000 := hn
      refine w_one (w_callB (dc_all rfl) m_all rfl ⟨rfl, w_lc (own := [("word", 2)]) rfl sc6.nd (blkOk_by (N := ["width", "value", "word"]) (sc := defScope (topS 12)) (by decide +kernel)) (fun _ _ _ _ _ => pg_name (i := 2) sc6.nd rfl (Or.inl rfl)) (gok_name 2) (by decide) (wi_tup (w_var 1 ?lc))⟩)
      refine ⟨fun j acc e => acc = ((ds.take j).map fun x => btw x 1 wd).map PyData.bool ∧ e = [some (.va (.int wd)), some (.va (.tuple ds)), none], ⟨rfl, rfl⟩, ?_, ?_⟩
      · rintro j x acc e hd ⟨rfl, rfl⟩
        have hj := (List.getElem?_eq_some_iff.mp hd).1
        refine ⟨Nat.lt_of_sub_eq_succ rfl, fun _ => ?_, fun z => nomatch z⟩
        intro s2 H2 C cl fp
        refine w_fn G_is_between hr hgd ⟨rfl, w_var 2 ⟨rfl, w_int ⟨rfl, w_var 0 ⟨x, 1, wd, rfl, ?_, ?_, rfl⟩⟩⟩⟩
        · rw [List.length_map, List.length_map, List.length_take]
          exact small2000 (by omega)
        · rw [List.take_add_one, hd]
          simp only [List.map_append]
          rfl
      · rintro acc e ⟨rfl, rfl⟩ p
        refine ⟨rfl, (ds.take ds.length).map fun x => btw x 1 wd, rfl, ?_⟩
        have e : ((ds.take ds.length).map fun x => btw x 1 wd).all id = wordsB wd (.tuple ds) := by
          rw [List.take_length, List.all_map]
          rfl
        show QT (.va (.bool (((ds.take ds.length).map fun x => btw x 1 wd).all id))) [none, none]
        rw [e]
        exact q
def spText : Spc := fun ts QT _ => ∃ wd d, ts = [.va (.int wd), .va d] ∧ notLong d ∧ QT (.va (.bool (textB wd d))) [none, none]
theorem g_text {f : Addr} {fd : FuncData} {k : Nat} {t : Tok} (Fn : Fun K "is_text" "is_text" (topS 13) f fd) (G_are_words : Df P w K mg base Tq (k + 3) "are_words" ["width", "value"] spWords) (m_len : mg "len" = none) (m_mw : mg "MOST_WORDS" = some (.int 300 t)) : FnG P w K mg base Tq (k + 4) f fd ["width", "value"] spText := by
  refine fn_g Fn sc7 (fun ts Q E h => ?_) fun cdv A outer s H E Z ts QT ET hr hgd hp tk h => ?_
  · obtain ⟨wd, d, rfl, _⟩ := h
    rfl
  · obtain ⟨wd, d, rfl, hn, q⟩ := h
    refine wss_one (ws_ret (w_and (w_fn G_are_words hr hgd ⟨rfl, (w_var 0 (⟨rfl, (w_var 1 (?call1a))⟩))⟩)))
    refine ⟨wd, d, rfl, hn, ⟨_, rfl, fun h => ?yes, fun h => ?no⟩⟩
    case no =>
      have e : textB wd d = false := by
        cases d with
        | tuple ds =>
          have h : (ds.all fun x => btw x 1 wd) = false := h
          show ((ds.all fun x => btw x 1 wd) && decide (ds.length ≤ 300)) = false
          rw [h, Bool.false_and]
        | _ => rfl
      rw [e] at q
      exact q
    case yes =>
      have hd : ∃ ds, d = .tuple ds := by
        cases d with
        | tuple ds => exact ⟨ds, rfl⟩
        | _ => exact Bool.noConfusion h
      obtain ⟨ds, rfl⟩ := hd
      refine (w_one (w_cmp dop_le (w_callB dc_len m_len rfl ⟨rfl, (w_var 1 (⟨rfl, (w_glob (v := .int 300) (d := .int 300) m_mw ⟨t, rfl⟩ (fun _ => .int _) (⟨rfl, rfl, ?ret1b⟩))⟩))⟩)))
      have e : textB wd (.tuple ds) = decide ((ds.length : Int) ≤ 300) := by
        have h : (ds.all fun x => btw x 1 wd) = true := h
        show ((ds.all fun x => btw x 1 wd) && decide (ds.length ≤ 300)) = _
        rw [h, Bool.true_and]
        by_cases z : ds.length ≤ 300
        · rw [decide_eq_true z, decide_eq_true (by omega)]
        · rw [decide_eq_false z, decide_eq_false (by omega)]
      rw [e] at q
      exact q
end
section
variable {P : Program} {w : World} {K : PySem.W.Frag} {mg : Str → Option Value} {base : Heap} {Tq : List (Addr × Str)}
theorem sce_BadSource : FnScope ["self", "position"] ["self", "position"] (defScope (inClass (topS 6) 0)) := ⟨rfl, rfl, rfl, by decide +kernel, rfl, by decide +kernel, by decide +kernel⟩
theorem init_BadSource {f : Addr} {fd : FuncData} {k : Nat} {aT aB : Addr} {mc : Value} (Fn : Fun K "__init__" "BadSource.__init__" (inClass (topS 6) 0) f fd)
    (mB : mg "LineError" = some (.ref aB)) (r : ClX.CRead K aB mc) (hk : PySem.W.findCls K (.ref aB) mc "__init__" = some (.val (.builtin "ValueError.__init__"))) (no : PySem.W.findIn K (.ref aT) "position" = some none) :
    FnOk P w K mg base (L2.CX P w) (k + 1) f fd ["self", "position"] (spX K aT "position") := by
  obtain ⟨oc, od, kV, doc, pm, an, cdv, ct, osl, rfl, lk, hcd⟩ := Fn.ex
  refine fn_of (N := ["self", "position"]) lk hcd sce_BadSource (fun vs H Q E h => ?_) fun A outer s H vs Q E hr h => ⟨_, pss_cons (ps_expr (pe_ownInit (B := aB) (mc := mc) rfl mB r hk (pa_cons (pe_var (i := 0) rfl (.inl rfl)) (pa_cons pe_str pa_nil)))) (pss_one (ps_ost (pe_var (i := 0) rfl (.inl rfl)) (pe_var (i := 1) rfl (.inl rfl)))), ?_⟩
  · obtain ⟨a, v, e, _⟩ := h
    subst e
    rfl
  · obtain ⟨a, v, e, T, ha, q⟩ := h
    subst e
    exact ⟨_, rfl, a, aT, _, rfl, by decide, T, ha, _, rfl, _, rfl, a, aT, rfl, T, no, .inl ⟨ha, fun dx n ne => q dx n ne⟩⟩
end
end K56

/-! QTE: range(a, b, -1). -/
namespace QL
open PySem PySem.Spec PyProof.Rows L2
/-- from lo downwards -/
def rangeN (lo : Int) (n : Nat) : List D := (List.range n).map fun (k : Nat) => PyData.int (lo - (k : Int))
theorem gives_rangeN {lo : Int} {n : Nat} {F : Hp} : Gives (L2.Itc lo (-1) n) (rangeN lo n) F := fun F' H' s1 s2 i => by
  refine ⟨fun d hd => ?_, fun hn => ?_⟩
  · unfold rangeN at hd
    rw [List.getElem?_map] at hd
    by_cases hi : i < n
    · rw [List.getElem?_range hi] at hd
      cases hd
      refine ⟨hi, fun x H'' ⟨e, q⟩ => ?_⟩
      subst e q
      have e1 : lo + (i : Int) * (-1) = lo - (i : Int) := by omega
      rw [e1]
      exact ⟨F', .int _, Same.refl _, Same.refl _, s2, fun _ z => .inl z⟩
    · rw [List.getElem?_eq_none (by simpa using hi)] at hd
      cases hd
  · unfold rangeN at hn
    rw [List.getElem?_eq_none_iff, List.length_map, List.length_range] at hn
    exact hn
theorem rangeN_at {lo : Int} {n j : Nat} {d : D} (h : (rangeN lo n)[j]? = some d) : d = .int (lo - (j : Int)) ∧ j < n := by
  unfold rangeN at h
  rw [List.getElem?_map] at h
  by_cases hj : j < n
  · rw [List.getElem?_range hj] at h
    cases h
    exact ⟨rfl, hj⟩
  · rw [List.getElem?_eq_none (by simpa using hj)] at h
    cases h
theorem rangeN_len {lo : Int} {n : Nat} : (rangeN lo n).length = n := by unfold rangeN; simp
section
variable {Tq : List (Addr × Str)} {Z : Zb Tq} {X : Cx} {tg iter : Expr} {a b c : Expr} {env : Env}
def rng3 (ds : List D) (k : List D → Prop) : Prop := match ds with
  | [.int i, .int j, .int c] => (c = -1 ∧ -4611686018427387904 ≤ i ∧ i < 4611686018427387904 ∧ -4611686018427387904 ≤ j ∧ j < 4611686018427387904) ∧ k (rangeN i (i - j).toNat)
  | _ => False
theorem wi_range3 {P : List D → Env → Prop} {p : Pos} (hm : X.mg "range" = none) (h : WAs Z X [a, b, c] env fun as e1 => Views as e1 fun ds => rng3 ds fun xs => P xs e1) (hg : Gl X "range" := by rfl)
    (hs : starEach [a, b, c] X.env = (false, eval a X.env) :: starEach [b, c] X.env := by rfl) (hpl : (backTo pos (starEach [b, c] X.env)).any (·.1) = false := by rfl) : WI Z X tg (.Call (.Name "range" p) [a, b, c] [] pos) env P :=
  wi_of (L2.pi_range3 hg hm (pa_As (Z := Z)) hs hpl) fun σ H F O b0 o => ⟨env, F, O, _, b0, o, h, fun vs H1 ⟨F1, O1, as, e1, b1, o1, st, fr, p⟩ => by
    obtain ⟨ds, ws, q⟩ := Views.vws o1 st p
    unfold rng3 at q
    split at q
    · cases ws with
      | cons w ws =>
        cases ws with
        | cons w' ws =>
          cases ws with
          | cons w'' ws =>
            cases ws
            cases w.int
            cases w'.int
            cases w''.int
            obtain ⟨⟨rfl, q1, q2, q3, q4⟩, q⟩ := q
            exact ⟨_, _, _, _, rfl, L2.RgC.neg q1 q2 q3 q4, F1, O1, _, e1, b1, o1, fr, gives_rangeN, q⟩
    · exact q.elim⟩
end
end QL

/-! QTS: texts (str). -/
namespace QL
open PySem PySem.Spec PyProof.Rows L2
/-! ### enumerate(s) -/
def IteS (x : Str) : It :=
  ⟨fun i _ => i < x.cps.size, fun i H v H2 => ∃ T c, v = .ref T ∧ H T = none ∧ x.cps[i]? = some c ∧ H2 = upd H T (.tup [.int (i : Nat), .str ⟨#[c]⟩]), fun i _ => x.cps.size ≤ i⟩
theorem turn_enS {P : Program} {w : World} {K : PySem.W.Frag} {elts : List Expr} {kk : Nat} {tpos : Pos} (x : Str) (t : Tok) (en it : Addr) :
    Turn P w K (.Tuple elts kk tpos) (IteS x) [en, it] en (fun i h => (∃ old, IsEnum h en it (i : Nat) old) ∧ h.IsStrIter it (strIterType x) x t i ∧ en ≠ it) where
  mem := List.mem_cons_self ..
  obj := fun i h st b hb => by
    obtain ⟨⟨old, he⟩, ⟨o, ho, hc, hd⟩, _⟩ := st
    rcases List.mem_cons.mp hb with z | z
    · rw [z]; exact ⟨_, he, fun v q => nomatch q⟩
    · rw [List.mem_singleton.mp z]; exact ⟨o, ho, fun v q => by rw [hd] at q; cases q⟩
  keep := fun i h h2 st kp => let ⟨⟨old, he⟩, hi, hne⟩ := st; ⟨⟨old, kp en (by simp) _ he⟩, let ⟨o, ho, r⟩ := hi; ⟨o, kp it (by simp) o ho, r⟩, hne⟩
  item := by
    intro X hP hw hK hc i pins s σ H E I hf st hg
    subst hP hw hK
    obtain ⟨⟨old, he⟩, hit, hne⟩ := st
    have hlt : i < x.cps.size := hg
    have hel : en < s.heap.objs.size := Heap.lt_size he
    have hil : it < s.heap.objs.size := by obtain ⟨_, q, _⟩ := hit; exact Heap.lt_size q
    have hhd : X.A.in1.handled = none := I.ok.hd hc
    refine wpAny_pyNext_enum_itemC (Draws.text hhd it x t) he hit hlt hne (fun q => hne (List.mem_singleton.mp q)) fun y2 h2 tk hy2 ho hit2 hT hsz hk => ?_
    obtain ⟨c, u, hcx, rfl⟩ := hy2
    refine ⟨_, rfl, wpAny_letOwnedTupleGo_enum (s := { s with heap := h2, toks := tk + 1 }) ho fun h3 he3 sb => ?_⟩
    have hT2 := (sb.2 _ (Nat.ne_of_gt hel)).trans hT
    have new : ObjOk X.prog X.w (upd H s.heap.objs.size (.tup [.int (i : Nat), .str ⟨#[c]⟩])) h3 s.heap.objs.size (.tup [.int (i : Nat), .str ⟨#[c]⟩]) :=
      ⟨(by decide : 2 ≤ sizeLine), [.int (i : Nat) tk, .str ⟨#[c]⟩ u], .cons ⟨_, rfl⟩ (.cons ⟨_, rfl⟩ .nil), ⟨_, hT2, rfl, _, rfl⟩⟩
    have I1 : Inv X pins σ (upd H s.heap.objs.size (.tup [.int (i : Nat), .str ⟨#[c]⟩])) { s with heap := h3, toks := tk + 1 } :=
      I.turnedNew (ch := [en, it]) (fun b ob hb q => (sb.2 b fun z => hb (List.mem_cons.mpr (.inl z))).trans (hk b ob (fun z => hb (List.mem_cons.mpr (.inl z))) (fun z => hb (List.mem_cons.mpr (.inr (List.mem_singleton.mpr z)))) q)) hf (Nat.le_refl _) new
    refine ⟨.ref s.heap.objs.size, _, I1, rfl, ⟨_, c, rfl, I.hok.fresh (Nat.le_refl _), hcx, rfl⟩, ⟨⟨.str ⟨#[c]⟩ u, ?_⟩, ?_, hne⟩, fun b hb => ?_⟩
    · have e1 : ((i + 1 : Nat) : Int) = (i : Int) + 1 := by omega
      rw [e1]; exact he3
    · obtain ⟨o, ho2, r⟩ := hit2
      exact ⟨o, (sb.2 it (Ne.symm hne)).trans ho2, r⟩
    · have hb2 : b < s.heap.objs.size := by
        rcases List.mem_cons.mp hb with z | z
        · exact z ▸ hel
        · rw [List.mem_singleton.mp z]; exact hil
      rw [upd_ne (Nat.ne_of_lt hb2)]
      exact (hf b hb).1
  done := by
    intro X hP hw hK hc i pins s σ H E I hf st hg
    subst hP hw hK
    obtain ⟨⟨old, he⟩, hit, hne⟩ := st
    obtain ⟨f0, f1, f2, f3, f4, f5⟩ := hf it (by simp)
    have hhd : X.A.in1.handled = none := I.ok.hd hc
    have hT : s.TypeIs (.ref en) "enumerate" := ⟨_, he, rfl⟩
    have hge : x.cps.size ≤ i := hg
    unfold pyNext
    refine wpAny_bind (wpAny_attempt (wpAny_callSpecial?_slot (name := Str.ofString "__next__") hT F.slot_enumerate_next (wpAny_call_entry F.slot_enumerate_next hT F.entry_enumerate_next ?_ (F.args_enumerate_next_1 _))))
    show wpAny _ _ (field (.ref en) 2 >>= _) _ _ _
    refine wpAny_bind (wpAny_field he rfl (x := .ref it) rfl ?_)
    have hx : x.cps[i]? = none := Array.getElem?_eq_none hge
    refine wpAny_bind ?_
    have nx : wpAny (model X.prog X.w) X.A.in1 (Builtin.SmallTypes.nextOf (.ref it)) (fun _ _ => False) (fun e s' => ∃ h2 y2, e = .ref y2 ∧ s' = { s with heap := h2 } ∧ Heap.ExtBut it s.heap h2 ∧ ∃ o, h2.get? y2 = some o ∧ o.cls = .type "StopIteration") s := by
      cases ha : x.cps.all (· < 128)
      · have hit' : s.heap.IsStrIter it "str_iterator" x t i := by simpa only [strIterType, ha, Bool.false_eq_true, if_false] using hit
        exact wpAny_nextOf_wide_end hhd hit' hx fun h2 y2 he2 hx2 => ⟨h2, y2, rfl, rfl, he2, hx2⟩
      · have hit' : s.heap.IsStrIter it "str_ascii_iterator" x t i := by simpa only [strIterType, ha, if_true] using hit
        exact wpAny_nextOf_ascii_end hhd hit' hx fun h2 y2 he2 hx2 => ⟨h2, y2, rfl, rfl, he2, hx2⟩
    refine wpAny_mono nx (fun _ _ z => z.elim) ?_
    rintro e s' ⟨h2, y2, rfl, rfl, he2, o, ho, hc2⟩
    refine wpAny_bind (wpAny_isInstance (T := "StopIteration") (b := true) ⟨o, ho, hc2⟩ isSubtype_stop (wpAny_pure ⟨rfl, I.turned (t' := s.toks) (fun b o hb q => he2 b o hb q) f0 f1 f3 f4 f5⟩))
  self := fun A i s Q E st h => let ⟨⟨_, he⟩, _⟩ := st; wpAny_pyIter_enum he h
/-- the signs of a text -/
abbrev sgS (c : Nat) : D := .str ⟨#[c]⟩
abbrev stl (x : Str) : List Nat := x.cps.toList
/-- the pairs of enumerate over a text -/
def enumS (x : Str) : List D := enumD 0 ((stl x).map sgS)
theorem enumS_get (x : Str) (i : Nat) : (enumS x)[i]? = (stl x)[i]?.map fun c => PyData.tuple [.int (i : Int), sgS c] := by
  unfold enumS
  rw [enumD_get, List.getElem?_map, Option.map_map]
  congr 1
  funext c
  show PyData.tuple [.int (0 + (i : Int)), sgS c] = _
  rw [Int.zero_add]
theorem enumS_len (x : Str) : (enumS x).length = (stl x).length := by unfold enumS; rw [enumD_len, List.length_map]
theorem enumS_at {x : Str} {i : Nat} {d : D} (h : (enumS x)[i]? = some d) : ∃ c, (stl x)[i]? = some c ∧ d = .tuple [.int (i : Int), sgS c] := by
  rw [enumS_get, Option.map_eq_some_iff] at h
  obtain ⟨c, hc, e⟩ := h
  exact ⟨c, hc, e.symm⟩
theorem gives_enS {x : Str} {F : Hp} : Gives (IteS x) (enumS x) F := fun F2 H2 s1 s2 i => by
  have hsz : (stl x).length = x.cps.size := by simp
  refine ⟨fun d hd => ?_, fun hn => ?_⟩
  · obtain ⟨c, hc, rfl⟩ := enumS_at hd
    have hi : i < x.cps.size := by
      rcases Nat.lt_or_ge i (stl x).length with z | z
      · omega
      · rw [List.getElem?_eq_none z] at hc; cases hc
    refine ⟨hi, fun v H3 ⟨T, c2, ev, hT, hc2, eH⟩ => ?_⟩
    subst ev eH
    have ec : c2 = c := by
      rw [← Array.getElem?_toList] at hc2
      exact Option.some.inj (hc2.symm.trans hc)
    subst ec
    have nf : F2 T = none := s2.free hT
    refine ⟨upd F2 T (.tup [.int (i : Nat), .str ⟨#[c2]⟩]), .tup upd_same (.cons (.int _) (.cons (.str _) .nil)), same_new nf, same_new hT, same_upd2 s2, fun c hc => ?_⟩
    by_cases z : c = T
    · subst z; exact .inr hT
    · rw [upd_ne z] at hc; exact .inl hc
  · rw [enumS_get, Option.map_eq_none_iff, List.getElem?_eq_none_iff] at hn
    show x.cps.size ≤ i
    omega
/-- the signs themselves, one by one -/
theorem gives_str {x : Str} {F : Hp} : Gives (L2.Its x) ((stl x).map sgS) F := fun F2 H2 s1 s2 i => by
  have hsz : (stl x).length = x.cps.size := by simp
  refine ⟨fun d hd => ?_, fun hn => ?_⟩
  · rw [List.getElem?_map, Option.map_eq_some_iff] at hd
    obtain ⟨c, hc, rfl⟩ := hd
    have hi : i < x.cps.size := by
      rcases Nat.lt_or_ge i (stl x).length with z | z
      · omega
      · rw [List.getElem?_eq_none z] at hc; cases hc
    refine ⟨hi, fun v H3 ⟨eH, c2, hc2, ev⟩ => ?_⟩
    subst ev eH
    have ec : c2 = c := by
      rw [← Array.getElem?_toList] at hc2
      exact Option.some.inj (hc2.symm.trans hc)
    subst ec
    exact ⟨F2, .str _, Same.refl _, Same.refl _, s2, fun _ z => .inl z⟩
  · rw [List.getElem?_eq_none_iff, List.length_map] at hn
    show x.cps.size ≤ i
    omega
section
variable {X : Cx} {Tq : List (Addr × Str)} {Z : Zb Tq} {tg iter a b c e o : Expr} {env : Env} {pos : Pos}
def iEnS (ta : TA) : TI := fun σ H R => ta σ H fun vs H1 => ∃ x, vs = [.str x] ∧ R (IteS x) H1
theorem pi_enS {e : Expr} {ta : TA} {p pos tpos : Pos} {elts : List Expr} {kk : Nat} (hg : Gl X "enumerate") (hm : X.mg "enumerate" = none) (ha : PA X [e] ta) (hs : starEach [e] X.env = [(false, eval e X.env)] := by rfl) :
    PI X (.Tuple elts kk tpos) (.Call (.Name "enumerate" p) [e] [] pos) (iEnS ta) := by
  refine ⟨fun pins s σ H R I h => Call_ (ld_blt I hg hm boot_enumerate (callWith_type1 (thn (ha.run pos pins s σ H _ I h) fun us s1 ⟨vs, H1, I1, r1, x, ex, q⟩ => ?_) hs rfl))⟩
  subst ex
  cases r1 with
  | cons r rr =>
    cases rr
    obtain ⟨t, rfl⟩ := r
    refine en_call1 (begins_text x t) trivial fun h2 he hit hk => wpAny_pyIter_enum he ?_
    have I2 : Inv X pins σ H1 { s1 with heap := h2 } := I1.kept (t' := s1.toks) hk
    refine ⟨s1.heap.objs.size + 1, [s1.heap.objs.size + 1, s1.heap.objs.size], _, _, H1, rfl, I2, turn_enS x t (s1.heap.objs.size + 1) s1.heap.objs.size, ⟨⟨.none, he⟩, ⟨_, hit, rfl, rfl⟩, Nat.succ_ne_self _⟩, fun b hb => ?_, q⟩
    have hle : s1.heap.objs.size ≤ b := by
      rcases List.mem_cons.mp hb with z | z
      · rw [z]; exact Nat.le_add_right _ _
      · rw [List.mem_singleton.mp z]; exact Nat.le_refl _
    exact I1.fpOk hle (I1.hok.fresh hle)
theorem wi_enumS {P : List D → Env → Prop} {p tpos : Pos} {elts : List Expr} {kk : Nat} (hm : X.mg "enumerate" = none) (h : WAs Z X [a] env fun as e1 => Views as e1 fun ds => ∃ x, ds = [.str x] ∧ P (enumS x) e1) (hg : Gl X "enumerate" := by rfl)
    (hs : starEach [a] X.env = [(false, eval a X.env)] := by rfl) : WI Z X (.Tuple elts kk tpos) (.Call (.Name "enumerate" p) [a] [] pos) env P :=
  wi_of (pi_enS hg hm (pa_As (Z := Z)) hs) fun σ H F O b0 o0 => ⟨env, F, O, _, b0, o0, h, fun vs H1 ⟨F1, O1, as, e1, b1, o1, st, fr, q⟩ => by
    obtain ⟨ds, ws, x, e, q⟩ := Views.vws o1 st q
    subst e
    obtain ⟨v, rfl, w⟩ := ws.one
    cases w.str
    exact ⟨x, rfl, F1, O1, _, e1, b1, o1, fr, gives_enS, q⟩⟩
theorem wi_str {P : List D → Env → Prop} (h : WA Z X iter env fun a e1 => ∃ x, a = .va (.str x) ∧ P ((stl x).map sgS) e1) : WI Z X tg iter env P :=
  wi_of (L2.pi_str (pe_A (Z := Z))) fun σ H F O b0 o0 => ⟨env, F, O, _, b0, o0, h, fun v H1 ⟨F1, O1, a, e1, b1, o1, st, fr, x, ea, q⟩ => by
    subst ea
    have st : Rp F1 v (.str x) := st
    cases st
    exact ⟨x, rfl, F1, O1, _, e1, b1, o1, fr, gives_str, q⟩⟩
/-! ### one sign in a text -/
def inSG (neg : Bool) (d1 d2 : D) (k : T → Prop) : Prop := ∃ (c : Nat) (z : Str), d1 = sgS c ∧ d2 = .str z ∧ k (.va (.bool (if neg = true then !decide (c ∈ stl z) else decide (c ∈ stl z))))
theorem dop_inS : DOp X (compareOp .In) (inSG false) := by
  intro pins s σ H F v1 v2 u1 u2 d1 d2 k I sF w1 w2 r1 r2 ⟨c, z, e1, e2, q⟩
  subst e1 e2
  cases w1.str
  cases w2.str
  exact op_in_sign pins s σ H _ _ u1 u2 _ I r1 r2 ⟨c, z, rfl, rfl, NewV.val sF (.bl _) q⟩
theorem dop_notinS : DOp X (compareOp .NotIn) (inSG true) := by
  intro pins s σ H F v1 v2 u1 u2 d1 d2 k I sF w1 w2 r1 r2 ⟨c, z, e1, e2, q⟩
  subst e1 e2
  cases w1.str
  cases w2.str
  exact op_notIn_sign pins s σ H _ _ u1 u2 _ I r1 r2 ⟨c, z, rfl, rfl, NewV.val sF (.bl _) q⟩
/-! ### s[i], s[a:b], s * n -/
def ixSD (d1 d2 : D) (k : T → Prop) : Prop := ∃ (z : Str) (i : Int) (c : Nat), d1 = .str z ∧ d2 = .int i ∧ z.length ≤ sizeLine ∧ atI (stl z) i = some c ∧ k (.va (sgS c))
theorem ixrS : IxR X (rD ixSD) := fun value slice pins s σ H x y v u Q I rx ry ⟨F, d1, d2, k, sF, w1, w2, hg, q⟩ hs => by
  obtain ⟨z, i, c, rfl, rfl, hz, hc, g⟩ := hg
  cases w1.str
  cases w2.int
  exact ix_str value slice pins s σ H _ _ v u Q I rx ry ⟨z, i, c, rfl, rfl, hz, hc, q _ _ (NewV.val sF (.str _) g)⟩ hs
theorem w_ixS {P : R → Env → Prop} (h : W2 Z X a b env fun d1 d2 e2 => ixSD d1 d2 fun t => P (.t t) e2) (hs : PlainIx b := by intro _ _; rfl) : WE Z X (.Subscript a b pos) env P :=
  we_of (pe_ix ixrS pe_A pe_A hs) fun σ H F O b0 o => w2_run b0 o h
def rSlSD : V → Option Int → Option Int → Hp → VK → Prop := fun x lo hi H Q => ∃ z, x = .str z ∧ z.length ≤ sizeLine ∧ Q (.str (cutS z lo hi)) H
theorem w_slS {P : R → Env → Prop} {lo hi : Option Expr} {p2 : Pos} (h : WA Z X a env fun a1 e1 => WO Z X lo e1 fun l e2 => WO Z X hi e2 fun u e3 => ∃ z, a1 = .va (.str z) ∧ z.length ≤ sizeLine ∧ P (.t (.va (.str (cutS z l u)))) e3) : WE Z X (.Subscript a (.Slice lo hi none p2) pos) env P :=
  we_of (pe_slice sl_str pe_A po_O po_O) fun σ H F O b0 o => ⟨env, F, O, _, b0, o, h, fun v1 H1 ⟨F1, O1, a1, e1, b1, o1, st1, fr1, h1⟩ => ⟨e1, F1, O1, _, b1, o1, h1, fun l H2 ⟨F2, O2, e2, b2, o2, fr2, h2⟩ =>
    ⟨e2, F2, O2, _, b2, o2, h2, fun u H3 ⟨F3, O3, e3, b3, o3, fr3, z, ea, hz, q⟩ => by
      subst ea
      have st1 : Rp F1 v1 (.str z) := st1
      cases st1
      exact ⟨z, rfl, hz, (post_val b3 o3 (.str _) q).from ((fr1.trans fr2).trans fr3)⟩⟩⟩⟩
/-- x times n, n from 2 on -/
def repS (z : Str) (n : Nat) : Str := ⟨(List.replicate n z.cps).foldl (· ++ ·) #[]⟩
/-! ### methods of texts -/
theorem w_endswith {P : R → Env → Prop} {apos : Pos} (h : WA Z X o env fun a1 e1 => ∃ s, a1 = .va (.str s) ∧ WA Z X e e1 fun a2 e2 => ∃ t, a2 = .va (.str t) ∧ P (.t (.va (.bool (Txt.endswith s t)))) e2)
    (hs : starEach [e] X.env = [(false, eval e X.env)] := by rfl) (hbase : attributeBase o "endswith" X.env (eval o X.env) = eval o X.env := by rfl) (hline : (apos.endLine == pos.line) = true := by rfl) :
    WE Z X (.Call (.Attribute o "endswith" apos) [e] [] pos) env P :=
  we_of (pe_m1 PySem.F.slot_str_endswith PySem.F.type_str_endswith mt_endswith (pe_A (Z := Z)) (pe_A (Z := Z)) hs hbase hline) fun σ H F O b0 o0 => ⟨env, F, O, _, b0, o0, h, fun v H1 ⟨F1, O1, a1, e1, b1, o1, st1, fr1, s, ea, q⟩ => by
    subst ea
    have st1 : Rp F1 v (.str s) := st1
    cases st1
    refine ⟨⟨s, rfl⟩, e1, F1, O1, _, b1, o1, q, fun v2 H2 ⟨F2, O2, a2, e2, b2, o2, st2, fr2, t, ea2, q2⟩ => ?_⟩
    subst ea2
    have st2 : Rp F2 v2 (.str t) := st2
    cases st2
    exact ⟨s, t, rfl, rfl, (post_val b2 o2 (.bl _) q2).from (fr1.trans fr2)⟩⟩
theorem w_stripC {P : R → Env → Prop} {apos : Pos} (h : WA Z X o env fun a1 e1 => ∃ s, a1 = .va (.str s) ∧ WA Z X e e1 fun a2 e2 => ∃ t, a2 = .va (.str t) ∧ s.length ≤ sizeLine ∧ P (.t (.va (.str (Txt.stripChars s t)))) e2)
    (hs : starEach [e] X.env = [(false, eval e X.env)] := by rfl) (hbase : attributeBase o "strip" X.env (eval o X.env) = eval o X.env := by rfl) (hline : (apos.endLine == pos.line) = true := by rfl) :
    WE Z X (.Call (.Attribute o "strip" apos) [e] [] pos) env P :=
  we_of (pe_m1 PySem.F.slot_str_strip PySem.F.type_str_strip mt_stripChars (pe_A (Z := Z)) (pe_A (Z := Z)) hs hbase hline) fun σ H F O b0 o0 => ⟨env, F, O, _, b0, o0, h, fun v H1 ⟨F1, O1, a1, e1, b1, o1, st1, fr1, s, ea, q⟩ => by
    subst ea
    have st1 : Rp F1 v (.str s) := st1
    cases st1
    refine ⟨⟨s, rfl⟩, e1, F1, O1, _, b1, o1, q, fun v2 H2 ⟨F2, O2, a2, e2, b2, o2, st2, fr2, t, ea2, hz, q2⟩ => ?_⟩
    subst ea2
    have st2 : Rp F2 v2 (.str t) := st2
    cases st2
    exact ⟨s, t, rfl, rfl, hz, (post_val b2 o2 (.str _) q2).from (fr1.trans fr2)⟩⟩
/-- texts as data -/
abbrev sDs (ws : List Str) : List D := ws.map PyData.str
theorem rpa_strs {F : Hp} : ∀ ws : List Str, RpA F (ws.map V.str) (sDs ws)
  | [] => .nil
  | w :: ws => .cons (.str w) (rpa_strs ws)
theorem w_split {P : R → Env → Prop} {apos : Pos} (h : WA Z X o env fun a1 e1 => ∃ s, a1 = .va (.str s) ∧ WA Z X e e1 fun a2 e2 => ∃ t, a2 = .va (.str t) ∧ (t.length == 0) = false ∧ s.length + 2 ≤ sizeLine ∧ ∀ p, P (.t (.lst p (sDs (Txt.split s t)))) e2)
    (hs : starEach [e] X.env = [(false, eval e X.env)] := by rfl) (hbase : attributeBase o "split" X.env (eval o X.env) = eval o X.env := by rfl) (hline : (apos.endLine == pos.line) = true := by rfl) :
    WE Z X (.Call (.Attribute o "split" apos) [e] [] pos) env P :=
  we_of (pe_split (pe_A (Z := Z)) (pe_A (Z := Z)) hs hbase hline) fun σ H F O b0 o0 => ⟨env, F, O, _, b0, o0, h, fun v H1 ⟨F1, O1, a1, e1, b1, o1, st1, fr1, s, ea, q⟩ => by
    subst ea
    have st1 : Rp F1 v (.str s) := st1
    cases st1
    refine ⟨⟨s, rfl⟩, e1, F1, O1, _, b1, o1, q, fun v2 H2 ⟨F2, O2, a2, e2, b2, o2, st2, fr2, t, ea2, h1, h2, q2⟩ => ?_⟩
    subst ea2
    have st2 : Rp F2 v2 (.str t) := st2
    cases st2
    refine ⟨s, t, rfl, rfl, h1, h2, fun p hp => ?_⟩
    exact ((NewV.lst b2.sub (rpa_strs (Txt.split s t)) hp (k := fun t => t = .lst p _) rfl).post b2 o2 (fun t e => by subst e; exact q2 p)).from (fr1.trans fr2)⟩
theorem w_join {P : R → Env → Prop} {apos : Pos} (h : WA Z X o env fun a1 e1 => ∃ s, a1 = .va (.str s) ∧ WA Z X e e1 fun a2 e2 => View a2 e2 fun d => ∃ ws : List Str, (d = .list (sDs ws) ∨ d = .tuple (sDs ws)) ∧ (ws.map (·.length)).sum + ws.length * s.length ≤ 16777216 ∧ P (.t (.va (.str (Txt.join s ws)))) e2)
    (hs : starEach [e] X.env = [(false, eval e X.env)] := by rfl) (hbase : attributeBase o "join" X.env (eval o X.env) = eval o X.env := by rfl) (hline : (apos.endLine == pos.line) = true := by rfl) :
    WE Z X (.Call (.Attribute o "join" apos) [e] [] pos) env P :=
  we_of (pe_join (pe_A (Z := Z)) (pe_A (Z := Z)) hs hbase hline) fun σ H F O b0 o0 => ⟨env, F, O, _, b0, o0, h, fun v H1 ⟨F1, O1, a1, e1, b1, o1, st1, fr1, s, ea, q⟩ => by
    subst ea
    have st1 : Rp F1 v (.str s) := st1
    cases st1
    refine ⟨⟨s, rfl⟩, e1, F1, O1, _, b1, o1, q, fun v2 H2 ⟨F2, O2, a2, e2, b2, o2, st2, fr2, q2⟩ => ?_⟩
    obtain ⟨d, w, ws, hd, hz, q2⟩ := View.vw q2 o2 st2
    rcases hd with rfl | rfl
    · obtain ⟨p, vs, rfl, h1, r1⟩ := w.lst' b2.sub
      rw [r1.strs] at h1
      exact ⟨s, p, ws, rfl, rfl, .inl (SqL.of h1), hz, (post_val b2 o2 (.str _) q2).from (fr1.trans fr2)⟩
    · obtain ⟨p, vs, rfl, h1, r1⟩ := w.tup
      rw [r1.strs] at h1
      exact ⟨s, p, ws, rfl, rfl, .inr (SqT.of (b2.sub _ _ h1)), hz, (post_val b2 o2 (.str _) q2).from (fr1.trans fr2)⟩⟩
/-! ### len(s), str(n), int(s) -/
def lenSG (ds : List D) (k : T → Prop) : Prop := ∃ z : Str, ds = [.str z] ∧ z.length ≤ sizeLine ∧ k (.va (.int (z.length : Int)))
theorem dc_lenS : DCall X (.builtin "len") lenSG := .of call_len_str fun H F vs ds k sF ws ⟨z, e, hz, h⟩ => by
  subst e
  obtain ⟨v, rfl, w⟩ := ws.one
  cases w.str
  exact ⟨z, rfl, hz, NewV.val sF (.int _) h⟩
def strIG (ds : List D) (k : T → Prop) : Prop := ∃ i : Int, ds = [.int i] ∧ i.natAbs.log2 < 1920 ∧ k (.va (.str (toString i)))
theorem dc_strI : DCall X (.type "str") strIG := .of call_str_int fun H F vs ds k sF ws ⟨i, e, hz, h⟩ => by
  subst e
  obtain ⟨v, rfl, w⟩ := ws.one
  cases w.int
  exact ⟨i, rfl, hz, NewV.val sF (.str _) h⟩
def intSG (ds : List D) (k : T → Prop) : Prop := ∃ (z : Str) (n : Int), ds = [.str z] ∧ PySem.intText? z = some n ∧ z.length ≤ 640 ∧ k (.va (.int n))
theorem dc_intS : DCall X (.type "int") intSG := .of call_int_str fun H F vs ds k sF ws ⟨z, n, e, h1, h2, h⟩ => by
  subst e
  obtain ⟨v, rfl, w⟩ := ws.one
  cases w.str
  exact ⟨z, n, rfl, h1, h2, NewV.val sF (.int _) h⟩
end
theorem kit_str : ∀ d, kitB (tyD d) "str" = some (isB d "str") := by intro d; cases d <;> (simp only [isB, tyD]; decide +kernel)
end QL

/-! QV: repr and str of data with dicts: only a dict's own address must be other than that of the modules' table. -/
namespace QL
open PySem PySem.Spec PyProof.Rows L2
/-- a value as it is read, and how it is shown -/
def ShK (P : Program) (w : World) (h : Heap) (u : Value) (d : D) : Prop := ∃ as bs, Reads h u d as ∧ ReadAtMost h d.depth bs ∧ ReprK P w bs h d.depth u d.shown
def ShA (P : Program) (w : World) (h : Heap) (us : List Value) (ds : List D) : Prop := ∃ as bs, ReadsAll h us ds as ∧ ReadAtMost h (PyData.depthAll ds) bs ∧ ReprAllK P w bs h (PyData.depthAll ds) us (PyData.shownAll ds)
theorem ShA.nil {P : Program} {w : World} {h : Heap} : ShA P w h [] [] := ⟨[], [], .nil, fun _ z => (nomatch z), by simp only [PyData.shownAll]; exact .nil⟩
theorem ShA.cons {P : Program} {w : World} {h : Heap} {u : Value} {us : List Value} {d : D} {ds : List D} (a : ShK P w h u d) (b : ShA P w h us ds) : ShA P w h (u :: us) (d :: ds) := by
  obtain ⟨as1, bs1, r1, m1, k1⟩ := a
  obtain ⟨as2, bs2, r2, m2, k2⟩ := b
  have e : PyData.depthAll (d :: ds) = max d.depth (PyData.depthAll ds) := by simp only [PyData.depthAll]
  refine ⟨as1 ++ as2, bs1 ++ bs2, .cons r1 r2, ?_, ?_⟩
  · rw [e]
    exact (m1.mono (Nat.le_max_left _ _)).append (m2.mono (Nat.le_max_right _ _))
  · rw [e]
    simp only [PyData.shownAll]
    exact .cons ((k1.more fun b hb => List.mem_append_left bs2 hb).level_le (Nat.le_max_left _ _)) (k2.more_le (fun b hb => List.mem_append_right bs1 hb) (Nat.le_max_right _ _))
/-- the texts of the parts are not longer than the whole -/
def fitsA (ds : List D) : Prop := ∀ t ∈ PyData.shownAll ds, t.length ≤ sizeLine
theorem fitsA.head {d : D} {ds : List D} (h : fitsA (d :: ds)) : d.shown.length ≤ sizeLine := h _ (by simp only [PyData.shownAll]; exact List.mem_cons_self)
theorem fitsA.tail {d : D} {ds : List D} (h : fitsA (d :: ds)) : fitsA ds := fun t ht => h t (by simp only [PyData.shownAll]; exact List.mem_cons_of_mem _ ht)
theorem fits_list {xs : List D} (h : (PyData.shown (.list xs)).length ≤ sizeLine) : fitsA xs := fun t ht => Nat.le_trans (listText_mem_le ht) (by simpa only [PyData.shown] using h)
theorem fits_tuple {xs : List D} (h : (PyData.shown (.tuple xs)).length ≤ sizeLine) : fitsA xs := fun t ht => Nat.le_trans (tupleText_mem_le ht) (by simpa only [PyData.shown] using h)
theorem fits_keys {kvs : List (D × D)} (h : (PyData.shown (.dict kvs)).length ≤ sizeLine) : fitsA (kvs.map (·.1)) := fun t ht => by
  obtain ⟨p, hp, hl⟩ := PyData.shownKv_key_le kvs t ht
  exact Nat.le_trans hl (Nat.le_trans (dictText_mem_le hp) (by simpa only [PyData.shown] using h))
theorem fits_vals {kvs : List (D × D)} (h : (PyData.shown (.dict kvs)).length ≤ sizeLine) : fitsA (kvs.map (·.2)) := fun t ht => by
  obtain ⟨p, hp, hl⟩ := PyData.shownKv_val_le kvs t ht
  exact Nat.le_trans hl (Nat.le_trans (dictText_mem_le hp) (by simpa only [PyData.shown] using h))
theorem keys_sh {P : Program} {w : World} {h : Heap} {Q : Program} : ∀ {es : List DictEntry} {vs : List (Key × Value)} {kvs : List (Key × V)} {ds : List (D × D)} {F : Hp}, PySem.Pairs (mixKind Q w) es vs → KV kvs vs → RpK F kvs ds →
    PyData.showableAll (ds.map (·.1)) = true → fitsA (ds.map (·.1)) → ShA P w h (es.map (·.key)) (ds.map (·.1))
  | _, _, _, _, _, .nil, r, q, _, _ => by cases r; cases q; exact ShA.nil
  | _, _, _, _, _, .cons hk hv t, r, q, hs, hf => by
    cases r with
    | cons r1 r2 =>
      cases q with
      | cons q1 q2 =>
        have hs' := hs
        simp only [List.map_cons, PyData.showableAll, Bool.and_eq_true] at hs'
        have ih := keys_sh (P := P) (h := h) t r2 q2 hs'.2 (fitsA.tail hf)
        obtain ⟨r1a, r1b⟩ := r1
        simp only at r1a
        subst r1a
        rcases keyIs_shape hk with ⟨i, t', e1, e2⟩ | ⟨x, t', e1, e2⟩
        · simp only [List.map_cons]
          rw [e1, e2]
          rw [e1] at hs'
          refine ShA.cons ⟨[], [], .int i t', fun _ z => (nomatch z), ?_⟩ ih
          exact .of_is (ReprIs.int t' (by simpa [kD, PyData.showable] using hs'.1)) _ _ _
        · simp only [List.map_cons]
          rw [e1, e2]
          have hf1 := fitsA.head hf
          rw [e1] at hf1
          exact ShA.cons ⟨[], [], .str x t', fun _ z => (nomatch z), .of_is (ReprIs.str x t' (by simpa only [kD, PyData.shown] using hf1)) _ _ _⟩ ih
section
variable {X : Cx} {pins : List (Addr × Obj)} {σ : L2.St} {H : Hp} {s : Shared}
mutual
theorem Rp.sh (I : Inv X pins σ H s) : ∀ {v : V} {d : D} {u : Value}, Rp H v d → L2.RelV v u → d.showable = true → d.shown.length ≤ sizeLine → ShK X.prog X.w s.heap u d
  | _, _, _, .non, r, _, _ => by cases r; exact ⟨[], [], .none, fun _ z => (nomatch z), .of_is ReprIs.none _ _ _⟩
  | _, _, _, .bl b, r, _, _ => by cases r; exact ⟨[], [], .bool b, fun _ z => (nomatch z), .of_is (ReprIs.bool b) _ _ _⟩
  | _, _, _, .int i, r, hs, _ => by
    obtain ⟨t, rfl⟩ := r
    exact ⟨[], [], .int i t, fun _ z => (nomatch z), .of_is (ReprIs.int t (by simpa [PyData.showable] using hs)) _ _ _⟩
  | _, _, _, .str x, r, _, hz => by
    obtain ⟨t, rfl⟩ := r
    exact ⟨[], [], .str x t, fun _ z => (nomatch z), .of_is (ReprIs.str x t (by simpa only [PyData.shown] using hz)) _ _ _⟩
  | _, _, _, .lst (ds := ds) h q, r, hs, hz => by
    cases r
    obtain ⟨its, rv, ⟨o, n, ho, hc, _, hd⟩, _⟩ := I.list (SqL.of h)
    obtain ⟨as, bs, r1, m1, k1⟩ := RpA.sh I q rv (by simpa [PyData.showable] using hs) (fits_list hz)
    have rd : Reads s.heap (.ref _) (.list ds) _ := .list ho hc hd r1
    have dp : PyData.depthAll ds < (PyData.list ds).depth := by simp only [PyData.depth]; omega
    refine ⟨_, _ :: bs, rd, ReadAtMost.cons rd (Nat.le_of_lt dp) m1, ?_⟩
    simp only [PyData.depth, PyData.shown]
    cases its with
    | nil =>
      cases r1
      simp only [PyData.shownAll, listText_nil]
      exact ReprK.listEmpty ho hc hd
    | cons x l => exact ReprK.list ho hc hd (not_mem_of_deeper rd dp m1) (by simpa using k1.length_eq) (fun i y e => k1.item i y (by simpa using e))
  | _, _, _, .tup (ds := ds) h q, r, hs, hz => by
    cases r
    obtain ⟨its, rv, ⟨o, ho, hc, n, hd⟩, _⟩ := I.tuple (SqT.of h)
    obtain ⟨as, bs, r1, m1, k1⟩ := RpA.sh I q rv (by simpa [PyData.showable] using hs) (fits_tuple hz)
    have rd : Reads s.heap (.ref _) (.tuple ds) _ := .tuple ho hc hd r1
    have dp : PyData.depthAll ds < (PyData.tuple ds).depth := by simp only [PyData.depth]; omega
    refine ⟨_, _ :: bs, rd, ReadAtMost.cons rd (Nat.le_of_lt dp) m1, ?_⟩
    simp only [PyData.depth, PyData.shown]
    exact ReprK.tuple ho hc hd (not_mem_of_deeper rd dp m1) k1
  | _, _, _, .dic (ds := ds) h q, r, hs, hz => by
    cases r
    obtain ⟨_, hsys, vs, rel, o, es, ep, ho, hx, hdat, _, hp, _⟩ := dk_rd I.hok h
    obtain ⟨hs1, hs2⟩ := PyData.showableKv_split ds (by simpa [PyData.showable] using hs)
    obtain ⟨as1, bs1, r1, m1, k1⟩ := keys_sh (P := X.prog) (h := s.heap) hp rel q hs1 (fits_keys hz)
    obtain ⟨as2, bs2, r2, m2, k2⟩ := RpK.sh I q rel hp hs2 (fits_vals hz)
    have rd : Reads s.heap (.ref _) (.dict ds) _ := .dict ho hx.1 hdat r1 r2
    have mm : ReadAtMost s.heap (PyData.depthKv ds) (bs1 ++ bs2) := (m1.mono (PyData.depthAll_keys_le ds)).append (m2.mono (PyData.depthAll_vals_le ds))
    have dp : PyData.depthKv ds < (PyData.dict ds).depth := by simp only [PyData.depth]; omega
    refine ⟨_, _ :: (bs1 ++ bs2), rd, ReadAtMost.cons rd (Nat.le_of_lt dp) mm, ?_⟩
    simp only [PyData.depth, PyData.shown, PyData.shownKv_eq]
    exact ReprK.dict ho hx.1 hdat hsys (not_mem_of_deeper rd dp mm) (ReprEntriesK.of_two es.toList _ _ (k1.more_le (fun b hb => List.mem_append_left bs2 hb) (PyData.depthAll_keys_le ds)) (k2.more_le (fun b hb => List.mem_append_right bs1 hb) (PyData.depthAll_vals_le ds)))
theorem RpA.sh (I : Inv X pins σ H s) : ∀ {vs : List V} {ds : List D} {us : List Value}, RpA H vs ds → Vals vs us → PyData.showableAll ds = true → fitsA ds → ShA X.prog X.w s.heap us ds
  | _, _, _, .nil, r, _, _ => by cases r; exact ShA.nil
  | _, _, _, .cons h q, r, hs, hz => by
    cases r with
    | cons r1 r2 =>
      simp only [PyData.showableAll, Bool.and_eq_true] at hs
      exact ShA.cons (Rp.sh I h r1 hs.1 (fitsA.head hz)) (RpA.sh I q r2 hs.2 (fitsA.tail hz))
theorem RpK.sh (I : Inv X pins σ H s) : ∀ {kvs : List (Key × V)} {ds : List (D × D)} {vs : List (Key × Value)} {es : List DictEntry}, RpK H kvs ds → KV kvs vs → PySem.Pairs (mixKind X.prog X.w) es vs → PyData.showableAll (ds.map (·.2)) = true → fitsA (ds.map (·.2)) →
    ShA X.prog X.w s.heap (es.map (·.val)) (ds.map (·.2))
  | _, _, _, _, .nil, r, p, _, _ => by cases r; cases p; exact ShA.nil
  | _, _, _, _, .cons h q, r, p, hs, hz => by
    cases r with
    | cons r1 r2 =>
      cases p with
      | cons p1 p2 p3 =>
        simp only [List.map_cons, PyData.showableAll, Bool.and_eq_true] at hs
        have a := Rp.sh I h r1.2 hs.1 (fitsA.head hz)
        have b := RpK.sh I q r2 p3 hs.2 (fitsA.tail hz)
        simp only [List.map_cons]
        rw [p2]
        exact ShA.cons a b
end
/-- repr(x), whatever plain data x is -/
def reprGD (ds : List D) (k : T → Prop) : Prop := ∃ d, ds = [d] ∧ showOk d ∧ k (.va (.str d.shown))
theorem dc_reprD (hg : X.A.guards = some []) (hu : X.A.units + 110 < cLine) : DCall X (.builtin "repr") reprGD := fun pins s σ H F vs us ds k I sF ws rv ⟨d, e, ⟨hs, hd, hz⟩, h⟩ => by
  subst e
  obtain ⟨v, rfl, w⟩ := ws.one
  obtain ⟨u, rfl, ru⟩ := rv.one
  have rp := w.rp sF
  have fin : ∀ {h' : Heap} {t tk : Nat}, Inv X pins σ H { s with heap := h', toks := tk } → EP X pins σ (NewV F H k) (.str d.shown t) { s with heap := h', toks := tk } := fun {h' t tk} I' => ⟨.str d.shown, H, I', ⟨t, rfl⟩, NewV.val sF (.str _) h⟩
  have slot : ∀ {a : Addr} {T idr : String}, s.TypeIs (.ref a) T → SlotG T "__repr__" idr →
      (∀ Q : Value → Shared → Prop, (∀ h' t tk, (∀ b o, s.heap.get? b = some o → h'.get? b = some o) → Q (.str d.shown t) { s with heap := h', toks := tk }) → wpAny (model X.prog X.w) X.A.in1 (call (.builtin idr) [.ref a]) Q X.xe s) →
      wpAny (model X.prog X.w) X.A (call (.builtin "repr") [.ref a]) (EP X pins σ (NewV F H k)) X.xe s := fun {a T idr} ty sl c =>
    call_repr_slot (by omega) ty sl (c _ fun h' t tk hk => ⟨_, _, rfl, fin (I.kept hk)⟩)
  have hg1 : X.A.in1.guards = some [] := hg
  have hu1 : ∀ n, n ≤ 100 → X.A.in1.units + n < cLine := fun n hn => by show X.A.units + 1 + n < cLine; omega
  cases rp with
  | non => cases ru; exact P.repr_of_none (fin (I.tok _))
  | bl b => cases ru; exact P.repr_of_bool (fin (I.tok _))
  | int i =>
    obtain ⟨t, rfl⟩ := ru
    exact P.repr_of_int (by simpa [PyData.showable] using hs) (fin (I.tok _))
  | str x =>
    obtain ⟨t, rfl⟩ := ru
    exact P.repr_of_str (fin (I.tok _)) hz
  | @lst a xs ds hl q =>
    cases ru
    obtain ⟨its, rv, ⟨o, n, ho, hc, _, hdat⟩, _⟩ := I.list (SqL.of hl)
    obtain ⟨as, bs, r1, m1, k1⟩ := RpA.sh I q rv (by simpa [PyData.showable] using hs) (fits_list hz)
    have rd : Reads s.heap (.ref a) (.list ds) _ := .list ho hc hdat r1
    have dp : PyData.depthAll ds < (PyData.list ds).depth := by simp only [PyData.depth]; omega
    refine slot ⟨o, ho, hc⟩ _root_.PySem.F.slot_list_repr.toG fun Q hQ => ?_
    have hd1 := hu1 _ hd
    simp only [PyData.depth] at hd1
    simp only [PyData.shown] at hQ hz
    cases its with
    | nil =>
      cases r1
      simp only [PyData.shownAll, listText_nil] at hQ
      exact call_list_repr_empty ⟨o, ho, hc⟩ ho hdat (hQ s.heap _ _ fun _ _ e => e)
    | cons x l => exact call_list_reprK ho hc hdat (not_mem_of_deeper rd dp m1) (by simpa using k1.length_eq) (fun i y e => k1.item i y (by simpa using e)) hg1 (fun b _ => Clear.nil b) hd1 (fun _ _ e => e) hQ hz
  | @tup a xs ds hl q =>
    cases ru
    obtain ⟨its, rv, ⟨o, ho, hc, n, hdat⟩, _⟩ := I.tuple (SqT.of hl)
    obtain ⟨as, bs, r1, m1, k1⟩ := RpA.sh I q rv (by simpa [PyData.showable] using hs) (fits_tuple hz)
    have rd : Reads s.heap (.ref a) (.tuple ds) _ := .tuple ho hc hdat r1
    have dp : PyData.depthAll ds < (PyData.tuple ds).depth := by simp only [PyData.depth]; omega
    refine slot ⟨o, ho, hc⟩ _root_.PySem.F.slot_tuple_repr fun Q hQ => ?_
    have hd1 := hu1 _ hd
    simp only [PyData.depth] at hd1
    simp only [PyData.shown] at hQ hz
    exact call_tuple_reprK ho hc hdat (not_mem_of_deeper rd dp m1) k1 hg1 (fun b _ => Clear.nil b) hd1 (fun _ _ e => e) hQ hz
  | @dic a kvs ds hl q =>
    cases ru
    obtain ⟨_, hsys, vs, rel, o, es, ep, ho, hx, hdat, _, hp, _⟩ := dk_rd I.hok hl
    obtain ⟨hs1, hs2⟩ := PyData.showableKv_split ds (by simpa [PyData.showable] using hs)
    obtain ⟨as1, bs1, r1, m1, k1⟩ := keys_sh (P := X.prog) (h := s.heap) hp rel q hs1 (fits_keys hz)
    obtain ⟨as2, bs2, r2, m2, k2⟩ := RpK.sh I q rel hp hs2 (fits_vals hz)
    have rd : Reads s.heap (.ref a) (.dict ds) _ := .dict ho hx.1 hdat r1 r2
    have mm : ReadAtMost s.heap (PyData.depthKv ds) (bs1 ++ bs2) := (m1.mono (PyData.depthAll_keys_le ds)).append (m2.mono (PyData.depthAll_vals_le ds))
    have dp : PyData.depthKv ds < (PyData.dict ds).depth := by simp only [PyData.depth]; omega
    refine slot ⟨o, ho, hx.1⟩ _root_.PySem.F.slot_dict_repr fun Q hQ => ?_
    have hd1 := hu1 _ hd
    simp only [PyData.depth] at hd1
    simp only [PyData.shown, PyData.shownKv_eq] at hQ hz
    exact call_dict_reprK ho hx.1 hdat hsys (not_mem_of_deeper rd dp mm) (ReprEntriesK.of_two es.toList _ _ (k1.more_le (fun b hb => List.mem_append_left bs2 hb) (PyData.depthAll_keys_le ds)) (k2.more_le (fun b hb => List.mem_append_right bs1 hb) (PyData.depthAll_vals_le ds))) hg1 (fun b _ => Clear.nil b) hd1 (fun _ _ e => e) hQ hz
end
end QL

/-! QU: data of any kind whose text is short. -/
namespace QL
open PySem PySem.Spec PyProof.Rows L2
mutual
def okD : D → Bool
  | .none => true
  | .bool _ => true
  | .int i => decide (i.natAbs < 2 ^ 200)
  | .str x => x.cps.toList.all fun c => decide (c < 16 ^ 8)
  | .list xs => okA xs
  | .tuple xs => okA xs
  | .dict kvs => okK kvs
def okA : List D → Bool
  | [] => true
  | x :: xs => okD x && okA xs
def okK : List (D × D) → Bool
  | [] => true
  | (a, b) :: r => okD a && okD b && okK r
end
mutual
theorem ok_sh : ∀ d : D, okD d = true → d.leavesShort 256 = true ∧ d.showable = true
  | .none, _ => ⟨rfl, rfl⟩
  | .bool _, _ => ⟨rfl, rfl⟩
  | .int i, h => by
    obtain ⟨h1, h2, h3⟩ := small_int (of_decide_eq_true (by simpa only [okD] using h))
    exact ⟨by simp only [PyData.leavesShort, decide_eq_true_eq]; exact h1, by simp only [PyData.showable, decide_eq_true_eq]; exact h3⟩
  | .str x, h => ⟨by simp only [PyData.leavesShort]; simpa only [okD] using h, rfl⟩
  | .list xs, h => by
    obtain ⟨h1, h2⟩ := ok_shA xs (by simpa only [okD] using h)
    exact ⟨by simpa only [PyData.leavesShort] using h1, by simpa only [PyData.showable] using h2⟩
  | .tuple xs, h => by
    obtain ⟨h1, h2⟩ := ok_shA xs (by simpa only [okD] using h)
    exact ⟨by simpa only [PyData.leavesShort] using h1, by simpa only [PyData.showable] using h2⟩
  | .dict kvs, h => by
    obtain ⟨h1, h2⟩ := ok_shK kvs (by simpa only [okD] using h)
    exact ⟨by simpa only [PyData.leavesShort] using h1, by simpa only [PyData.showable] using h2⟩
theorem ok_shA : ∀ ds : List D, okA ds = true → PyData.leavesShortAll 256 ds = true ∧ PyData.showableAll ds = true
  | [], _ => ⟨rfl, rfl⟩
  | d :: ds, h => by
    simp only [okA, Bool.and_eq_true] at h
    obtain ⟨h1, h2⟩ := ok_sh d h.1
    obtain ⟨g1, g2⟩ := ok_shA ds h.2
    exact ⟨by simp only [PyData.leavesShortAll, h1, g1, Bool.and_self], by simp only [PyData.showableAll, h2, g2, Bool.and_self]⟩
theorem ok_shK : ∀ ds : List (D × D), okK ds = true → PyData.leavesShortKv 256 ds = true ∧ PyData.showableKv ds = true
  | [], _ => ⟨rfl, rfl⟩
  | (a, b) :: ds, h => by
    simp only [okK, Bool.and_eq_true] at h
    obtain ⟨h1, h2⟩ := ok_sh a h.1.1
    obtain ⟨k1, k2⟩ := ok_sh b h.1.2
    obtain ⟨g1, g2⟩ := ok_shK ds h.2
    exact ⟨by simp only [PyData.leavesShortKv, h1, k1, g1, Bool.and_self], by simp only [PyData.showableKv, h2, k2, g2, Bool.and_self]⟩
end
/-- short data: depth, weight -/
structure Short (n w : Nat) (d : D) : Prop where
  ok : okD d = true
  dp : d.depth ≤ n
  wt : d.weight ≤ w
theorem Short.show_ {n w : Nat} {d : D} (h : Short n w d) (hn : n ≤ 100) (hw : w ≤ 60000) : showOk d := by
  obtain ⟨h1, h2⟩ := ok_sh d h.ok
  have := PyData.shown_le 256 (by decide) d h1
  refine ⟨h2, Nat.le_trans h.dp hn, ?_⟩
  show d.shown.length ≤ 16777216
  have := h.wt
  omega
theorem Short.le {n w n' w' : Nat} {d : D} (h : Short n w d) (hn : n ≤ n') (hw : w ≤ w') : Short n' w' d := ⟨h.ok, Nat.le_trans h.dp hn, Nat.le_trans h.wt hw⟩
theorem Short.tup1 {n w : Nat} {d : D} (h : Short n w d) : Short (n + 1) (w + 3) (.tuple [d]) := by
  have := h.dp
  have := h.wt
  exact ⟨by simp only [okD, okA, h.ok, Bool.and_self], by simp only [PyData.depth, PyData.depthAll]; omega, by simp only [PyData.weight, PyData.weightAll]; omega⟩
theorem Short.lst1 {n w : Nat} {d : D} (h : Short n w d) : Short (n + 1) (w + 3) (.list [d]) := by
  have := h.dp
  have := h.wt
  exact ⟨by simp only [okD, okA, h.ok, Bool.and_self], by simp only [PyData.depth, PyData.depthAll]; omega, by simp only [PyData.weight, PyData.weightAll]; omega⟩
theorem Short.dic1 {n w : Nat} {d : D} {x : Str} (h : Short n w d) (hx : okD (.str x) = true) (hl : x.cps.size ≤ 1) : Short (n + 1) (w + 3) (.dict [(.str x, d)]) := by
  have := h.dp
  have := h.wt
  exact ⟨by simp only [okD, okK, h.ok, Bool.and_true]; simpa only [okD] using hx, by simp only [PyData.depth, PyData.depthKv]; omega, by simp only [PyData.weight, PyData.weightKv]; omega⟩
end QL

/-! QTV: sources: words of small letters, one blank between. -/
namespace QL
open PySem PySem.Spec PyProof.Rows L2
abbrev LETS : Str := "abcdefghijklmnopqrstuvwxyz"
def lets : List Nat := stl LETS
theorem lets_mem {c : Nat} : c ∈ lets ↔ 97 ≤ c ∧ c ≤ 122 := by
  have e : lets = (List.range 26).map (· + 97) := by decide +kernel
  rw [e, List.mem_map]
  constructor
  · rintro ⟨k, hk, rfl⟩
    have := List.mem_range.mp hk
    omega
  · intro h
    exact ⟨c - 97, List.mem_range.mpr (by omega), by omega⟩
/-- a word goes on, or is begun -/
def begun (l : List Nat) (i : Nat) : Bool := decide (0 < i) && !decide (l[i - 1]? = some 32)
def okC (l : List Nat) (i c : Nat) : Bool := decide (c ∈ lets) || (decide (c = 32) && begun l i)
def fb (l : List Nat) : Nat → Nat → Option Nat
  | 0, _ => none
  | n + 1, i => match l[i]? with
    | none => none
    | some c => if okC l i c = true then fb l n (i + 1) else some i
/-- the sign with which no source goes on -/
def wr (l : List Nat) : Option Nat := match fb l l.length 0 with
  | some i => some i
  | none => if l.getLast? = some 32 then some l.length else none
theorem fb_bad {l : List Nat} {k c : Nat} (hk : l[k]? = some c) (hb : okC l k c = false) : ∀ (n i : Nat), i ≤ k → k < i + n → (∀ j c, i ≤ j → j < k → l[j]? = some c → okC l j c = true) → fb l n i = some k := fun n => by
  induction n with
  | zero => intro i h1 h2; omega
  | succ n ih =>
    intro i h1 h2 h3
    have hl : k < l.length := by
      rcases Nat.lt_or_ge k l.length with z | z
      · exact z
      · rw [List.getElem?_eq_none z] at hk; cases hk
    unfold fb
    by_cases e : i = k
    · subst e
      rw [hk]
      simp [hb]
    · have hi : l[i]? = some l[i] := List.getElem?_eq_getElem (by omega)
      rw [hi]
      simp only [h3 i _ (Nat.le_refl _) (by omega) hi, if_true]
      exact ih (i + 1) (by omega) (by omega) fun j c g1 g2 g3 => h3 j c (by omega) g2 g3
theorem fb_end {l : List Nat} : ∀ (n i : Nat), (∀ j c, i ≤ j → l[j]? = some c → okC l j c = true) → fb l n i = none := fun n => by
  induction n with
  | zero => intro i _; rfl
  | succ n ih =>
    intro i h
    unfold fb
    cases e : l[i]? with
    | none => rfl
    | some c =>
      simp only [h i c (Nat.le_refl _) e, if_true]
      exact ih (i + 1) fun j c g1 g2 => h j c (by omega) g2
theorem wr_bad {l : List Nat} {k c : Nat} (hk : l[k]? = some c) (hb : okC l k c = false) (h : ∀ j c, j < k → l[j]? = some c → okC l j c = true) : wr l = some k := by
  have hl : k < l.length := by
    rcases Nat.lt_or_ge k l.length with z | z
    · exact z
    · rw [List.getElem?_eq_none z] at hk; cases hk
  unfold wr
  rw [fb_bad hk hb l.length 0 (Nat.zero_le _) (by omega) fun j c _ g2 g3 => h j c g2 g3]
theorem wr_end {l : List Nat} (h : ∀ j c, l[j]? = some c → okC l j c = true) : wr l = if l.getLast? = some 32 then some l.length else none := by
  unfold wr
  rw [fb_end l.length 0 fun j c _ g => h j c g]
theorem blank_cps : stl (" " : Str) = [32] := by decide +kernel
theorem sg_blank (c : Nat) : decide ((⟨#[c]⟩ : Str) = " ") = decide (c = 32) := by
  have e : (" " : Str) = ⟨#[32]⟩ := by decide +kernel
  rw [e, decide_eq_decide]
  constructor
  · intro h; injection h with h; simpa using h
  · intro h; rw [h]
theorem str_nil (s : Str) : decide (s = "") = decide (stl s = []) := by
  rw [decide_eq_decide]
  constructor
  · intro h; rw [h]; decide +kernel
  · intro h; exact TL.ext_tl (by rw [show TL.tl s = stl s from rfl, h]; decide +kernel)
theorem len_stl (s : Str) : s.length = (stl s).length := TL.len_tl s
theorem stl_app (a b : Str) : stl (a ++ b) = stl a ++ stl b := TL.tl_append a b
theorem ends_blank (s : Str) : Txt.endswith s " " = decide ((stl s).getLast? = some 32) := by
  have hb : (" " : Str).length = 1 := by decide +kernel
  have hn := len_stl s
  unfold Txt.endswith
  rw [PySem.StrLaws.subAt_eq, hb, show (" " : Str).cps.toList = [32] from blank_cps]
  rcases List.eq_nil_or_concat (stl s) with e | ⟨ms, x, e⟩
  · rw [e] at hn
    have h0 : s.length = 0 := hn
    rw [h0, show s.cps.toList = [] from e, e]
    rfl
  · rw [List.concat_eq_append] at e
    rw [e, List.length_append, List.length_singleton] at hn
    rw [hn, show s.cps.toList = ms ++ [x] from e, e]
    have hd : (ms ++ [x]).drop (ms.length + 1 - 1) = [x] := by rw [Nat.add_sub_cancel, List.drop_left]
    rw [hd, List.getLast?_append]
    have e2 : (x == 32) = decide (x = 32) := by by_cases z : x = 32 <;> simp [z]
    simp [e2]
theorem begun_zero (l : List Nat) : begun l 0 = false := rfl
theorem begun_succ {l : List Nat} {i c : Nat} (h : l[i]? = some c) : begun l (i + 1) = !decide (c = 32) := by
  unfold begun
  rw [Nat.add_sub_cancel, h]
  simp
theorem begun_end (l : List Nat) : (decide (l ≠ []) && !begun l l.length) = decide (l.getLast? = some 32) := by
  rcases List.eq_nil_or_concat l with e | ⟨ms, x, e⟩
  · rw [e]; rfl
  · rw [List.concat_eq_append] at e
    subst e
    rw [List.length_append, List.length_singleton, begun_succ (c := x) (by simp), List.getLast?_append]
    simp
/-- the words of a source, as data -/
def wordsD (s : Str) : D := .tuple (if s = "" then [] else sDs (Txt.split s " "))
/-! ### texts to be shown -/
def okS (s : Str) : Bool := okD (.str s)
theorem okS_iff {s : Str} : okS s = true ↔ ∀ c ∈ stl s, c < 16 ^ 8 := by
  unfold okS
  simp only [okD]
  rw [List.all_eq_true]
  exact ⟨fun h c hc => of_decide_eq_true (h c hc), fun h c hc => decide_eq_true (h c hc)⟩
theorem okS_app {a b : Str} (ha : okS a = true) (hb : okS b = true) : okS (a ++ b) = true := okS_iff.mpr fun c hc => by
  rw [stl_app] at hc
  exact (List.mem_append.mp hc).elim (okS_iff.mp ha c) (okS_iff.mp hb c)
theorem stl_cut (z : Str) (lo hi : Option Int) : stl (cutS z lo hi) = ((stl z).drop (HT.sIx z.length 0 lo)).take (HT.sIx z.length z.length hi - HT.sIx z.length 0 lo) := rfl
theorem okS_cut {z : Str} (h : okS z = true) (lo hi : Option Int) : okS (cutS z lo hi) = true := okS_iff.mpr fun c hc => okS_iff.mp h c (List.mem_of_mem_drop (List.mem_of_mem_take hc))
theorem sIx_nat (n q d : Nat) (h : q ≤ n) : HT.sIx n d (some (q : Int)) = q := by
  unfold HT.sIx
  simp
  rw [if_neg (by omega)]
  omega
theorem cut_toS (z : Str) (q : Nat) (h : q ≤ z.length) : stl (cutS z none (some (q : Int))) = (stl z).take q := by
  rw [stl_cut, sIx_nat _ _ _ h, show HT.sIx z.length 0 none = 0 from rfl, List.drop_zero, Nat.sub_zero]
theorem cut_fromS (z : Str) (q : Nat) (h : q ≤ z.length) : stl (cutS z (some (q : Int)) none) = (stl z).drop q := by
  rw [stl_cut, sIx_nat _ _ _ h, show HT.sIx z.length z.length none = z.length from rfl]
  refine List.take_of_length_le ?_
  rw [List.length_drop, len_stl]
  omega
theorem short_str {s : Str} {n w : Nat} (h : okS s = true) (hl : s.length ≤ w) : Short n w (.str s) := ⟨h, Nat.zero_le _, by show s.cps.size ≤ w; exact hl⟩
/-- the parts of a text -/
theorem spl_bd (S : List Nat) : ∀ (l : List Nat) (k : Nat) (acc : List Nat), (((TL.spl S k acc l).map List.length).sum ≤ acc.length + l.length) ∧ (TL.spl S k acc l).length ≤ l.length + 1 ∧ ∀ p ∈ TL.spl S k acc l, ∀ c ∈ p, c ∈ acc ∨ c ∈ l
  | [], k, acc => by
    rw [TL.spl_nil]
    exact ⟨by simp, by simp, fun p hp c hc => by rw [List.mem_singleton.mp hp] at hc; exact .inl hc⟩
  | x :: r, 0, acc => by
    cases e : TL.pre S (x :: r) with
    | true =>
      rw [TL.spl_hit e]
      obtain ⟨h1, h2, h3⟩ := spl_bd S r (S.length - 1) []
      refine ⟨by simp at h1 ⊢; omega, by simp; omega, fun p hp c hc => ?_⟩
      rcases List.mem_cons.mp hp with z | z
      · rw [z] at hc; exact .inl hc
      · exact .inr (List.mem_cons_of_mem _ ((h3 p z c hc).elim (fun q => nomatch q) fun q => q))
    | false =>
      rw [TL.spl_miss e]
      obtain ⟨h1, h2, h3⟩ := spl_bd S r 0 (acc ++ [x])
      refine ⟨by simp at h1 ⊢; omega, by simp; omega, fun p hp c hc => ?_⟩
      rcases h3 p hp c hc with z | z
      · rcases List.mem_append.mp z with z | z
        · exact .inl z
        · rw [List.mem_singleton.mp z]; exact .inr List.mem_cons_self
      · exact .inr (List.mem_cons_of_mem _ z)
  | x :: r, k + 1, acc => by
    obtain ⟨h1, h2, h3⟩ := spl_bd S r k acc
    have e : TL.spl S (k + 1) acc (x :: r) = TL.spl S k acc r := rfl
    rw [e]
    exact ⟨by simp at h1 ⊢; omega, by simp; omega, fun p hp c hc => (h3 p hp c hc).imp id (List.mem_cons_of_mem _)⟩
theorem split_map (s : Str) : (Txt.split s " ").map stl = TL.spl [32] 0 [] (stl s) := by
  have h := TL.split_spl s " " (by rw [show TL.tl " " = [32] from blank_cps]; simp) (TL.kind_ok (by decide +kernel))
  rw [show TL.tl " " = [32] from blank_cps] at h
  exact h
theorem split_bd (s : Str) : ((Txt.split s " ").map fun w => w.length).sum ≤ s.length ∧ (Txt.split s " ").length ≤ s.length + 1 ∧ ∀ w ∈ Txt.split s " ", ∀ c ∈ stl w, c ∈ stl s := by
  obtain ⟨h1, h2, h3⟩ := spl_bd [32] (stl s) 0 []
  rw [← split_map, List.map_map] at h1
  rw [← split_map, List.length_map] at h2
  have hn := len_stl s
  have e : ((Txt.split s " ").map fun w => w.length) = (Txt.split s " ").map (List.length ∘ stl) := List.map_congr_left fun w _ => len_stl w
  refine ⟨by rw [e]; have h9 : (List.map (List.length ∘ stl) (Txt.split s " ")).sum ≤ 0 + (stl s).length := h1; omega, by omega, fun w hw c hc => ?_⟩
  rw [← split_map] at h3
  exact (h3 _ (List.mem_map.mpr ⟨w, hw, rfl⟩) c hc).elim (fun z => nomatch z) fun z => z
theorem weight_strs (ws : List Str) : PyData.weightAll (sDs ws) = (ws.map fun w => w.length).sum + ws.length := by
  induction ws with
  | nil => rfl
  | cons w ws ih =>
    simp only [List.map_cons, PyData.weightAll, ih, List.sum_cons, List.length_cons, PyData.weight]
    show w.cps.size + 1 + _ = w.cps.size + _ + _
    omega
theorem ok_strs {ws : List Str} (h : ∀ w ∈ ws, okS w = true) : okA (sDs ws) = true := by
  induction ws with
  | nil => rfl
  | cons w ws ih =>
    simp only [List.map_cons, okA, Bool.and_eq_true]
    exact ⟨h w List.mem_cons_self, ih fun x hx => h x (List.mem_cons_of_mem _ hx)⟩
theorem depth_strs (ws : List Str) : PyData.depthAll (sDs ws) = 0 := by
  induction ws with
  | nil => rfl
  | cons w ws ih => simp only [List.map_cons, PyData.depthAll, ih, PyData.depth]; rfl
theorem short_words {s : Str} (h : okS s = true) : Short 1 (2 * s.length + 1) (wordsD s) := by
  unfold wordsD
  split
  · exact ⟨rfl, by decide, Nat.zero_le _⟩
  · obtain ⟨h1, h2, h3⟩ := split_bd s
    refine ⟨?_, ?_, ?_⟩
    · simp only [okD]
      exact ok_strs fun w hw => okS_iff.mpr fun c hc => okS_iff.mp h c (h3 w hw c hc)
    · simp only [PyData.depth, depth_strs]; decide
    · simp only [PyData.weight, weight_strs]
      omega
/-! ### signs joined -/
theorem join_signs (cs : List Nat) : stl (Txt.join "" (cs.map fun c => (⟨#[c]⟩ : Str))) = cs := by
  rw [TL.join_eq]
  have h := TL.tl_join "" (cs.map fun c => (⟨#[c]⟩ : Str))
  rw [show TL.tl "" = [] from by decide +kernel] at h
  refine h.trans ?_
  rw [List.map_map]
  have key : ∀ cs : List Nat, TL.joinL [] (cs.map (TL.tl ∘ fun c => (⟨#[c]⟩ : Str))) = cs := fun cs => by
    induction cs with
    | nil => rfl
    | cons c cs ih =>
      cases cs with
      | nil => rfl
      | cons d ds =>
        show [c] ++ ([] ++ TL.joinL [] ((d :: ds).map (TL.tl ∘ fun c => (⟨#[c]⟩ : Str)))) = c :: d :: ds
        rw [ih]; rfl
  exact key cs
theorem join_words (ws : List Str) : stl (Txt.join " " ws) = TL.joinL [32] (ws.map stl) := by
  rw [TL.join_eq]
  have h := TL.tl_join " " ws
  rw [show TL.tl " " = [32] from blank_cps] at h
  exact h
theorem joinL_bd (ps : List (List Nat)) : (TL.joinL [32] ps).length ≤ (ps.map List.length).sum + ps.length ∧ ∀ c ∈ TL.joinL [32] ps, c = 32 ∨ ∃ p ∈ ps, c ∈ p := by
  induction ps with
  | nil => exact ⟨Nat.le_refl _, fun _ h => nomatch h⟩
  | cons p ps ih =>
    cases ps with
    | nil => exact ⟨by simp [TL.joinL], fun c h => .inr ⟨p, List.mem_cons_self, h⟩⟩
    | cons q r =>
      obtain ⟨h1, h2⟩ := ih
      have e : TL.joinL [32] (p :: q :: r) = p ++ ([32] ++ TL.joinL [32] (q :: r)) := rfl
      rw [e]
      refine ⟨by simp at h1 ⊢; omega, fun c hc => ?_⟩
      rcases List.mem_append.mp hc with z | z
      · exact .inr ⟨p, List.mem_cons_self, z⟩
      rcases List.mem_append.mp z with z | z
      · exact .inl (List.mem_singleton.mp z)
      · exact (h2 c z).imp id fun ⟨x, hx, hcx⟩ => ⟨x, List.mem_cons_of_mem _ hx, hcx⟩
/-- words of small letters, one blank between: the source -/
structure Sent (ws : List Str) (m : Nat) : Prop where
  len : ∀ w ∈ ws, 1 ≤ w.length ∧ w.length ≤ m
  let_ : ∀ w ∈ ws, ∀ c ∈ stl w, c ∈ lets
theorem Sent.bd {ws : List Str} {m : Nat} (h : Sent ws m) : (Txt.join " " ws).length ≤ ws.length * (m + 1) ∧ okS (Txt.join " " ws) = true := by
  have hb := joinL_bd (ws.map stl)
  have hs : ((ws.map stl).map List.length).sum ≤ ws.length * m := by
    have : ∀ ws : List Str, (∀ w ∈ ws, w.length ≤ m) → ((ws.map stl).map List.length).sum ≤ ws.length * m := fun ws => by
      induction ws with
      | nil => intro _; exact Nat.zero_le _
      | cons w ws ih =>
        intro hw
        have h1 := hw w List.mem_cons_self
        have h2 := ih fun x hx => hw x (List.mem_cons_of_mem _ hx)
        have h3 := len_stl w
        simp only [List.map_cons, List.sum_cons, List.length_cons, Nat.add_mul, Nat.one_mul]
        omega
    exact this ws fun w hw => (h.len w hw).2
  constructor
  · rw [len_stl, join_words, Nat.mul_add, Nat.mul_one]
    have := hb.1
    rw [List.length_map] at this
    omega
  · refine okS_iff.mpr fun c hc => ?_
    rw [join_words] at hc
    rcases hb.2 c hc with z | ⟨p, hp, hcp⟩
    · rw [z]; decide
    · obtain ⟨w, hw, rfl⟩ := List.mem_map.mp hp
      have := lets_mem.mp (h.let_ w hw c hcp)
      have b : (122 : Nat) < 16 ^ 8 := by decide
      omega
theorem Sent.snoc {ws : List Str} {m : Nat} (h : Sent ws m) {w : Str} (h1 : 1 ≤ w.length) (h2 : w.length ≤ m) (h3 : ∀ c ∈ stl w, c ∈ lets) : Sent (ws ++ [w]) m :=
  ⟨fun x hx => (List.mem_append.mp hx).elim (h.len x) fun z => by rw [List.mem_singleton.mp z]; exact ⟨h1, h2⟩, fun x hx => (List.mem_append.mp hx).elim (h.let_ x) fun z => by rw [List.mem_singleton.mp z]; exact h3⟩
end QL

/-! QTV2: one sign times n. -/
namespace QL
open PySem PySem.Spec PyProof.Rows L2
theorem stl_rep (z : Str) (n : Nat) : stl (repS z n) = (List.replicate n (stl z)).flatten := by
  unfold repS
  have key : ∀ (n : Nat) (acc : Array Nat), ((List.replicate n z.cps).foldl (· ++ ·) acc).toList = acc.toList ++ (List.replicate n (stl z)).flatten := fun n => by
    induction n with
    | zero => intro acc; simp
    | succ n ih =>
      intro acc
      rw [List.replicate_succ, List.foldl_cons, ih, List.replicate_succ, List.flatten_cons]
      simp
  simpa using key n #[]
theorem rep_one (z : Str) : repS z 1 = z := TL.ext_tl (by
  show stl (repS z 1) = stl z
  rw [stl_rep]; simp)
theorem rep_len (c : Nat) (n : Nat) : (repS ⟨#[c]⟩ n).length = n := by
  rw [len_stl, stl_rep]
  simp
theorem okS_rep {z : Str} (h : okS z = true) (n : Nat) : okS (repS z n) = true := okS_iff.mpr fun c hc => by
  rw [stl_rep] at hc
  obtain ⟨l, hl, hcl⟩ := List.mem_flatten.mp hc
  rw [(List.mem_replicate.mp hl).2] at hcl
  exact okS_iff.mp h c hcl
def mulSD (d1 d2 : D) (k : T → Prop) : Prop := ∃ (c : Nat) (n : Int), d1 = sgS c ∧ d2 = .int n ∧ 1 ≤ n ∧ n ≤ 100000 ∧ k (.va (.str (repS ⟨#[c]⟩ n.toNat)))
theorem dop_mulS {X : Cx} : DOp X (binaryOp .Mult) mulSD := by
  intro pins s σ H F v1 v2 u1 u2 d1 d2 k I sF w1 w2 r1 r2 ⟨c, n, e1, e2, h1, h2, q⟩
  subst e1 e2
  cases w1.str
  cases w2.int
  obtain ⟨t, rfl⟩ := r1
  obtain ⟨t', rfl⟩ := r2
  have hlen : (⟨#[c]⟩ : Str).length = 1 := rfl
  refine PySem.P.mul_str ?_ (fun _ _ => ?_) (fun _ _ => ?_) ?_
  · rw [decide_eq_false (by omega : ¬ n < -(2 ^ 63 : Int)), decide_eq_false (by omega : ¬ n ≥ 2 ^ 63)]; rfl
  · rw [hlen]
    have : (1 : Int) ≤ (2 ^ 63 - 1) / n := by
      rw [Int.le_ediv_iff_mul_le (by omega)]
      omega
    omega
  · rw [hlen]
    show decide (1 * n.toNat > sizeLine) = false
    rw [sizeLine_eq]
    exact decide_eq_false (by omega)
  · rw [if_neg (by omega)]
    by_cases e : n = 1
    · subst e
      rw [if_pos (by rfl)]
      exact ⟨.str _, H, I, ⟨t, rfl⟩, NewV.val sF (.str _) (by rw [show (1 : Int).toNat = 1 from rfl, rep_one] at q; exact q)⟩
    · have hb : (n == 1) = false := by simpa using e
      rw [if_neg (by rw [hb, hlen]; decide)]
      refine ⟨?_, ⟨.str (repS ⟨#[c]⟩ n.toNat), H, I.tok _, ⟨_, rfl⟩, NewV.val sF (.str _) q⟩⟩
      show (repS ⟨#[c]⟩ n.toNat).length ≤ sizeLine
      rw [rep_len, sizeLine_eq]
      omega
end QL

/-! QTx: a op b op c as a test. -/
namespace QL
open PySem PySem.Spec PyProof.Rows L2
section
variable {Tq : List (Addr × Str)} {Z : Zb Tq} {X : Cx} {env : Env} {a b c : Expr} {pos : Pos}
theorem wt_chain {op op' : CmpOp} {g g' : D → D → (T → Prop) → Prop} {P : Bool → Env → Prop} (ho : DOp X (compareOp op) g) (ho' : DOp X (compareOp op') g')
    (h : WA Z X a env fun a1 e1 => WA Z X b e1 fun a2 e2 => View a1 e2 fun d1 => View a2 e2 fun d2 => g d1 d2 fun t => ∃ k, t = .va (.bool k) ∧ (k = true → WA Z X c e2 fun a3 e3 => View a2 e3 fun d2' => View a3 e3 fun d3 => g' d2' d3 fun t => ∃ k, t = .va (.bool k) ∧ P k e3) ∧ (k = false → P false e2))
    (hm : lastMarks [op, op'] [b, c] = false := by with_unfolding_all rfl) : WT Z X (.Compare a [op, op'] [b, c] pos) env P :=
  wt_of (pt_chain ho.r ho'.r (pe_A (Z := Z)) (pe_A (Z := Z)) (pe_A (Z := Z)) hm) fun σ H F O b0 o => by
    refine ⟨env, F, O, _, b0, o, h, fun v1 H1 ⟨F1, O1, a1, e1, b1, o1, st1, fr1, h1⟩ => ?_⟩
    refine ⟨e1, F1, O1, _, b1, o1, h1, fun v2 H2 ⟨F2, O2, a2, e2, b2, o2, st2, fr2, h2⟩ => ?_⟩
    obtain ⟨d1, w1, h3⟩ := View.vw h2 o2 (st1.mono fr2.fz)
    obtain ⟨d2, w2, h4⟩ := View.vw h3 o2 st2
    refine ⟨F2, d1, d2, _, b2.sub, w1, w2, h4, fun v H3 n => ?_⟩
    obtain ⟨F3, O3, r3, e3, b3, st3, fr3, ee, k, er, hT, hF⟩ := n.post b2 o2 (P := fun r e => e = e2 ∧ ∃ k, r = .t (.va (.bool k)) ∧ (k = true → WA Z X c e2 fun a3 e3 => View a2 e3 fun d2' => View a3 e3 fun d3 => g' d2' d3 fun t => ∃ k, t = .va (.bool k) ∧ P k e3) ∧ (k = false → P false e2))
      fun t ⟨k, e, q⟩ => ⟨rfl, k, by rw [e], q⟩
    subst er ee
    obtain ⟨Oa, Ob, rfl, o3, w3⟩ := st3
    cases w3 with
    | va r =>
      cases r with
      | bl k =>
        rw [List.append_nil] at b3 fr3
        refine ⟨k, rfl, ?_⟩
        cases k with
        | false => exact iteF ⟨false, rfl, F3, Oa, e3, b3, o3, (fr1.trans fr2).trans fr3, hF rfl⟩
        | true =>
          refine iteT ⟨e3, F3, Oa, _, b3, o3, hT rfl, fun v4 H4 ⟨F4, O4, a3, e4, b4, o4, st4, fr4, h5⟩ => ?_⟩
          obtain ⟨d2', w5, h6⟩ := View.vw h5 o4 (st2.mono (fr3.fz.trans fr4.fz))
          obtain ⟨d3, w6, h7⟩ := View.vw h6 o4 st4
          refine ⟨F4, d2', d3, _, b4.sub, w5, w6, h7, fun v H' n => ?_⟩
          obtain ⟨k, F5, O5, e5, rfl, b5, o5, fr5, p⟩ := post_bool (K := P) (n.post b4 o4 (P := fun r e1 => ∃ k, r = .t (.va (.bool k)) ∧ P k e1) fun t ⟨k, e, q⟩ => ⟨k, by rw [e], q⟩)
          exact ⟨k, rfl, F5, O5, e5, b5, o5, (((fr1.trans fr2).trans fr3).trans fr4).trans fr5, p⟩
end
end QL

namespace K56
open PySem PySem.Spec PyProof.Rows L2 QL
open LM
def digs : List Nat := stl "0123456789"
theorem digs_mem {c : Nat} : c ∈ digs ↔ 48 ≤ c ∧ c ≤ 57 := by
  have e : digs = (List.range 10).map (· + 48) := by decide +kernel
  rw [e, List.mem_map]
  constructor
  · rintro ⟨k, hk, rfl⟩
    have := List.mem_range.mp hk
    omega
  · intro h
    exact ⟨c - 48, List.mem_range.mpr (by omega), by omega⟩
/-- one to ten digits -/
def numOk (l : List Nat) : Bool := (decide (1 ≤ l.length) && decide (l.length ≤ 10)) && (l.map fun c => decide (c ∈ digs)).all id
def numV (l : List Nat) : Int := (NumText.digitsVal l : Nat)
def lead0 (l : List Nat) : Bool := decide (l[0]? = some 48)
def numD (w : Str) : D := if numOk (stl w) = true ∧ (w = "0" ∨ lead0 (stl w) = false) then .int (numV (stl w)) else .none
theorem num_int {w : Str} (h : numOk (stl w) = true) : PySem.intText? w = some (numV (stl w)) ∧ w.length ≤ 640 := by
  unfold numOk at h
  rw [Bool.and_eq_true, Bool.and_eq_true, decide_eq_true_eq, decide_eq_true_eq, List.all_map] at h
  have hn := len_stl w
  have hd : NumText.AllDigits w.cps.toList := fun c hc => digs_mem.mp (of_decide_eq_true (List.all_eq_true.mp h.2 c hc))
  exact ⟨PySem.intText_digits hd (fun e => by rw [show stl w = [] from e] at h; exact absurd h.1.1 (by decide)) (by omega), by omega⟩
theorem sg_zero (c : Nat) : decide ((⟨#[c]⟩ : Str) = "0") = decide (c = 48) := by
  have e : ("0" : Str) = ⟨#[48]⟩ := by decide +kernel
  rw [e, decide_eq_decide]
  constructor
  · intro h; injection h with h; simpa using h
  · intro h; rw [h]
theorem map_digs (l : List Nat) : (l.map fun c => PyData.bool (decide (c ∈ digs))) = (l.map fun c => decide (c ∈ digs)).map PyData.bool := by rw [List.map_map]; rfl
theorem at_head {l : List Nat} (h : numOk l = true) : atI l 0 = some (l.getD 0 0) ∧ l[0]? = some (l.getD 0 0) := by
  unfold numOk at h
  rw [Bool.and_eq_true, Bool.and_eq_true, decide_eq_true_eq] at h
  cases l with
  | nil => exact absurd h.1.1 (by decide)
  | cons c l => exact ⟨atI_nat (j := 0) rfl, rfl⟩
def spNumIn : Spc := fun ts QT _ => ∃ w : Str, ts = [.va (.str w)] ∧ w.length ≤ 1000000 ∧ QT (.va (numD w)) [none]
section
variable {P : Program} {w : World} {K : PySem.W.Frag} {mg : Str → Option Value} {base : Heap} {Tq : List (Addr × Str)}
abbrev N_number_in : List Str := ["word", "sign"]
theorem sc_number_in : FnScope N_number_in ["word"] (defScope (topS 20)) := ⟨rfl, rfl, rfl, by decide +kernel, rfl, by decide +kernel, by decide +kernel⟩
theorem g_number_in {f : Addr} {fd : FuncData} {k : Nat} (Fn : Fun K "number_in" "number_in" (topS 20) f fd) {tDIGITS : Tok} (m_DIGITS : mg "DIGITS" = some (.str "0123456789" tDIGITS)) {tMOST_DIGITS : Tok} (m_MOST_DIGITS : mg "MOST_DIGITS" = some (.int 10 tMOST_DIGITS)) (m_all : mg "all" = none) (m_int : mg "int" = none) (m_len : mg "len" = none) : FnG P w K mg base Tq (k + 1) f fd ["word"] spNumIn := by
  refine fn_g Fn sc_number_in (fun ts Q E h => ?_) fun cdv A outer s H E Z ts QT ET hr hgd hp tk h => ?_
  · obtain ⟨s9, rfl, hz, q⟩ := h; rfl
  · obtain ⟨s9, rfl, hz, q⟩ := h
    have hn := len_stl s9
    unfold numD at q
    -- line 51
    refine wss_cons (ws_if (WW.t (ww_or (wt_not (wt_chain dop_le dop_le (w_int (w_callB dc_lenS m_len rfl ⟨rfl, (w_var 0 ⟨rfl, _, rfl, (by rw [sizeLine_eq]; omega), ⟨rfl, rfl, _, rfl, fun hc => (w_glob (v := .int 10) (d := .int 10) m_MOST_DIGITS ⟨_, rfl⟩ (fun _ => .int _) ⟨rfl, rfl, _, rfl, ⟨fun h => (ww_or1 (wt_not (wt_val (w_callB (dc_all rfl) m_all rfl ⟨rfl, (w_lc (own := [("sign", 1)]) rfl sc_number_in.nd (blkOk_by (N := N_number_in) (sc := defScope (topS 20)) (by decide +kernel)) (fun _ _ _ _ _ => pg_name (i := 1) sc_number_in.nd rfl (by first | exact Or.inl rfl | exact Or.inr rfl)) (gok_name 1) (by decide) (wi_str (w_var 0 ⟨_, rfl, (lc_map fm_name (sgS) (stl s9) (fun c => PyData.bool (decide (c ∈ digs))) _ rfl (rfl) (by rw [sizeLine_eq]; omega) (fun k2 x hx => by skip; exact ⟨Nat.lt_of_sub_eq_succ rfl, fun s2 H2 C2 cl2 fp2 => (w_cmp dop_inS (w_var 1 (w_glob (v := .str "0123456789") (d := .str "0123456789") m_DIGITS ⟨_, rfl⟩ (fun _ => .str _) ⟨rfl, rfl, _, _, rfl, rfl, ⟨rfl, rfl⟩⟩)) (by with_unfolding_all rfl))⟩) (fun p1 => ⟨rfl, ⟨_, (congrArg (fun z => [PyData.list z]) (map_digs (stl s9))), ⟨_, rfl, ⟨fun h => ?_, fun h => ?_⟩⟩⟩⟩))⟩)))⟩)))), fun h => ?s2⟩⟩), fun hc => ⟨fun h => (ww_or1 (wt_not (wt_val (w_callB (dc_all rfl) m_all rfl ⟨rfl, (w_lc (own := [("sign", 1)]) rfl sc_number_in.nd (blkOk_by (N := N_number_in) (sc := defScope (topS 20)) (by decide +kernel)) (fun _ _ _ _ _ => pg_name (i := 1) sc_number_in.nd rfl (by first | exact Or.inl rfl | exact Or.inr rfl)) (gok_name 1) (by decide) (wi_str (w_var 0 ⟨_, rfl, (lc_map fm_name (sgS) (stl s9) (fun c => PyData.bool (decide (c ∈ digs))) _ rfl (rfl) (by rw [sizeLine_eq]; omega) (fun k2 x hx => by skip; exact ⟨Nat.lt_of_sub_eq_succ rfl, fun s2 H2 C2 cl2 fp2 => (w_cmp dop_inS (w_var 1 (w_glob (v := .str "0123456789") (d := .str "0123456789") m_DIGITS ⟨_, rfl⟩ (fun _ => .str _) ⟨rfl, rfl, _, _, rfl, rfl, ⟨rfl, rfl⟩⟩)) (by with_unfolding_all rfl))⟩) (fun p2 => ⟨rfl, ⟨_, (congrArg (fun z => [PyData.list z]) (map_digs (stl s9))), ⟨_, rfl, ⟨fun h => ?_, fun h => ?_⟩⟩⟩⟩))⟩)))⟩)))), fun h => ?s1⟩⟩⟩)⟩)))))))
    case s2 =>
      refine ⟨fun _ => ?_, fun z => nomatch z⟩
      have h9 : ¬ ((s9.length : Nat) : Int) ≤ 10 := of_decide_eq_false (by simpa using h)
      have hb : numOk (stl s9) = false := by unfold numOk; rw [decide_eq_false (show ¬ (stl s9).length ≤ 10 by omega), Bool.and_false, Bool.false_and]
      rw [if_neg (fun z => by rw [hb] at z; exact absurd z.1 (by decide))] at q
      -- line 52
      refine wss_one (ws_ret (w_non ?_))
      exact q
    case s1 =>
      refine ⟨fun _ => ?_, fun z => nomatch z⟩
      have h9 : ¬ (1 : Int) ≤ ((s9.length : Nat) : Int) := of_decide_eq_false hc
      have hb : numOk (stl s9) = false := by unfold numOk; rw [decide_eq_false (show ¬ 1 ≤ (stl s9).length by omega), Bool.false_and, Bool.false_and]
      rw [if_neg (fun z => by rw [hb] at z; exact absurd z.1 (by decide))] at q
      -- line 52
      refine wss_one (ws_ret (w_non ?_))
      exact q
    · have h9 : ((stl s9).map fun c => decide (c ∈ digs)).all id = false := by simpa using h
      have hb : numOk (stl s9) = false := by unfold numOk; rw [h9, Bool.and_false]
      rw [if_neg (fun z => by rw [hb] at z; exact absurd z.1 (by decide))] at q
      -- line 52
      refine wss_one (ws_ret (w_non ?_))
      exact q
    · rename_i h8
      have h9 : ((stl s9).map fun c => decide (c ∈ digs)).all id = true := by simpa using h
      have h7 : (1 : Int) ≤ ((s9.length : Nat) : Int) := of_decide_eq_true hc
      have h6 : ((s9.length : Nat) : Int) ≤ 10 := of_decide_eq_true (by simpa using h8)
      have hok : numOk (stl s9) = true := by unfold numOk; rw [h9, decide_eq_true (show 1 ≤ (stl s9).length by omega), decide_eq_true (show (stl s9).length ≤ 10 by omega)]; rfl
      obtain ⟨n1, n2⟩ := num_int hok
      obtain ⟨a1, a2⟩ := at_head hok
      refine wss_nil ?_
      -- line 53
      refine wss_one (ws_ret (w_ifExp (WW.t (ww_or (wt_cmp (dop_eq (room64 hr)) (w_var 0 (w_str ⟨rfl, rfl, _, rfl, ⟨fun h => (ww_or1 (wt_cmp (dop_ne (room64 hr)) (w_ixS (w_var 0 (w_int ⟨rfl, rfl, _, _, _, rfl, rfl, (by rw [sizeLine_eq]; omega), a1, (w_str ⟨rfl, rfl, _, rfl, ⟨fun h => (w_callTy dc_intS m_int rfl ⟨rfl, (w_var 0 ⟨rfl, _, _, rfl, n1, n2, ?_⟩)⟩), fun h => (w_non ?_)⟩⟩)⟩))))), fun h => ?s3⟩⟩)))))))
      case s3 =>
        refine ⟨fun _ => w_callTy dc_intS m_int rfl ⟨rfl, (w_var 0 ⟨rfl, _, _, rfl, n1, n2, ?_⟩)⟩, fun z => nomatch z⟩
        rw [if_pos ⟨hok, .inl (of_decide_eq_true h)⟩] at q; exact q
      · rw [if_pos ⟨hok, .inr (by unfold lead0; rw [a2]; rw [sg_zero] at h; simpa using h)⟩] at q
        exact q
      · rename_i h1
        rw [if_neg (fun z => z.2.elim (fun e => absurd e (of_decide_eq_false h1)) (fun e => by unfold lead0 at e; rw [a2] at e; rw [sg_zero] at h; simp at e h; exact e h))] at q
        exact q
    all_goals (rename_i z9; exact absurd z9 (by decide))
end
end K56

/-! QTG2: a test whose answer is known as a whole. -/
namespace QL
open PySem PySem.Spec PyProof.Rows L2
section
variable {Tq : List (Addr × Str)} {Z : Zb Tq} {X : Cx} {c : Expr} {env : Env} {P : Bool → Env → Prop}
theorem WT.to {k0 : Bool} {e1 : Env} (h : WT Z X c env fun k e2 => k = k0 ∧ e2 = e1) (k : P k0 e1) : WT Z X c env P := WT.imp h fun _ _ ⟨a, b⟩ => by subst a b; exact k
end
end QL

namespace K56
open PySem PySem.Spec PyProof.Rows L2 QL
open LM
abbrev tsS (i : Int) : Str := toString i
theorem log_ok {i : Int} (h : i.natAbs ≤ 10 ^ 12) : i.natAbs.log2 < 1920 := by
  by_cases e : i.natAbs = 0
  · rw [e]; decide
  · exact (Nat.log2_lt e).mpr (Nat.lt_of_le_of_lt h (by decide +kernel))
theorem tsS_len {i : Int} (h : i.natAbs ≤ 2000000000) : (tsS i).length ≤ 11 := by
  have h1 : (Str.ofString (toString i)).length = (toString i).length := PySem.ofString_length _
  have h2 := int_text_length_le10 (a := i) (k := 10) (by decide) (by omega)
  show (Str.ofString (toString i)).length ≤ 11
  omega
theorem tsS_ok (i : Int) : okS (tsS i) = true := okS_iff.mpr fun c hc => by
  have b : (128 : Nat) < 16 ^ 8 := by decide
  by_cases h : c ≠ 45 ∧ (c < 48 ∨ 57 < c)
  · exact absurd hc (PyProof.Rows.int_text_free' c h i)
  · omega
theorem ints_shaped {xs : List Int} (h : ∀ x ∈ xs, x.natAbs ≤ 2000000000) : SeqAt.shaped (.tuple (iDs xs)) = true := by
  refine shaped_sm ?_ ?_
  · simp only [smallD]
    refine iDs_small fun x hx => ?_
    have := h x hx
    have b : (2000000000 : Nat) < 2 ^ 200 := by decide
    omega
  · have := iDs_depth xs
    simp only [PyData.depth]; omega
/-- a text as numbers -/
def showS (xs : List Int) : Str := if xs = [] then "-" else Txt.join " " (xs.map tsS)
theorem tsS_lenK {i : Int} {k : Nat} (hk : 0 < k) (h : i.natAbs < 10 ^ k) : (tsS i).length ≤ k + 1 := by
  have h1 : (Str.ofString (toString i)).length = (toString i).length := PySem.ofString_length _
  have h2 := int_text_length_le10 (a := i) (k := k) hk h
  show (Str.ofString (toString i)).length ≤ _
  omega
theorem show_sumK {k : Nat} (hk : 0 < k) {xs : List Int} (h : ∀ x ∈ xs, x.natAbs < 10 ^ k) : (((xs.map tsS)).map fun w => w.length).sum ≤ (k + 1) * xs.length := by
  induction xs with
  | nil => exact Nat.zero_le _
  | cons x xs ih =>
    have h1 := tsS_lenK hk (h x List.mem_cons_self)
    have h2 := ih fun y hy => h y (List.mem_cons_of_mem _ hy)
    simp only [List.map_cons, List.sum_cons, List.length_cons, Nat.mul_add, Nat.mul_one]
    omega
theorem show_sum {xs : List Int} (h : ∀ x ∈ xs, x.natAbs ≤ 2000000000) : (((xs.map tsS)).map fun w => w.length).sum ≤ 11 * xs.length := by
  induction xs with
  | nil => exact Nat.zero_le _
  | cons x xs ih =>
    have h1 := tsS_len (h x List.mem_cons_self)
    have h2 := ih fun y hy => h y (List.mem_cons_of_mem _ hy)
    simp only [List.map_cons, List.sum_cons, List.length_cons]
    omega
theorem map_stl_len (ws : List Str) : ((ws.map stl).map List.length) = ws.map fun w => w.length := by rw [List.map_map]; exact List.map_congr_left fun w _ => (len_stl w).symm
theorem bl_len : (" " : Str).length = 1 := by decide +kernel
theorem show_bd {xs : List Int} (hl : xs.length ≤ 10000) (h : ∀ x ∈ xs, x.natAbs ≤ 2000000000) : (((xs.map tsS)).map fun w => w.length).sum + (xs.map tsS).length * (" " : Str).length ≤ 16777216 := by
  have := show_sum h
  rw [List.length_map, bl_len]
  omega
theorem show_len {xs : List Int} (h : ∀ x ∈ xs, x.natAbs ≤ 2000000000) : (showS xs).length ≤ 12 * xs.length + 1 := by
  unfold showS
  split
  · rw [show ("-" : Str).length = 1 from by decide +kernel]; omega
  · have h1 := show_sum h
    have hb := (joinL_bd ((xs.map tsS).map stl)).1
    rw [map_stl_len, List.length_map, List.length_map] at hb
    rw [len_stl, join_words]
    omega
theorem show_lenK {k : Nat} (hk : 0 < k) {xs : List Int} (h : ∀ x ∈ xs, x.natAbs < 10 ^ k) : (showS xs).length ≤ (k + 2) * xs.length + 1 := by
  unfold showS
  split
  · rw [show ("-" : Str).length = 1 from by decide +kernel]; omega
  · have h1 := show_sumK hk h
    have hb := (joinL_bd ((xs.map tsS).map stl)).1
    rw [map_stl_len, List.length_map, List.length_map] at hb
    rw [len_stl, join_words]
    have e : (k + 2) * xs.length = (k + 1) * xs.length + xs.length := by rw [show k + 2 = (k + 1) + 1 from rfl, Nat.add_mul, Nat.one_mul]
    omega
theorem show_ok (xs : List Int) : okS (showS xs) = true := by
  unfold showS
  split
  · decide +kernel
  · refine okS_iff.mpr fun c hc => ?_
    rw [join_words] at hc
    rcases (joinL_bd _).2 c hc with z | ⟨p, hp, hcp⟩
    · rw [z]; decide
    · obtain ⟨w, hw, rfl⟩ := List.mem_map.mp hp
      obtain ⟨x, _, rfl⟩ := List.mem_map.mp hw
      exact okS_iff.mp (tsS_ok x) c hcp
theorem eqv_nl (ws : List Int) : PyData.eqv (.tuple (iDs ws)) (.tuple []) = decide (ws = []) := by
  cases ws with
  | nil => rfl
  | cons x xs => simp [PyData.eqv, PyData.eqvAll]
theorem ts_map (xs : List Int) : (xs.map fun i => PyData.str (tsS i)) = sDs (xs.map tsS) := by rw [sDs, List.map_map]; rfl
def spShow : Spc := fun ts QT _ => ∃ xs : List Int, ts = [.va (.tuple (iDs xs))] ∧ xs.length ≤ 10000 ∧ (∀ x ∈ xs, x.natAbs ≤ 2000000000) ∧ QT (.va (.str (showS xs))) [none]
theorem isB_strN (d : D) : isB d "str" = true → ∃ s, d = .str s := by cases d <;> simp [isB, tyD]
theorem isB_strM (d : D) : isB d "str" = false → ∀ s, d ≠ .str s := by cases d <;> simp [isB, tyD]
/-- what the words of a string say -/
def readL (s : Str) : List D := if s = "-" then [] else (Txt.split s " ").map numD
def readO (wd : Int) (d : D) : Option (List D) := match d with
  | .str s => if textB wd (.tuple (readL s)) = true then some (readL s) else none
  | _ => none
def thS (d : D) : Prop := match d with
  | .str s => s.length ≤ 1000000 ∧ (Txt.split s " ").length ≤ 2000
  | _ => True
theorem mem_sum : ∀ {l : List Nat} {x : Nat}, x ∈ l → x ≤ l.sum
  | y :: l, x, h => by
    rw [List.sum_cons]
    rcases List.mem_cons.mp h with e | e
    · omega
    · have := mem_sum e; omega
theorem split_len {s w : Str} (h : w ∈ Txt.split s " ") : w.length ≤ s.length :=
  Nat.le_trans (mem_sum (List.mem_map.mpr ⟨w, h, rfl⟩)) (split_bd s).1
theorem readL_len {s : Str} (h : thS (.str s)) : (readL s).length ≤ 2000 := by
  unfold readL
  split
  · exact Nat.zero_le _
  · rw [List.length_map]; exact h.2
theorem readO_not {wd : Int} {d : D} (h : ∀ s, d ≠ .str s) : readO wd d = none := by
  cases d with
  | str s => exact absurd rfl (h s)
  | _ => rfl
def spReadT (aB : Addr) : Spc := fun ts QT ET => ∃ (wd : Int) (d : D), ts = [.va (.int wd), .va d] ∧ thS d ∧ ((∃ ds, readO wd d = some ds ∧ QT (.va (.tuple ds)) [none, none]) ∨ (readO wd d = none ∧ ET ⟨aB, [("position", .int 0)]⟩ [none, none]))
section
variable {P : Program} {w : World} {K : PySem.W.Frag} {mg : Str → Option Value} {base : Heap} {Tq : List (Addr × Str)}
abbrev N_show_text : List Str := ["text", "word"]
theorem sc_show_text : FnScope N_show_text ["text"] (defScope (topS 19)) := ⟨rfl, rfl, rfl, by decide +kernel, rfl, by decide +kernel, by decide +kernel⟩
theorem g_show_text {f : Addr} {fd : FuncData} {k : Nat} (Fn : Fun K "show_text" "show_text" (topS 19) f fd) {tBLANK : Tok} (m_BLANK : mg "BLANK" = some (.str " " tBLANK)) {tNOTHING : Tok} (m_NOTHING : mg "NOTHING" = some (.str "-" tNOTHING)) (m_str : mg "str" = none) : FnG P w K mg base Tq (k + 1) f fd ["text"] spShow := by
  refine fn_g Fn sc_show_text (fun ts Q E h => ?_) fun cdv A outer s H E Z ts QT ET hr hgd hp tk h => ?_
  · obtain ⟨xs, rfl, hl, hb, q⟩ := h; rfl
  · obtain ⟨xs, rfl, hl, hb, q⟩ := h
    unfold showS at q
    -- line 49
    refine wss_one (ws_ret (w_ifExp (wt_cmp (dop_ne (room64 hr)) (w_var 0 (w_tup ⟨(by first | decide | (simp only [List.length_append, List.length_map, List.length_cons, List.length_nil, List.length_singleton, List.length_replicate, List.length_range, List.length_take, List.length_drop, List.length_dropLast, List.length_reverse, Bool.false_eq_true, eq_self, reduceIte, sizeLine_eq]; omega)), ⟨rfl, rfl, (ints_shaped hb), rfl, _, rfl, ⟨fun h => (w_join (w_glob (v := .str " ") (d := .str " ") m_BLANK ⟨_, rfl⟩ (fun _ => .str _) ⟨_, rfl, (w_lc (own := [("word", 1)]) rfl sc_show_text.nd (blkOk_by (N := N_show_text) (sc := defScope (topS 19)) (by decide +kernel)) (fun _ _ _ _ _ => pg_name (i := 1) sc_show_text.nd rfl (by first | exact Or.inl rfl | exact Or.inr rfl)) (gok_name 1) (by decide) (wi_tup (w_var 0 (lc_map fm_name (fun (i : Int) => PyData.int i) (xs) (fun i => PyData.str (tsS i)) _ rfl (rfl) (by rw [sizeLine_eq]; omega) (fun k2 x hx => by have hx9 := hb x (List.mem_of_getElem? hx); exact ⟨Nat.lt_of_sub_eq_succ rfl, fun s2 H2 C2 cl2 fp2 => (w_callTy dc_strI m_str rfl ⟨rfl, (w_var 1 ⟨rfl, _, rfl, (log_ok (by omega)), ⟨rfl, rfl⟩⟩)⟩)⟩) (fun p1 => ⟨rfl, (xs.map tsS), (.inl (congrArg PyData.list (ts_map xs))), (show_bd hl hb), ?_⟩)))))⟩)), fun h => (w_glob (v := .str "-") (d := .str "-") m_NOTHING ⟨_, rfl⟩ (fun _ => .str _) ?_)⟩⟩⟩)))))
    · have h9 : xs ≠ [] := by intro e; have h : (!PyData.eqv (.tuple (iDs xs)) (.tuple [])) = true := h; rw [eqv_nl, e] at h; exact absurd h (by decide)
      rw [if_neg h9] at q; exact q
    · have h9 : xs = [] := by have h : (!PyData.eqv (.tuple (iDs xs)) (.tuple [])) = false := h; rw [eqv_nl] at h; simpa using h
      rw [if_pos h9] at q; exact q
abbrev N_read_text : List Str := ["width", "source", "text", "word"]
theorem sc_read_text : FnScope N_read_text ["width", "source"] (defScope (topS 21)) := ⟨rfl, rfl, rfl, by decide +kernel, rfl, by decide +kernel, by decide +kernel⟩
theorem g_read_text {f : Addr} {fd : FuncData} {k : Nat} {aBadSource : Addr} (Fn : Fun K "read_text" "read_text" (topS 21) f fd) (Z_BadSource : Rz P w K mg base k "BadSource" aBadSource "position") (G_is_text : Df P w K mg base Tq k "is_text" ["width", "value"] spText) (G_number_in : Df P w K mg base Tq k "number_in" ["word"] spNumIn) {tBLANK : Tok} (m_BLANK : mg "BLANK" = some (.str " " tBLANK)) {tNOTHING : Tok} (m_NOTHING : mg "NOTHING" = some (.str "-" tNOTHING)) (m_isinstance : mg "isinstance" = none) (m_str : mg "str" = none) (m_tuple : mg "tuple" = none) : FnG P w K mg base Tq (k + 2) f fd ["width", "source"] (spReadT aBadSource) := by
  have G_is_text := G_is_text.mono (Nat.le_succ k)
  have G_number_in := G_number_in.mono (Nat.le_succ k)
  refine fn_g Fn sc_read_text (fun ts Q E h => ?_) fun cdv A outer s H E Z ts QT ET hr hgd hp tk h => ?_
  · obtain ⟨wd, dv, rfl, hz, hq⟩ := h; rfl
  · obtain ⟨wd, dv, rfl, hz, hq⟩ := h
    cases ht : isB dv "str"
    · have hn := readO_not (wd := wd) (isB_strM dv ht)
      -- line 55
      refine wss_cons (ws_if (wt_not (wt_val (w_isi (w_var 1 ⟨rfl, ⟨_, rfl, ⟨fun h => ?_, fun h => ?_⟩⟩⟩) kit_str m_isinstance m_str rfl))))
      · skip
        -- line 56
        refine wss_one (ws_raiseR Z_BadSource hr tk ⟨rfl, (w_int ⟨_, rfl, ?_⟩)⟩)
        rcases hq with ⟨ds, e, _⟩ | ⟨_, qe⟩
        · rw [hn] at e; cases e
        · exact qe
      exact absurd h (by rw [ht]; decide)
    obtain ⟨s, rfl⟩ := isB_strN dv ht
    have hn := len_stl s
    have hz1 := hz.1
    have hz2 := hz.2
    -- line 55
    refine wss_cons (ws_if (wt_not (wt_val (w_isi (w_var 1 ⟨rfl, ⟨_, rfl, ⟨fun h => ?_, fun h => ?_⟩⟩⟩) kit_str m_isinstance m_str rfl))))
    · exact absurd h (by simp [isB, tyD])
    refine wss_nil ?_
    -- line 57
    refine wss_cons (ws_set 2 (WE.to (r0 := .t (.va (.tuple (readL s)))) (e1 := [some (.va (.int wd)), some (.va (.str s)), none, none]) (w_ifExp (wt_cmp (dop_ne (room64 hr)) (w_var 1 (w_glob (v := .str "-") (d := .str "-") m_NOTHING ⟨_, rfl⟩ (fun _ => .str _) ⟨rfl, rfl, _, rfl, ⟨fun h => (w_callTy dc_tuple m_tuple rfl ⟨rfl, (w_lc (own := [("word", 3)]) rfl sc_read_text.nd (blkOk_by (N := N_read_text) (sc := defScope (topS 21)) (by decide +kernel)) (fun _ _ _ _ _ => pg_name (i := 3) sc_read_text.nd rfl (by first | exact Or.inl rfl | exact Or.inr rfl)) (gok_name 3) (by decide) (wi_list (w_split (w_var 1 ⟨_, rfl, (w_glob (v := .str " ") (d := .str " ") m_BLANK ⟨_, rfl⟩ (fun _ => .str _) ⟨_, rfl, (by rfl), (by rw [sizeLine_eq]; omega), fun p1 => (lc_map fm_name (fun (w : Str) => PyData.str w) (Txt.split s " ") (fun w => numD w) _ rfl (rfl) (by rw [sizeLine_eq]; omega) (fun k2 x hx => by have hx9 := split_len (List.mem_of_getElem? hx); exact ⟨Nat.lt_of_sub_eq_succ rfl, fun s2 H2 C2 cl2 fp2 => (w_fn G_number_in hr hgd ⟨rfl, (w_var 3 ⟨_, rfl, (by omega), ⟨rfl, rfl⟩⟩)⟩)⟩) (fun p2 => ⟨rfl, ⟨congrArg (fun z => R.t (T.va (PyData.tuple z))) (show _ = readL s by unfold readL; rw [if_neg (by simpa using h)]), rfl⟩⟩))⟩)⟩))))⟩), fun h => (w_tup ⟨(by first | decide | (simp only [List.length_append, List.length_map, List.length_cons, List.length_nil, List.length_singleton, List.length_replicate, List.length_range, List.length_take, List.length_drop, List.length_dropLast, List.length_reverse, Bool.false_eq_true, eq_self, reduceIte, sizeLine_eq]; omega)), ⟨congrArg (fun z => R.t (T.va (PyData.tuple z))) (show _ = readL s by unfold readL; rw [if_pos (by simpa using h)]), rfl⟩⟩)⟩⟩)))) ⟨Nat.lt_of_sub_eq_succ rfl, ?_⟩) sc_read_text.nd)
    have hnl : notLong (.tuple (readL s)) := readL_len hz
    have er : readO wd (.str s) = if textB wd (.tuple (readL s)) = true then some (readL s) else none := rfl
    -- line 58
    refine wss_cons (ws_if (wt_not (wt_val (w_fn G_is_text hr hgd ⟨rfl, (w_var 0 ⟨rfl, (w_var 2 ⟨_, _, rfl, hnl, ⟨_, rfl, ⟨fun h => ?_, fun h => ?_⟩⟩⟩)⟩)⟩))))
    · have h9 : textB wd (.tuple (readL s)) = false := by simpa using h
      rw [if_neg (by rw [h9]; decide)] at er
      -- line 59
      refine wss_one (ws_raiseR Z_BadSource hr tk ⟨rfl, (w_int ⟨_, rfl, ?_⟩)⟩)
      rcases hq with ⟨ds, e, _⟩ | ⟨_, qe⟩
      · rw [er] at e; cases e
      · exact qe
    have h9 : textB wd (.tuple (readL s)) = true := by simpa using h
    rw [if_pos h9] at er
    refine wss_nil ?_
    rcases hq with ⟨ds, e, q⟩ | ⟨e, _⟩
    rotate_left
    · rw [er] at e; cases e
    rw [er] at e; cases e
    -- line 60
    refine wss_one (ws_ret (w_var 2 ?_))
    exact q
end
end K56

namespace K56
open PySem PySem.Spec PyProof.Rows L2 QL
open LM
theorem scN : FnScope ["_law_value", "_law_least", "_law_most"] ["_law_value", "_law_least", "_law_most"] (defScope (topS 27)) := ⟨rfl, rfl, rfl, by decide +kernel, rfl, by decide +kernel, by decide +kernel⟩
section
variable {P : Program} {w : World} {K : PySem.W.Frag} {mg : Str → Option Value} {base : Heap} {Tq : List (Addr × Str)}
theorem g_lawInt {f : Addr} {fd : FuncData} {k : Nat} (Fn : Fun K "_law_is_number" "_law_is_number" (topS 27) f fd) (m_isi : mg "isinstance" = none) (m_int : mg "int" = none) (m_bool : mg "bool" = none) : FnG P w K mg base Tq (k + 1) f fd ["_law_value", "_law_least", "_law_most"] spBtw := by
  refine fn_g Fn scN (fun ts Q E h => ?_) fun cdv A outer s H E Z ts QT ET hr hgd hp tk h => ?_
  · obtain ⟨d, lo, hi, rfl, _⟩ := h
    rfl
  · obtain ⟨d, lo, hi, rfl, q⟩ := h
    refine wss_one (ws_ret (w_and (w_isi (w_var 0 (⟨rfl, ⟨_, rfl, fun h => (w_and (w_not (w_isi (w_var 0 (⟨rfl, ⟨_, rfl, ⟨_, rfl, fun h => ?yes, fun h => ?short1c⟩⟩⟩)) kit_bool m_isi m_bool rfl))), fun h => ?short1d⟩⟩)) kit_int m_isi m_int rfl)))
    case short1d =>
      rw [btw_no d lo hi (isB_int0 d h)] at q
      exact q
    case short1c =>
      rename_i h1
      rw [btw_no d lo hi ((isB_int d h1).symm.trans h)] at q
      exact q
    case yes =>
      rename_i h1
      obtain ⟨i, rfl⟩ := isI_int d ((isB_int d h1).symm.trans h)
      refine (w_one (w_chain dop_le dop_le (w_var 1 ((w_var 0 (⟨rfl, rfl, _, rfl, fun h => (w_var 2 (⟨rfl, rfl, ?ret1a⟩)), fun h => ?short1b⟩))))))
      · have e : btw (.int i) lo hi = decide (i ≤ hi) := by
          show (decide (lo ≤ i) && decide (i ≤ hi)) = _
          rw [show decide (lo ≤ i) = true from h, Bool.true_and]
        rw [e] at q
        exact q
      · have e : btw (.int i) lo hi = false := by
          show (decide (lo ≤ i) && decide (i ≤ hi)) = _
          rw [show decide (lo ≤ i) = false from h, Bool.false_and]
        rw [e] at q
        exact q
end
abbrev nvW (w : Str) : Int := numV (stl w)
def goodW (w : Str) : Bool := numOk (stl w) && !lead0 (stl w)
theorem good_num {w : Str} (h : goodW w = true) : numD w = .int (nvW w) := by
  unfold goodW at h
  rw [Bool.and_eq_true] at h
  unfold numD
  rw [if_pos ⟨h.1, .inr (by simpa using h.2)⟩]
theorem bad_num {w : Str} (h : goodW w = false) (wd : Int) : btw (numD w) 1 wd = false := by
  unfold numD
  split
  · rename_i h1
    rcases h1.2 with e | e
    · subst e
      show (decide (1 ≤ numV (stl "0")) && decide (numV (stl "0") ≤ wd)) = false
      rw [show numV (stl "0") = 0 from by decide +kernel]; rfl
    · unfold goodW at h
      rw [h1.1, e] at h; cases h
  · rfl
theorem goods_num {ws : List Str} (h : ∀ w ∈ ws, goodW w = true) : ws.map numD = iDs (ws.map nvW) := by
  rw [iDs, List.map_map]
  exact List.map_congr_left fun w hw => good_num (h w hw)
theorem bad_text {s w : Str} (hs : s ≠ "-") (hw : w ∈ Txt.split s " ") (h : goodW w = false) (wd : Int) : readO wd (.str s) = none := by
  have e : textB wd (.tuple (readL s)) = false := by
    show (((readL s).all fun x => btw x 1 wd) && decide ((readL s).length ≤ 300)) = false
    have : ((readL s).all fun x => btw x 1 wd) = false := by
      rw [List.all_eq_false]
      refine ⟨numD w, by unfold readL; rw [if_neg hs]; exact List.mem_map.mpr ⟨w, hw, rfl⟩, by rw [bad_num h wd]; decide⟩
    rw [this, Bool.false_and]
  show (if textB wd (.tuple (readL s)) = true then some (readL s) else none) = none
  rw [if_neg (by rw [e]; decide)]
theorem read_good {s : Str} {ns : List Int} (h : readL s = iDs ns) (wd : Int) : readO wd (.str s) = if textB wd (.tuple (iDs ns)) = true then some (iDs ns) else none := by
  rw [← h]; rfl
theorem lead_eq {l : List Nat} (h : numOk l = true) : decide ((⟨#[l.getD 0 0]⟩ : Str) = "0") = lead0 l := by
  rw [sg_zero]
  unfold lead0
  rw [(at_head h).2, decide_eq_decide]
  constructor
  · intro e; rw [e]
  · intro e; injection e
theorem iDs_app (a b : List Int) : iDs (a ++ b) = iDs a ++ iDs b := List.map_append
def spDue : Spc := fun ts QT _ => ∃ (wd : Int) (d : D), ts = [.va (.int wd), .va d] ∧ thS d ∧ ((∃ ds, readO wd d = some ds ∧ ∀ p, QT (.lst p [.tuple ds]) [none, none]) ∨ (readO wd d = none ∧ QT (.va .none) [none, none]))
section
variable {P : Program} {w : World} {K : PySem.W.Frag} {mg : Str → Option Value} {base : Heap} {Tq : List (Addr × Str)}
abbrev N__law_is_text : List Str := ["_law_wide", "_law_value", "_law_word"]
theorem sc__law_is_text : FnScope N__law_is_text ["_law_wide", "_law_value"] (defScope (topS 28)) := ⟨rfl, rfl, rfl, by decide +kernel, rfl, by decide +kernel, by decide +kernel⟩
theorem g__law_is_text {f : Addr} {fd : FuncData} {k : Nat} (Fn : Fun K "_law_is_text" "_law_is_text" (topS 28) f fd) (G__law_is_number : Df P w K mg base Tq k "_law_is_number" ["_law_value", "_law_least", "_law_most"] spBtw) (m_all : mg "all" = none) (m_isinstance : mg "isinstance" = none) (m_len : mg "len" = none) (m_tuple : mg "tuple" = none) : FnG P w K mg base Tq (k + 1) f fd ["_law_wide", "_law_value"] spText := by
  refine fn_g Fn sc__law_is_text (fun ts Q E h => ?_) fun cdv A outer s H E Z ts QT ET hr hgd hp tk h => ?_
  · obtain ⟨wd, dv, rfl, hn, q⟩ := h; rfl
  · obtain ⟨wd, dv, rfl, hn, q⟩ := h
    cases ht : isB dv "tuple"
    · rw [(isB_tup0 dv wd ht).2] at q
      refine wss_cons (ws_if (WW.t (ww_or (wt_not (wt_val (w_isi (w_var 1 ⟨rfl, ⟨_, rfl, ⟨fun h => ?_, fun h => ?_⟩⟩⟩) kit_tuple m_isinstance m_tuple rfl))))))
      · exact absurd h (by rw [ht]; decide)
      refine ⟨fun _ => ?_, fun h => absurd h (by decide)⟩
      exact wss_one (ws_ret (w_bl q))
    obtain ⟨ds, rfl⟩ := isB_tup dv ht
    have hl : ds.length ≤ 2000 := hn
    -- line 92
    refine wss_cons (ws_if (WW.t (ww_or (wt_not (wt_val (w_isi (w_var 1 ⟨rfl, ⟨_, rfl, ⟨fun h => (ww_or1 (wt_cmp dop_gt (w_callB dc_len m_len rfl ⟨rfl, (w_var 1 ⟨rfl, (w_int ⟨rfl, rfl, _, rfl, ⟨fun h => ?_, fun h => ?_⟩⟩)⟩)⟩))), fun h => ?s1⟩⟩⟩) kit_tuple m_isinstance m_tuple rfl))))))
    case s1 => exact absurd h (by simp [isB, tyD])
    · have h3 : ¬ ds.length ≤ 300 := by have h : decide ((300 : Int) < (ds.length : Int)) = true := h; have := of_decide_eq_true h; omega
      -- line 93
      refine wss_one (ws_ret (w_bl ?_))
      have e : textB wd (.tuple ds) = false := by show ((ds.all fun x => btw x 1 wd) && decide (ds.length ≤ 300)) = false; rw [decide_eq_false h3, Bool.and_false]
      rw [e] at q; exact q
    refine wss_nil ?_
    have h3 : ds.length ≤ 300 := by have h : decide ((300 : Int) < (ds.length : Int)) = false := h; have := of_decide_eq_false h; omega
    -- line 94
    refine wss_one (ws_ret (w_callB (dc_all rfl) m_all rfl ⟨rfl, (w_lc (own := [("_law_word", 2)]) rfl sc__law_is_text.nd (blkOk_by (N := N__law_is_text) (sc := defScope (topS 28)) (by decide +kernel)) (fun _ _ _ _ _ => pg_name (i := 2) sc__law_is_text.nd rfl (by first | exact Or.inl rfl | exact Or.inr rfl)) (gok_name 2) (by decide) (wi_tup (w_var 1 (lc_map fm_name (fun (x : D) => x) (ds) (fun x => PyData.bool (btw x 1 wd)) _ rfl (by simp) (by rw [sizeLine_eq]; omega) (fun k2 x hx => by skip; exact ⟨Nat.lt_of_sub_eq_succ rfl, fun s2 H2 C2 cl2 fp2 => (w_fn G__law_is_number hr hgd ⟨rfl, (w_var 2 ⟨rfl, (w_int ⟨rfl, (w_var 0 ⟨_, _, _, rfl, ⟨rfl, rfl⟩⟩)⟩)⟩)⟩)⟩) (fun p1 => ⟨rfl, ⟨_, (congrArg (fun z => [PyData.list z]) (show ds.map (fun x => PyData.bool (btw x 1 wd)) = (ds.map fun x => btw x 1 wd).map PyData.bool by rw [List.map_map]; rfl)), ?_⟩⟩)))))⟩))
    have e : textB wd (.tuple ds) = (ds.map fun x => btw x 1 wd).all id := by show ((ds.all fun x => btw x 1 wd) && decide (ds.length ≤ 300)) = _; rw [decide_eq_true h3, Bool.and_true, List.all_map]; rfl
    rw [e] at q; exact q
abbrev N__law_due : List Str := ["_law_wide", "_law_page", "_law_row", "_law_word", "_law_sign"]
theorem sc__law_due : FnScope N__law_due ["_law_wide", "_law_page"] (defScope (topS 32)) := ⟨rfl, rfl, rfl, by decide +kernel, rfl, by decide +kernel, by decide +kernel⟩
theorem g__law_due {f : Addr} {fd : FuncData} {k : Nat} (Fn : Fun K "_law_due" "_law_due" (topS 32) f fd) (G__law_is_text : Df P w K mg base Tq k "_law_is_text" ["_law_wide", "_law_value"] spText) (m_all : mg "all" = none) (m_int : mg "int" = none) (m_isinstance : mg "isinstance" = none) (m_len : mg "len" = none) (m_str : mg "str" = none) (m_tuple : mg "tuple" = none) : FnG P w K mg base Tq (k + 1) f fd ["_law_wide", "_law_page"] spDue := by
  refine fn_g Fn sc__law_due (fun ts Q E h => ?_) fun cdv A outer s H E Z ts QT ET hr hgd hp tk h => ?_
  · obtain ⟨wd, dv, rfl, hz, hq⟩ := h; rfl
  · obtain ⟨wd, dv, rfl, hz, hq⟩ := h
    cases ht : isB dv "str"
    · have hn := readO_not (wd := wd) (isB_strM dv ht)
      -- line 125
      refine wss_cons (ws_if (wt_not (wt_val (w_isi (w_var 1 ⟨rfl, ⟨_, rfl, ⟨fun h => ?_, fun h => ?_⟩⟩⟩) kit_str m_isinstance m_str rfl))))
      · skip
        -- line 126
        refine wss_one (ws_ret (w_non ?_))
        rcases hq with ⟨ds, e, _⟩ | ⟨_, q⟩
        · rw [hn] at e; cases e
        · exact q
      exact absurd h (by rw [ht]; decide)
    obtain ⟨s, rfl⟩ := isB_strN dv ht
    have hn := len_stl s
    have hz1 := hz.1
    have hz2 := hz.2
    -- line 125
    refine wss_cons (ws_if (wt_not (wt_val (w_isi (w_var 1 ⟨rfl, ⟨_, rfl, ⟨fun h => ?_, fun h => ?_⟩⟩⟩) kit_str m_isinstance m_str rfl))))
    · exact absurd h (by simp [isB, tyD])
    refine wss_nil ?_
    -- line 127
    refine wss_cons (ws_set 2 (w_lst ⟨(by first | decide | (simp only [List.length_append, List.length_map, List.length_cons, List.length_nil, List.length_singleton, List.length_replicate, List.length_range, List.length_take, List.length_drop, List.length_dropLast, List.length_reverse, Bool.false_eq_true, eq_self, reduceIte, sizeLine_eq]; omega)), fun p1 => ⟨Nat.lt_of_sub_eq_succ rfl, ?_⟩⟩) sc__law_due.nd)
    by_cases hs : s = "-"
    · skip
      -- line 128
      refine wss_cons (ws_for hp rfl (pg_name (i := 3) sc__law_due.nd rfl (by first | exact Or.inl rfl | exact Or.inr rfl)) (gok_name 3) (wi_list (w_ifExp (wt_cmp (dop_ne (room64 hr)) (w_var 1 (w_str ⟨rfl, rfl, _, rfl, ⟨fun h => absurd h (by simpa using hs), fun h => (w_lst ⟨(Nat.le_of_lt (small2000 (n := 0) (by decide))), fun p2 => ?_⟩)⟩⟩))))))
      refine ⟨fun k e => e = [some (.va (.int wd)), some (.va (.str s)), some (.lst p1 ([])), none, none], rfl, fun k dd e hd => absurd hd (by simp), ?_⟩
      rintro e rfl
      have hL : readL s = iDs [] := by unfold readL; rw [if_pos hs]; rfl
      have er := read_good hL wd
      have hl9 : notLong (.tuple (iDs (([] : List Int)))) := by show _ ≤ 2000; simp only [List.length_map, List.length_nil]; omega
      -- line 132
      refine wss_one (ws_ret (w_ifExp (wt_val (w_fn G__law_is_text hr hgd ⟨rfl, (w_var 0 ⟨rfl, (w_callTy dc_tuple m_tuple rfl ⟨rfl, (w_var 2 ⟨rfl, ⟨_, _, rfl, hl9, ⟨_, rfl, ⟨fun h => (w_lst ⟨rfl, (w_callTy dc_tuple m_tuple rfl ⟨rfl, (w_var 2 ⟨rfl, ⟨(Nat.le_of_lt (small2000 (n := 1) (by decide))), fun p3 => ?_⟩⟩)⟩)⟩), fun h => (w_non ?_)⟩⟩⟩⟩)⟩)⟩)⟩))))
      · rw [if_pos (show textB wd (.tuple (iDs (([] : List Int)))) = true from h)] at er
        rcases hq with ⟨ds, e, q⟩ | ⟨e, _⟩
        · rw [er] at e; cases e; exact q _
        · rw [er] at e; cases e
      · rw [if_neg (by rw [show textB wd (.tuple (iDs (([] : List Int)))) = false from h]; decide)] at er
        rcases hq with ⟨ds, e, _⟩ | ⟨_, q⟩
        · rw [er] at e; cases e
        · exact q
    · skip
      -- line 128
      refine wss_cons (ws_for hp rfl (pg_name (i := 3) sc__law_due.nd rfl (by first | exact Or.inl rfl | exact Or.inr rfl)) (gok_name 3) (wi_list (w_ifExp (wt_cmp (dop_ne (room64 hr)) (w_var 1 (w_str ⟨rfl, rfl, _, rfl, ⟨fun h => (w_split (w_var 1 ⟨_, rfl, (w_str ⟨_, rfl, (by rfl), (by rw [sizeLine_eq]; omega), fun p4 => ?_⟩)⟩)), fun h => absurd h (by simpa using hs)⟩⟩))))))
      refine ⟨fun k e => (∀ w ∈ (Txt.split s " ").take k, goodW w = true) ∧ ∃ o3, e = [some (.va (.int wd)), some (.va (.str s)), some (.lst p1 (iDs (((Txt.split s " ").take k).map nvW))), o3, none], ⟨(fun w h => absurd h (by simp)), none, rfl⟩, ?_, ?_⟩
      · rintro k dd e hd ⟨hall, o3, rfl⟩
        obtain ⟨s9, hw, rfl⟩ : ∃ s9, (Txt.split s " ")[k]? = some s9 ∧ dd = .str s9 := by
          rw [sDs, List.getElem?_map, Option.map_eq_some_iff] at hd
          obtain ⟨x, h1, h2⟩ := hd
          exact ⟨x, h1, h2.symm⟩
        have hm9 := List.mem_of_getElem? hw
        have hl9 := split_len hm9
        have hk9 : k < (Txt.split s " ").length := (List.getElem?_eq_some_iff.mp hw).1
        have hn9 := len_stl s9
        refine ⟨Nat.lt_of_sub_eq_succ rfl, ?_⟩
        have hnk : numOk (stl s9) = ((decide ((1 : Int) ≤ (s9.length : Int)) && decide ((s9.length : Int) ≤ 10)) && ((stl s9).map fun c => decide (c ∈ digs)).all id) := by
          unfold numOk
          rw [hn9, show decide ((1 : Int) ≤ ((stl s9).length : Int)) = decide (1 ≤ (stl s9).length) from decide_eq_decide.mpr (by omega), show decide (((stl s9).length : Int) ≤ 10) = decide ((stl s9).length ≤ 10) from decide_eq_decide.mpr (by omega)]
        have hgw : goodW s9 = (((decide ((1 : Int) ≤ (s9.length : Int)) && decide ((s9.length : Int) ≤ 10)) && ((stl s9).map fun c => decide (c ∈ digs)).all id) && !lead0 (stl s9)) := by
          unfold goodW
          rw [hnk]
        -- line 129
        refine wss_cons (ws_if (WT.to (k0 := !goodW s9) (e1 := [some (.va (.int wd)), some (.va (.str s)), some (.lst p1 (iDs (((Txt.split s " ").take k).map nvW))), some (.va (.str s9)), none]) (WW.t (ww_or (wt_not (wt_chain dop_le dop_le (w_int (w_callB dc_lenS m_len rfl ⟨rfl, (w_var 3 ⟨rfl, _, rfl, (by rw [sizeLine_eq]; omega), ⟨rfl, rfl, _, rfl, fun hc => (w_int ⟨rfl, rfl, _, rfl, ⟨fun h => (ww_or (wt_not (wt_val (w_callB (dc_all rfl) m_all rfl ⟨rfl, (w_lc (own := [("_law_sign", 4)]) rfl sc__law_due.nd (blkOk_by (N := N__law_due) (sc := defScope (topS 32)) (by decide +kernel)) (fun _ _ _ _ _ => pg_name (i := 4) sc__law_due.nd rfl (by first | exact Or.inl rfl | exact Or.inr rfl)) (gok_name 4) (by decide) (wi_str (w_var 3 ⟨_, rfl, (lc_map fm_name (sgS) (stl s9) (fun c => PyData.bool (decide (c ∈ digs))) _ rfl (rfl) (by rw [sizeLine_eq]; omega) (fun k2 x hx => by skip; exact ⟨Nat.lt_of_sub_eq_succ rfl, fun s2 H2 C2 cl2 fp2 => (w_cmp dop_inS (w_var 4 (w_str ⟨rfl, rfl, _, _, rfl, rfl, ⟨rfl, rfl⟩⟩)) (by with_unfolding_all rfl))⟩) (fun p5 => ⟨rfl, ⟨_, (congrArg (fun z => [PyData.list z]) (map_digs (stl s9))), ⟨_, rfl, ⟨fun h => (ww_or1 (wt_cmp (dop_eq (room64 hr)) (w_ixS (w_var 3 (w_int ⟨rfl, rfl, _, _, _, rfl, rfl, (by rw [sizeLine_eq]; omega), (at_head (l := stl s9) (by rw [hnk]; clear hn9 hnk hgw; simp only [Bool.not_eq_eq_eq_not, Bool.not_true, Bool.not_false, Bool.true_eq_false, Bool.false_eq_true] at * <;> simp only [*] <;> rfl)).1, (w_str ⟨rfl, rfl, _, rfl, ⟨(by clear hn9; simp only [Bool.not_eq_eq_eq_not, Bool.not_true, Bool.not_false, Bool.true_eq_false, Bool.false_eq_true] at * <;> first | (rw [hgw]; simp only [*]; done) | (rw [hgw]; simp only [*]; rfl) | (have hok9 : numOk (stl s9) = true := (by rw [hnk]; clear hnk hgw; simp only [*] <;> rfl); rw [lead_eq hok9, hgw]; simp only [*]; cases lead0 (stl s9) <;> rfl)), rfl⟩⟩)⟩))))), fun h => ⟨(by clear hn9; simp only [Bool.not_eq_eq_eq_not, Bool.not_true, Bool.not_false, Bool.true_eq_false, Bool.false_eq_true] at * <;> first | (rw [hgw]; simp only [*]; done) | (rw [hgw]; simp only [*]; rfl) | (have hok9 : numOk (stl s9) = true := (by rw [hnk]; clear hnk hgw; simp only [*] <;> rfl); rw [lead_eq hok9, hgw]; simp only [*]; cases lead0 (stl s9) <;> rfl)), rfl⟩⟩⟩⟩⟩))⟩)))⟩)))), fun h => ⟨(by clear hn9; simp only [Bool.not_eq_eq_eq_not, Bool.not_true, Bool.not_false, Bool.true_eq_false, Bool.false_eq_true] at * <;> first | (rw [hgw]; simp only [*]; done) | (rw [hgw]; simp only [*]; rfl) | (have hok9 : numOk (stl s9) = true := (by rw [hnk]; clear hnk hgw; simp only [*] <;> rfl); rw [lead_eq hok9, hgw]; simp only [*]; cases lead0 (stl s9) <;> rfl)), rfl⟩⟩⟩), fun hc => ⟨fun h => (ww_or (wt_not (wt_val (w_callB (dc_all rfl) m_all rfl ⟨rfl, (w_lc (own := [("_law_sign", 4)]) rfl sc__law_due.nd (blkOk_by (N := N__law_due) (sc := defScope (topS 32)) (by decide +kernel)) (fun _ _ _ _ _ => pg_name (i := 4) sc__law_due.nd rfl (by first | exact Or.inl rfl | exact Or.inr rfl)) (gok_name 4) (by decide) (wi_str (w_var 3 ⟨_, rfl, (lc_map fm_name (sgS) (stl s9) (fun c => PyData.bool (decide (c ∈ digs))) _ rfl (rfl) (by rw [sizeLine_eq]; omega) (fun k2 x hx => by skip; exact ⟨Nat.lt_of_sub_eq_succ rfl, fun s2 H2 C2 cl2 fp2 => (w_cmp dop_inS (w_var 4 (w_str ⟨rfl, rfl, _, _, rfl, rfl, ⟨rfl, rfl⟩⟩)) (by with_unfolding_all rfl))⟩) (fun p6 => ⟨rfl, ⟨_, (congrArg (fun z => [PyData.list z]) (map_digs (stl s9))), ⟨_, rfl, ⟨fun h => (ww_or1 (wt_cmp (dop_eq (room64 hr)) (w_ixS (w_var 3 (w_int ⟨rfl, rfl, _, _, _, rfl, rfl, (by rw [sizeLine_eq]; omega), (at_head (l := stl s9) (by rw [hnk]; clear hn9 hnk hgw; simp only [Bool.not_eq_eq_eq_not, Bool.not_true, Bool.not_false, Bool.true_eq_false, Bool.false_eq_true] at * <;> simp only [*] <;> rfl)).1, (w_str ⟨rfl, rfl, _, rfl, ⟨(by clear hn9; simp only [Bool.not_eq_eq_eq_not, Bool.not_true, Bool.not_false, Bool.true_eq_false, Bool.false_eq_true] at * <;> first | (rw [hgw]; simp only [*]; done) | (rw [hgw]; simp only [*]; rfl) | (have hok9 : numOk (stl s9) = true := (by rw [hnk]; clear hnk hgw; simp only [*] <;> rfl); rw [lead_eq hok9, hgw]; simp only [*]; cases lead0 (stl s9) <;> rfl)), rfl⟩⟩)⟩))))), fun h => ⟨(by clear hn9; simp only [Bool.not_eq_eq_eq_not, Bool.not_true, Bool.not_false, Bool.true_eq_false, Bool.false_eq_true] at * <;> first | (rw [hgw]; simp only [*]; done) | (rw [hgw]; simp only [*]; rfl) | (have hok9 : numOk (stl s9) = true := (by rw [hnk]; clear hnk hgw; simp only [*] <;> rfl); rw [lead_eq hok9, hgw]; simp only [*]; cases lead0 (stl s9) <;> rfl)), rfl⟩⟩⟩⟩⟩))⟩)))⟩)))), fun h => ⟨(by clear hn9; simp only [Bool.not_eq_eq_eq_not, Bool.not_true, Bool.not_false, Bool.true_eq_false, Bool.false_eq_true] at * <;> first | (rw [hgw]; simp only [*]; done) | (rw [hgw]; simp only [*]; rfl) | (have hok9 : numOk (stl s9) = true := (by rw [hnk]; clear hnk hgw; simp only [*] <;> rfl); rw [lead_eq hok9, hgw]; simp only [*]; cases lead0 (stl s9) <;> rfl)), rfl⟩⟩⟩⟩)⟩)))))) ⟨fun h => ?_, fun h => ?_⟩))
        · have hb : goodW s9 = false := by simpa using h
          have er := bad_text hs hm9 hb wd
          -- line 130
          refine wss_one (ws_ret (w_non ?_))
          rcases hq with ⟨ds, e, _⟩ | ⟨_, q⟩
          · rw [er] at e; cases e
          · exact q
        have hb : goodW s9 = true := by simpa using h
        refine wss_nil ?_
        have hok : numOk (stl s9) = true := by unfold goodW at hb; rw [Bool.and_eq_true] at hb; exact hb.1
        obtain ⟨n1, n2⟩ := num_int hok
        have hlk : ((Txt.split s " ").take k).length ≤ 2000 := by rw [List.length_take]; omega
        -- line 131
        refine wss_one (ws_expr (w_append (w_var 2 ⟨_, _, _, _, rfl, rfl, (w_callTy dc_intS m_int rfl ⟨rfl, (w_var 3 ⟨rfl, _, _, rfl, n1, n2, ⟨_, _, rfl, rfl, (by clear hn9; simp only [List.length_append, List.length_map, List.length_cons, List.length_nil, List.length_singleton, List.length_replicate, List.length_range, List.length_drop, List.length_dropLast, List.length_reverse, Bool.false_eq_true, eq_self, reduceIte, sizeLine_eq]; omega), ?_⟩⟩)⟩)⟩)))
        have ht9 : (Txt.split s " ").take (k + 1) = (Txt.split s " ").take k ++ [s9] := by rw [List.take_add_one, hw]; rfl
        refine ⟨fun w hw9 => ?_, _, by rw [ht9, List.map_append, iDs_app]; rfl⟩
        rw [ht9] at hw9
        rcases List.mem_append.mp hw9 with z | z
        · exact hall w z
        · rw [List.mem_singleton.mp z]; exact hb
      · rintro e ⟨hall, o3, rfl⟩
        have e9 : (Txt.split s " ").take (sDs (Txt.split s " ")).length = Txt.split s " " := by rw [List.length_map]; exact List.take_length
        rw [e9] at hall ⊢
        have hL : readL s = iDs ((Txt.split s " ").map nvW) := by unfold readL; rw [if_neg hs]; exact goods_num hall
        have er := read_good hL wd
        have hl9 : notLong (.tuple (iDs ((Txt.split s " ").map nvW))) := by show _ ≤ 2000; simp only [List.length_map, List.length_nil]; omega
        -- line 132
        refine wss_one (ws_ret (w_ifExp (wt_val (w_fn G__law_is_text hr hgd ⟨rfl, (w_var 0 ⟨rfl, (w_callTy dc_tuple m_tuple rfl ⟨rfl, (w_var 2 ⟨rfl, ⟨_, _, rfl, hl9, ⟨_, rfl, ⟨fun h => (w_lst ⟨rfl, (w_callTy dc_tuple m_tuple rfl ⟨rfl, (w_var 2 ⟨rfl, ⟨(Nat.le_of_lt (small2000 (n := 1) (by decide))), fun p7 => ?_⟩⟩)⟩)⟩), fun h => (w_non ?_)⟩⟩⟩⟩)⟩)⟩)⟩))))
        · rw [if_pos (show textB wd (.tuple (iDs ((Txt.split s " ").map nvW))) = true from h)] at er
          rcases hq with ⟨ds, e, q⟩ | ⟨e, _⟩
          · rw [er] at e; cases e; exact q _
          · rw [er] at e; cases e
        · rw [if_neg (by rw [show textB wd (.tuple (iDs ((Txt.split s " ").map nvW))) = false from h]; decide)] at er
          rcases hq with ⟨ds, e, _⟩ | ⟨_, q⟩
          · rw [er] at e; cases e
          · exact q
end
end K56

namespace K56
open PySem PySem.Spec PyProof.Rows L2 QL
open LM
def Res (aBadSource : Addr) (ex : Ex) (r : D) : Prop := (∃ d : D, ex = ⟨aBadSource, [("position", d)]⟩ ∧ r = .tuple [.str "source", d])
def tgCaught (aBadSource : Addr) : Tg := fun L QT => ∀ (Q : T → QL.Env → Prop) (E : Ex → QL.Env → Prop), (∀ d e, QT (.va (.tuple [.str "told", d])) e → Q (.va d) e) → (∀ ex e, (∃ r, Res aBadSource ex r ∧ QT (.va r) e) → E ex e) → L Q E
section
variable {P : Program} {w : World} {K : PySem.W.Frag} {mg : Str → Option Value} {base : Heap} {Tq : List (Addr × Str)}
abbrev N__law_caught : List Str := ["_law_call", "_law_caught_here", "_law_told", "_law_flags", "error"]
theorem sc__law_caught : FnScope N__law_caught ["_law_call"] (defScope (topS 30)) := ⟨rfl, rfl, rfl, by decide +kernel, rfl, by decide +kernel, by decide +kernel⟩
theorem g__law_caught {f : Addr} {fd : FuncData} {k : Nat} {aBadPlace : Addr} {aBadSource : Addr} {aBadText : Addr} {aBadWidth : Addr} {aBadWord : Addr} {aLineError : Addr} {aNothingToUndo : Addr} (Fn : Fun K "_law_caught" "_law_caught" (topS 30) f fd) (mm : mg "_law_caught" = some (.ref f)) (kp : PySem.W.keepIn K (.ref f) = true) (bb : L2.Binds K fd ["_law_call"] []) (c_LineError : mg "LineError" = some (.ref aLineError)) (c_BadWidth : mg "BadWidth" = some (.ref aBadWidth)) (c_BadText : mg "BadText" = some (.ref aBadText)) (c_BadPlace : mg "BadPlace" = some (.ref aBadPlace)) (c_BadSource : mg "BadSource" = some (.ref aBadSource)) (c_NothingToUndo : mg "NothingToUndo" = some (.ref aNothingToUndo)) (c_BadWord : mg "BadWord" = some (.ref aBadWord)) (m_isinstance : mg "isinstance" = none) (m_ValueError : mg "ValueError" = none) (x_BadSource : erB K aBadSource = true) (n_BadSource : PySem.W.findIn K (.ref aBadSource) "position" = some none) (e_BadSource : PySem.W.exmOne K (.ref aBadSource) (.ref aLineError) = some true) (k_BadSource_BadWidth : PySem.W.kitOne K (.ref aBadSource) (.ref aBadWidth) = some false) (k_BadSource_BadText : PySem.W.kitOne K (.ref aBadSource) (.ref aBadText) = some false) (k_BadSource_BadPlace : PySem.W.kitOne K (.ref aBadSource) (.ref aBadPlace) = some false) (k_BadSource_BadSource : PySem.W.kitOne K (.ref aBadSource) (.ref aBadSource) = some true) (k_BadSource_NothingToUndo : PySem.W.kitOne K (.ref aBadSource) (.ref aNothingToUndo) = some false) (k_BadSource_BadWord : PySem.W.kitOne K (.ref aBadSource) (.ref aBadWord) = some false) (k_BadSource_VE : PySem.W.kitOne K (.ref aBadSource) (.type "ValueError") = some true) : GvL P w K mg base Tq k "_law_caught" "_law_call" (tgCaught aBadSource) := by
  refine ⟨N__law_caught, topS 30, f, fd, Fn, mm, kp, bb, sc__law_caught, rfl, by first | exact Or.inl rfl | exact Or.inr (Or.inl rfl) | exact Or.inr (Or.inr rfl), fun cdg A outer s H Z lam LB e0 QT hr hgd hp act h => ?_⟩
  have hu := room110 hr
  obtain ⟨xC_BadSource, xF_BadSource⟩ := erB_ok x_BadSource
  -- line 102
  refine wss_cons (ws_asg (pg_tup (by rfl) (pgs_cons (pg_name (i := 1) sc__law_caught.nd rfl (by first | exact Or.inl rfl | exact Or.inr rfl)) (pgs_cons (pg_name (i := 2) sc__law_caught.nd rfl (by first | exact Or.inl rfl | exact Or.inr rfl)) (pgs_nil)))) (gok_tup (gsok_cons (gok_name 1) (gsok_cons (gok_name 2) (gsok_nil)))) (w_tup ⟨rfl, (w_non ⟨rfl, (w_non ⟨(by first | decide | (simp only [List.length_append, List.length_map, List.length_cons, List.length_nil, List.length_singleton, List.length_replicate, List.length_range, List.length_take, List.length_drop, List.length_dropLast, List.length_reverse, Bool.false_eq_true, eq_self, reduceIte, sizeLine_eq]; omega)), ⟨_, rfl, rfl, ⟨Nat.lt_of_sub_eq_succ rfl, ⟨Nat.lt_of_sub_eq_succ rfl, ⟨rfl, ?_⟩⟩⟩⟩⟩)⟩)⟩))
  refine wss_cons (ws_try_err 4 1 rfl rfl rfl sc__law_caught.nd ⟨rfl, by decide, .inl c_LineError⟩ (fun Z2 pn2 xe2 tm tk2 => ?_))
  refine wss_one (ws_set 2 (act Z2 pn2 xe2 _ _ _ e0 _ _ tm tk2 rfl (h _ _ (fun dv e q => ⟨Nat.lt_of_sub_eq_succ rfl, ?told⟩) (fun ex e z => ⟨?exm, Nat.lt_of_sub_eq_succ rfl, Nat.lt_of_sub_eq_succ rfl, fun a => ?caught⟩))) sc__law_caught.nd)
  case exm =>
    rcases z with ⟨r, (⟨dv, rfl, rfl⟩), q⟩
    · exact e_BadSource
  case told =>
    -- line 107
    refine wss_cons (ws_if (wt_cmp dop_isN (w_var 1 (w_non ⟨rfl, rfl, _, rfl, ⟨fun h => ?_, fun h => ?_⟩⟩))))
    · skip
      -- line 108
      refine wss_one (ws_ret (w_tup ⟨rfl, (w_str ⟨rfl, (w_var 2 ⟨(by first | decide | (simp only [List.length_append, List.length_map, List.length_cons, List.length_nil, List.length_singleton, List.length_replicate, List.length_range, List.length_take, List.length_drop, List.length_dropLast, List.length_reverse, Bool.false_eq_true, eq_self, reduceIte, sizeLine_eq]; omega)), ?_⟩)⟩)⟩))
      exact ⟨e, rfl, q⟩
    exact absurd h (by decide)
  case caught =>
    rcases z with ⟨r, (⟨dv, rfl, rfl⟩), q⟩
    · skip
      -- line 107
      refine wss_cons (ws_if (wt_excIsN (ex := ⟨aBadSource, [("position", dv)]⟩) 1 rfl ⟨fun h => ?_, fun h => ?_⟩))
      · exact absurd h (by decide)
      refine wss_nil ?_
      -- line 109
      refine wss_cons (ws_set 3 (w_lst ⟨rfl, (w_isE (ex := ⟨aBadSource, [("position", dv)]⟩) 1 xC_BadSource rfl k_BadSource_BadWidth ⟨rfl, (w_isE (ex := ⟨aBadSource, [("position", dv)]⟩) 1 xC_BadSource rfl k_BadSource_BadText ⟨rfl, (w_isE (ex := ⟨aBadSource, [("position", dv)]⟩) 1 xC_BadSource rfl k_BadSource_BadPlace ⟨(by first | decide | (simp only [List.length_append, List.length_map, List.length_cons, List.length_nil, List.length_singleton, List.length_replicate, List.length_range, List.length_take, List.length_drop, List.length_dropLast, List.length_reverse, Bool.false_eq_true, eq_self, reduceIte, sizeLine_eq]; omega)), fun p1 => ⟨Nat.lt_of_sub_eq_succ rfl, ?_⟩⟩ m_isinstance c_BadPlace)⟩ m_isinstance c_BadText)⟩ m_isinstance c_BadWidth)⟩) sc__law_caught.nd)
      -- line 110
      refine wss_cons (ws_set 3 (w_bin dop_add (w_var 3 (w_lst ⟨rfl, (w_isE (ex := ⟨aBadSource, [("position", dv)]⟩) 1 xC_BadSource rfl k_BadSource_BadSource ⟨rfl, (w_isE (ex := ⟨aBadSource, [("position", dv)]⟩) 1 xC_BadSource rfl k_BadSource_NothingToUndo ⟨rfl, (w_isE (ex := ⟨aBadSource, [("position", dv)]⟩) 1 xC_BadSource rfl k_BadSource_BadWord ⟨(by first | decide | (simp only [List.length_append, List.length_map, List.length_cons, List.length_nil, List.length_singleton, List.length_replicate, List.length_range, List.length_take, List.length_drop, List.length_dropLast, List.length_reverse, Bool.false_eq_true, eq_self, reduceIte, sizeLine_eq]; omega)), fun p2 => ⟨rfl, rfl, (by first | decide | (simp only [List.length_append, List.length_map, List.length_cons, List.length_nil, List.length_singleton, List.length_replicate, List.length_range, List.length_take, List.length_drop, List.length_dropLast, List.length_reverse, Bool.false_eq_true, eq_self, reduceIte, sizeLine_eq]; omega)), fun p3 => ⟨Nat.lt_of_sub_eq_succ rfl, ?_⟩⟩⟩ m_isinstance c_BadWord)⟩ m_isinstance c_NothingToUndo)⟩ m_isinstance c_BadSource)⟩))) sc__law_caught.nd)
      -- line 111
      refine wss_cons (ws_if (WW.t (ww_or (wt_cmp (dop_ne (room64 hr)) (w_count (room65 hr) (w_varF 3 ⟨_, rfl, (w_bl ⟨_, rfl, (by rfl), (by rfl), (w_int ⟨rfl, rfl, _, rfl, ⟨fun h => (ww_or1 (wt_not (wt_val (w_isEB (ex := ⟨aBadSource, [("position", dv)]⟩) 1 xC_BadSource rfl k_BadSource_VE ⟨_, rfl, ⟨fun h => ?_, fun h => ?_⟩⟩ m_isinstance m_ValueError rfl)))), fun h => (absurd h (by decide))⟩⟩)⟩)⟩))))))
      · exact absurd h (by decide)
      refine wss_nil ?_
      -- line 113
      refine wss_cons (ws_if (wt_val (w_ix (w_var 3 (w_int ⟨rfl, rfl, _, rfl, ⟨_, rfl, ⟨fun h => ?_, fun h => ?_⟩⟩⟩)))))
      · skip
        -- line 114
        refine wss_one (ws_ret (w_tup ⟨rfl, (w_str ⟨rfl, (w_excF (ex := ⟨aBadSource, [("position", dv)]⟩) 1 xF_BadSource n_BadSource rfl rfl ⟨(by first | decide | (simp only [List.length_append, List.length_map, List.length_cons, List.length_nil, List.length_singleton, List.length_replicate, List.length_range, List.length_take, List.length_drop, List.length_dropLast, List.length_reverse, Bool.false_eq_true, eq_self, reduceIte, sizeLine_eq]; omega)), ?_⟩)⟩)⟩))
        exact ⟨e, rfl, q⟩
      exact absurd h (by decide)
end
end K56

namespace K56
open PySem PySem.Spec PyProof.Rows L2 QL
open LM
theorem okA_of {ds : List D} (h : ∀ d ∈ ds, okD d = true) : okA ds = true := by
  induction ds with
  | nil => rfl
  | cons d ds ih => simp only [okA, h d List.mem_cons_self, ih fun x hx => h x (List.mem_cons_of_mem _ hx), Bool.and_self]
theorem depthA_of {n : Nat} {ds : List D} (h : ∀ d ∈ ds, d.depth ≤ n) : PyData.depthAll ds ≤ n := by
  induction ds with
  | nil => exact Nat.zero_le _
  | cons d ds ih =>
    have h1 := h d List.mem_cons_self
    have h2 := ih fun x hx => h x (List.mem_cons_of_mem _ hx)
    simp only [PyData.depthAll]
    omega
theorem weightA_of {w : Nat} {ds : List D} (h : ∀ d ∈ ds, d.weight ≤ w) : PyData.weightAll ds ≤ (w + 1) * ds.length := by
  induction ds with
  | nil => exact Nat.zero_le _
  | cons d ds ih =>
    have h1 := h d List.mem_cons_self
    have h2 := ih fun x hx => h x (List.mem_cons_of_mem _ hx)
    simp only [PyData.weightAll, List.length_cons, Nat.mul_add, Nat.mul_one]
    omega
theorem short_tup {n w : Nat} {ds : List D} (h : ∀ d ∈ ds, Short n w d) : Short (n + 1) ((w + 1) * ds.length) (.tuple ds) := by
  have h1 := depthA_of fun d hd => (h d hd).dp
  exact ⟨by simp only [okD]; exact okA_of fun d hd => (h d hd).ok, by simp only [PyData.depth]; omega, by simp only [PyData.weight]; exact weightA_of fun d hd => (h d hd).wt⟩
theorem short_lst {n w : Nat} {ds : List D} (h : ∀ d ∈ ds, Short n w d) : Short (n + 1) ((w + 1) * ds.length) (.list ds) := by
  have h1 := depthA_of fun d hd => (h d hd).dp
  exact ⟨by simp only [okD]; exact okA_of fun d hd => (h d hd).ok, by simp only [PyData.depth]; omega, by simp only [PyData.weight]; exact weightA_of fun d hd => (h d hd).wt⟩
theorem short_int {i : Int} (h : i.natAbs ≤ 2000000000) : Short 0 31 (.int i) := by
  have b : (2000000000 : Nat) < 2 ^ 200 := by decide
  refine ⟨by simp only [okD, decide_eq_true_eq]; omega, Nat.le_refl _, ?_⟩
  show (if i == 0 then 0 else i.natAbs.log2 + 1) ≤ 31
  split
  · exact Nat.zero_le _
  · have : i.natAbs.log2 < 31 := by
      by_cases z : i.natAbs = 0
      · rw [z]; decide
      · exact (Nat.log2_lt z).mpr (Nat.lt_of_le_of_lt h (by decide))
    omega
def oddB (d : D) : Bool := okD d && decide (d.depth ≤ 2) && decide (d.weight ≤ 100)
theorem odd_of {d : D} (h : oddB d = true) : Short 2 100 d := by
  unfold oddB at h
  simp only [Bool.and_eq_true, decide_eq_true_eq] at h
  exact ⟨h.1.1, h.1.2, h.2⟩
abbrev oddA : List D := [.none, .bool true, .bool false, .int 0, .int 1, .int (-1), .int (10 ^ (9 : Int).toNat), .int (10 ^ (9 : Int).toNat + 1), .int (10 ^ (30 : Int).toNat), .str "", .str "1", .str "a", .tuple [], .list [], .dict [], .tuple [.int 1], .list [.int 1], .tuple [.bool true]]
abbrev oddZ : List D := [.tuple [.int 0], .tuple [.str "1"], .tuple [.int 1, .none], .tuple [.tuple [.int 1]], .tuple [.int (10 ^ (9 : Int).toNat)], .tuple (List.replicate (Int.toNat 300) [PyData.int 1]).flatten, .tuple (List.replicate (Int.toNat 301) [PyData.int 1]).flatten]
def lenB (d : D) : Bool := match d with
  | .tuple ds => decide (ds.length ≤ 301)
  | _ => true
theorem lenB_ok {d : D} (h : lenB d = true) : notLong d := by
  cases d with
  | tuple ds => have h : ds.length ≤ 301 := of_decide_eq_true h; show ds.length ≤ 2000; omega
  | _ => trivial
def oddB2 (d : D) : Bool := okD d && decide (d.depth ≤ 2) && decide (d.weight ≤ 700) && lenB d
theorem odd_of2 {d : D} (h : oddB2 d = true) : Short 2 700 d ∧ notLong d := by
  unfold oddB2 at h
  simp only [Bool.and_eq_true, decide_eq_true_eq] at h
  exact ⟨⟨h.1.1.1, h.1.1.2, h.1.2⟩, lenB_ok h.2⟩
theorem items_odd : ∀ d ∈ oddA ++ oddZ, Short 2 700 d ∧ notLong d := fun d hd =>
  odd_of2 (List.all_eq_true.mp (by decide +kernel : (oddA ++ oddZ).all oddB2 = true) d hd)
def spOdd : Spc := fun ts QT _ => ∃ (p : Addr) (n a b c : Int), ts = [.lst p (potD a b c)] ∧ PotOk n a b c ∧ n ≤ 800000 ∧ ∀ a' b' c' d, PotOk (n + 40) a' b' c' → Short 28 800 d → notLong d → QT (.va d) [some (.lst p (potD a' b' c'))]
section
variable {P : Program} {w : World} {K : PySem.W.Frag} {mg : Str → Option Value} {base : Heap} {Tq : List (Addr × Str)}
abbrev N__law_odd : List Str := ["_law_well_here", "_law_some", "_law_found", "_law_turn"]
theorem sc__law_odd : FnScope N__law_odd ["_law_well_here"] (defScope (topS 29)) := ⟨rfl, rfl, rfl, by decide +kernel, rfl, by decide +kernel, by decide +kernel⟩
theorem g__law_odd {f : Addr} {fd : FuncData} {k : Nat} (Fn : Fun K "_law_odd" "_law_odd" (topS 29) f fd) (G__law_pick : Df P w K mg base Tq k "_law_pick" ["_law_well_here", "_law_some"] spOfI) (G__law_pickD : Df P w K mg base Tq k "_law_pick" ["_law_well_here", "_law_some"] spOf) (m_range : mg "range" = none) : FnG P w K mg base Tq (k + 1) f fd ["_law_well_here"] spOdd := by
  refine fn_g Fn sc__law_odd (fun ts Q E h => ?_) fun cdv A outer s H E Z ts QT ET hr hgd hp tk h => ?_
  · obtain ⟨pt, n, a, b, c, rfl, hpot, hn, q⟩ := h; rfl
  · obtain ⟨pt, n, a, b, c, rfl, hpot, hn, q⟩ := h
    -- line 96
    refine wss_cons (ws_set 1 (w_lst ⟨rfl, (w_non ⟨rfl, (w_bl ⟨rfl, (w_bl ⟨rfl, (w_int ⟨rfl, (w_int ⟨rfl, (w_neg (w_int ⟨rfl, ⟨rfl, (w_bin dop_pow (w_int (w_int ⟨rfl, rfl, (.inl ⟨by decide, by decide, by decide⟩), ⟨rfl, (w_bin dop_add (w_bin dop_pow (w_int (w_int ⟨rfl, rfl, (.inl ⟨by decide, by decide, by decide⟩), (w_int ⟨rfl, rfl, ⟨rfl, (w_bin dop_pow (w_int (w_int ⟨rfl, rfl, (.inl ⟨by decide, by decide, by decide⟩), ⟨rfl, (w_str ⟨rfl, (w_str ⟨rfl, (w_str ⟨rfl, (w_tup ⟨(by first | decide | (simp only [List.length_append, List.length_map, List.length_cons, List.length_nil, List.length_singleton, List.length_replicate, List.length_range, List.length_take, List.length_drop, List.length_dropLast, List.length_reverse, Bool.false_eq_true, eq_self, reduceIte, sizeLine_eq]; omega)), ⟨rfl, (w_lst ⟨(by first | decide | (simp only [List.length_append, List.length_map, List.length_cons, List.length_nil, List.length_singleton, List.length_replicate, List.length_range, List.length_take, List.length_drop, List.length_dropLast, List.length_reverse, Bool.false_eq_true, eq_self, reduceIte, sizeLine_eq]; omega)), fun p1 => ⟨rfl, (w_dict0 fun p2 => ⟨rfl, (w_tup ⟨rfl, (w_int ⟨(by first | decide | (simp only [List.length_append, List.length_map, List.length_cons, List.length_nil, List.length_singleton, List.length_replicate, List.length_range, List.length_take, List.length_drop, List.length_dropLast, List.length_reverse, Bool.false_eq_true, eq_self, reduceIte, sizeLine_eq]; omega)), ⟨rfl, (w_lst ⟨rfl, (w_int ⟨(by first | decide | (simp only [List.length_append, List.length_map, List.length_cons, List.length_nil, List.length_singleton, List.length_replicate, List.length_range, List.length_take, List.length_drop, List.length_dropLast, List.length_reverse, Bool.false_eq_true, eq_self, reduceIte, sizeLine_eq]; omega)), fun p3 => ⟨rfl, (w_tup ⟨rfl, (w_bl ⟨(by first | decide | (simp only [List.length_append, List.length_map, List.length_cons, List.length_nil, List.length_singleton, List.length_replicate, List.length_range, List.length_take, List.length_drop, List.length_dropLast, List.length_reverse, Bool.false_eq_true, eq_self, reduceIte, sizeLine_eq]; omega)), ⟨(by first | decide | (simp only [List.length_append, List.length_map, List.length_cons, List.length_nil, List.length_singleton, List.length_replicate, List.length_range, List.length_take, List.length_drop, List.length_dropLast, List.length_reverse, Bool.false_eq_true, eq_self, reduceIte, sizeLine_eq]; omega)), fun p4 => ⟨Nat.lt_of_sub_eq_succ rfl, ?_⟩⟩⟩)⟩)⟩⟩)⟩)⟩⟩)⟩)⟩)⟩⟩)⟩⟩)⟩)⟩)⟩)⟩⟩)))⟩⟩)⟩))))⟩⟩)))⟩⟩))⟩)⟩)⟩)⟩)⟩)⟩) sc__law_odd.nd)
    obtain ⟨S, hS⟩ : ∃ S, S = oddA := ⟨_, rfl⟩
    have hSl : S.length = 18 := by rw [hS]; rfl
    show WSs _ _ _ [some (.lst pt (potD a b c)), some (.lst p4 oddA), none, none] _
    rw [← hS]
    -- line 97
    refine wss_cons (ws_set 2 (w_fn G__law_pickD hr hgd ⟨(by kernel_rfl), (w_var 0 ⟨(by kernel_rfl), (w_bin dop_add (w_var 1 ?cL))⟩)⟩) sc__law_odd.nd)
    case cL =>
      generalize hAE : (Expr.List _ _) = LE
      show WE _ _ LE _ _
      subst hAE
      refine w_lst ?_
      refine And.intro (by kernel_rfl) ?_
      refine w_tup ⟨rfl, w_int ⟨(Nat.le_of_lt (small2000 (n := 1) (by decide))), ?_⟩⟩
      refine And.intro (by kernel_rfl) ?_
      refine w_tup ⟨rfl, w_str ⟨(Nat.le_of_lt (small2000 (n := 1) (by decide))), ?_⟩⟩
      refine And.intro (by kernel_rfl) ?_
      refine w_tup ⟨rfl, w_int ⟨rfl, w_non ⟨(Nat.le_of_lt (small2000 (n := 2) (by decide))), ?_⟩⟩⟩
      refine And.intro (by kernel_rfl) ?_
      refine w_tup ⟨rfl, w_tup ⟨rfl, w_int ⟨(Nat.le_of_lt (small2000 (n := 1) (by decide))), (Nat.le_of_lt (small2000 (n := 1) (by decide))), ?_⟩⟩⟩
      refine And.intro (by kernel_rfl) ?_
      refine w_tup ⟨rfl, w_bin dop_pow (w_int (w_int ⟨rfl, rfl, (.inl ⟨by decide, by decide, by decide⟩), (Nat.le_of_lt (small2000 (n := 1) (by decide))), ?_⟩))⟩
      refine And.intro (by kernel_rfl) ?_
      refine w_bin dop_mulT (w_tup ⟨rfl, w_int ⟨(Nat.le_of_lt (small2000 (n := 1) (by decide))), w_int ⟨rfl, rfl, ⟨List.cons_ne_nil _ _, (by show 1 ≤ 1000; decide), by omega, by omega, ?_⟩⟩⟩⟩)
      refine And.intro (by kernel_rfl) ?_
      refine w_bin dop_mulT (w_tup ⟨rfl, w_int ⟨(Nat.le_of_lt (small2000 (n := 1) (by decide))), w_int ⟨rfl, rfl, ⟨List.cons_ne_nil _ _, (by show 1 ≤ 1000; decide), by omega, by omega, ?_⟩⟩⟩⟩)
      refine ⟨(Nat.le_of_lt (small2000 (n := 7) (by decide))), fun p5 => ?_⟩
      refine ⟨rfl, rfl, (by simp only [List.length_append, List.length_cons, List.length_nil, hSl, sizeLine_eq]; omega), fun p6 => ⟨rfl, ⟨_, _, _, _, _, _, _, none, rfl, (.inl ⟨rfl, rfl⟩), (by assumption), (by omega), ⟨by simp only [List.length_append, List.length_cons, List.length_nil, hSl]; omega, by simp only [List.length_append, List.length_cons, List.length_nil, hSl]; omega⟩, fun a1 b1 c1 d1 hp_1 hm_1 => ⟨rfl, rfl, ⟨Nat.lt_of_sub_eq_succ rfl, ?_⟩⟩⟩⟩⟩
      rw [hS] at hm_1
      have hi := items_odd _ hm_1
      -- line 98
      refine wss_cons (ws_for hp rfl (pg_name (i := 3) sc__law_odd.nd rfl (by first | exact Or.inl rfl | exact Or.inr rfl)) (gok_name 3) (wi_range1 m_range ⟨rfl, (w_fn G__law_pick hr hgd ⟨rfl, (w_var 0 ⟨rfl, (w_lst ⟨rfl, (w_int ⟨rfl, (w_int ⟨rfl, (w_int ⟨rfl, (w_int ⟨rfl, (w_int ⟨(by first | decide | (simp only [List.length_append, List.length_map, List.length_cons, List.length_nil, List.length_singleton, List.length_replicate, List.length_range, List.length_take, List.length_drop, List.length_dropLast, List.length_reverse, Bool.false_eq_true, eq_self, reduceIte, sizeLine_eq]; omega)), fun p7 => ⟨rfl, ⟨_, _, _, _, _, [0, 0, 0, 1, 25], 0, 25, _, none, rfl, (.inl ⟨rfl, rfl⟩), (by assumption), (by omega), ⟨by simp, by simp⟩, (by simp only [List.mem_cons, List.not_mem_nil, or_false, forall_eq_or_imp, forall_eq]; omega), fun a2 b2 c2 m hp_2 m0 m1 hm_2 => ⟨rfl, rfl, ⟨rfl, ⟨by omega, by omega⟩, ?_⟩⟩⟩⟩⟩)⟩)⟩)⟩)⟩)⟩)⟩)⟩)⟩))
      refine ⟨fun j e => ∃ x y z d o3, PotOk (n + 2 + j) x y z ∧ Short (2 + j) (700 + 3 * j) d ∧ notLong d ∧ e = [some (.lst pt (potD x y z)), some (.lst p4 S), some (.va d), o3], ⟨a2, b2, c2, d1, none, hp_2.le (by omega), hi.1, hi.2, rfl⟩, ?_, ?_⟩
      · rintro j dd e hd ⟨x, y, z, d2, o3, hp1, hd1, hd9, rfl⟩
        obtain ⟨rfl, hj⟩ := rangeD_at hd
        have hj26 : j < 26 := by omega
        refine ⟨Nat.lt_of_sub_eq_succ rfl, ?_⟩
        -- line 99
        refine wss_one (ws_set 2 (w_fn G__law_pickD hr hgd ⟨rfl, (w_var 0 ⟨rfl, (w_lst ⟨rfl, (w_tup ⟨rfl, (w_var 2 ⟨(by first | decide | (simp only [List.length_append, List.length_map, List.length_cons, List.length_nil, List.length_singleton, List.length_replicate, List.length_range, List.length_take, List.length_drop, List.length_dropLast, List.length_reverse, Bool.false_eq_true, eq_self, reduceIte, sizeLine_eq]; omega)), ⟨rfl, (w_lst ⟨rfl, (w_var 2 ⟨(by first | decide | (simp only [List.length_append, List.length_map, List.length_cons, List.length_nil, List.length_singleton, List.length_replicate, List.length_range, List.length_take, List.length_drop, List.length_dropLast, List.length_reverse, Bool.false_eq_true, eq_self, reduceIte, sizeLine_eq]; omega)), fun p8 => ⟨rfl, (w_dict1 (w_var 2 ⟨_, rfl, fun p9 => ⟨(by first | decide | (simp only [List.length_append, List.length_map, List.length_cons, List.length_nil, List.length_singleton, List.length_replicate, List.length_range, List.length_take, List.length_drop, List.length_dropLast, List.length_reverse, Bool.false_eq_true, eq_self, reduceIte, sizeLine_eq]; omega)), fun p10 => ⟨rfl, ⟨_, _, _, _, _, [.tuple [d2], .list [d2], .dict [(.str "a", d2)]], _, none, rfl, (.inl ⟨rfl, rfl⟩), (by assumption), (by omega), ⟨by simp, by simp⟩, fun a3 b3 c3 d3 hp_3 hm_3 => ⟨rfl, rfl, ⟨Nat.lt_of_sub_eq_succ rfl, ?_⟩⟩⟩⟩⟩⟩))⟩⟩)⟩)⟩⟩)⟩)⟩)⟩)⟩) sc__law_odd.nd)
        refine ⟨_, _, _, d3, _, hp_3.le (by omega), ?_, ?_, rfl⟩
        · rcases List.mem_cons.mp hm_3 with e | hm3
          · rw [e]; exact hd1.tup1.le (by omega) (by omega)
          rcases List.mem_cons.mp hm3 with e | hm3
          · rw [e]; exact hd1.lst1.le (by omega) (by omega)
          · rw [List.mem_singleton.mp hm3]; exact (hd1.dic1 (x := "a") (by decide +kernel) (by decide +kernel)).le (by omega) (by omega)
        · rcases List.mem_cons.mp hm_3 with e | hm3
          · rw [e]; exact (by decide : 1 ≤ 2000)
          rcases List.mem_cons.mp hm3 with e | hm3
          · rw [e]; trivial
          · rw [List.mem_singleton.mp hm3]; trivial
      · rintro e ⟨x, y, z, d2, o3, hp1, hd1, hd9, rfl⟩
        rw [rangeD_len] at hp1 hd1
        -- line 100
        refine wss_one (ws_ret (w_var 2 ?_))
        exact ⟨rfl, q _ _ _ _ (hp1.le (by omega)) (hd1.le (by omega) (by omega)) hd9⟩
end
end K56

namespace K56
open PySem PySem.Spec PyProof.Rows L2 QL
open LM
def Thing (d : D) : Prop := Short 28 20000 d ∧ thS d
def spRight : Spc := fun ts QT _ => ∃ (wd : Int) (d : D), ts = [.va (.int wd), .va d] ∧ (1 ≤ wd ∧ wd ≤ 1000000000) ∧ Thing d ∧ QT (.va (.bool true)) [none, none]
theorem readO_some {wd : Int} {d : D} {ds : List D} (h : readO wd d = some ds) : textB wd (.tuple ds) = true := by
  cases d with
  | str s =>
    have h : (if textB wd (.tuple (readL s)) = true then some (readL s) else none) = some ds := h
    split at h
    · rename_i h1; cases h; exact h1
    · cases h
  | _ => cases h
theorem btw_short {d : D} {wd : Int} (h : btw d 1 wd = true) (hw : wd ≤ 1000000000) : Short 0 31 d := by
  cases d with
  | int i =>
    have h : (decide (1 ≤ i) && decide (i ≤ wd)) = true := h
    rw [Bool.and_eq_true, decide_eq_true_eq, decide_eq_true_eq] at h
    exact short_int (by omega)
  | _ => cases h
theorem text_short {wd : Int} {ds : List D} (h : textB wd (.tuple ds) = true) (hw : wd ≤ 1000000000) : Short 1 9600 (.tuple ds) := by
  have h : ((ds.all fun x => btw x 1 wd) && decide (ds.length ≤ 300)) = true := h
  rw [Bool.and_eq_true, decide_eq_true_eq, List.all_eq_true] at h
  exact (short_tup fun d hd => btw_short (h.1 d hd) hw).le (Nat.le_refl _) (by omega)
theorem short_pair {n w1 w2 : Nat} {a b : D} (ha : Short n w1 a) (hb : Short n w2 b) : Short (n + 1) (w1 + w2 + 2) (.tuple [a, b]) :=
  ⟨by simp only [okD, okA, ha.ok, hb.ok, Bool.and_self], by have := ha.dp; have := hb.dp; simp only [PyData.depth, PyData.depthAll]; omega, by have := ha.wt; have := hb.wt; simp only [PyData.weight, PyData.weightAll]; omega⟩
theorem short_pairL {n w1 w2 : Nat} {a b : D} (ha : Short n w1 a) (hb : Short n w2 b) : Short (n + 1) (w1 + w2 + 2) (.list [a, b]) :=
  ⟨by simp only [okD, okA, ha.ok, hb.ok, Bool.and_self], by have := ha.dp; have := hb.dp; simp only [PyData.depth, PyData.depthAll]; omega, by have := ha.wt; have := hb.wt; simp only [PyData.weight, PyData.weightAll]; omega⟩
theorem two_show {n w : Nat} {a : D} (h : Short n w a) (hn : n ≤ 99) (hw : w ≤ 29000) : showOk (.list [a, a]) := (short_pairL h h).show_ (by omega) (by omega)
section
variable {P : Program} {w : World} {K : PySem.W.Frag} {mg : Str → Option Value} {base : Heap} {Tq : List (Addr × Str)}
abbrev N__law_right : List Str := ["_law_wide", "_law_page", "_law_due_here", "_law_told"]
theorem sc__law_right : FnScope N__law_right ["_law_wide", "_law_page"] (defScope (topS 33)) := ⟨rfl, rfl, rfl, by decide +kernel, rfl, by decide +kernel, by decide +kernel⟩
theorem g__law_right {f : Addr} {fd : FuncData} {k : Nat} {aBadSource : Addr} (Fn : Fun K "_law_right" "_law_right" (topS 33) f fd) {c0 P0 : Addr} (hcode : fd.code = .ref c0) (TB : LamX.TabB base mg c0 P0) (hmT : (P0, lamQ "_law_right") ∈ Tq) (huT : ∀ p ∈ Tq, p.1 = P0 → p.2 = lamQ "_law_right") (V__law_caught : GvL P w K mg base Tq (k + 2) "_law_caught" "_law_call" (tgCaught aBadSource)) (G__law_due : Df P w K mg base Tq k "_law_due" ["_law_wide", "_law_page"] spDue) (G_read_text : Df P w K mg base Tq k "read_text" ["width", "source"] (spReadT aBadSource)) (K_read_text : Dk P w K mg base Tq k "read_text" ["width", "source"] ["source", "width"] [1, 0] (spReadT aBadSource)) (m_repr : mg "repr" = none) : FnG P w K mg base Tq (k + 4) f fd ["_law_wide", "_law_page"] spRight := by
  have LG__law_due := G__law_due.mono (Nat.le_add_right k 1)
  have G__law_due := G__law_due.mono (Nat.le_add_right k 3)
  have LG_read_text := G_read_text.mono (Nat.le_add_right k 1)
  have G_read_text := G_read_text.mono (Nat.le_add_right k 3)
  have LK_read_text := K_read_text.mono (Nat.le_add_right k 1)
  have K_read_text := K_read_text.mono (Nat.le_add_right k 3)
  refine fn_gC Fn hcode sc__law_right (fun ts Q E h => ?_) fun A outer s H E Z ts QT ET hr hgd hp tk h => ?_
  · obtain ⟨wd, dv, rfl, hw9, hT, q⟩ := h; rfl
  · obtain ⟨wd, dv, rfl, hw9, hT, q⟩ := h
    have hu := room110 hr
    have hth := hT.2
    cases ho : readO wd dv with
    | none =>
      have hsd := two_show (short_pair (short_str (n := 0) (w := 10) (s := "source") (by decide +kernel) (by decide +kernel)) (short_int (i := 0) (by decide))) (by decide) (by decide)
      -- line 134
      refine wss_cons (ws_set 2 (w_fn G__law_due hr hgd ⟨rfl, (w_var 0 ⟨rfl, (w_var 1 ⟨_, _, rfl, hth, .inr ⟨ho, ⟨Nat.lt_of_sub_eq_succ rfl, ?_⟩⟩⟩)⟩)⟩) sc__law_right.nd)
      -- line 135
      refine wss_cons (ws_set 3 (w_lst ⟨rfl, (w_lamP (k := k + 1) (fun Q E => E ⟨aBadSource, [("position", .int 0)]⟩) V__law_caught TB rfl hmT huT hr hgd (LamX.lamS_by (sc := defScope (topS 33)) (by decide +kernel)) (fun A_2 ou_2 s_2 H_2 E_2 f_2 c_2 Z_2 P_2 ET_2 hr2 hgd2 tk2 hL => (w_fnX LG_read_text hr2 hgd2 tk2  ⟨rfl, (w_var 0 ⟨rfl, (w_var 1 ⟨_, _, rfl, hth, .inr ⟨ho, hL⟩⟩)⟩)⟩)) (fun Q E E2 f h => f _ h) (by repeat' first | exact trivial | exact rfl | exact ⟨_, rfl, rfl⟩ | exact domT_map _ | assumption | apply And.intro) (fun Q2 E2 f g => g _ _ ⟨_, ⟨_, rfl, rfl⟩, ⟨(by first | decide | (simp only [List.length_append, List.length_map, List.length_cons, List.length_nil, List.length_singleton, List.length_replicate, List.length_range, List.length_take, List.length_drop, List.length_dropLast, List.length_reverse, Bool.false_eq_true, eq_self, reduceIte, sizeLine_eq]; omega)), fun p1 => ⟨Nat.lt_of_sub_eq_succ rfl, ?_⟩⟩⟩) (fun L1 L2 Q f h => fun Q2 E2 a b => f _ _ (h Q2 E2 a b)))⟩) sc__law_right.nd)
      -- line 136
      refine wss_cons (ws_expr (w_append (w_var 3 ⟨_, _, _, _, rfl, rfl, (w_lamP (k := k + 1) (fun Q E => E ⟨aBadSource, [("position", .int 0)]⟩) V__law_caught TB rfl hmT huT hr hgd (LamX.lamS_by (sc := defScope (topS 33)) (by decide +kernel)) (fun A_2 ou_2 s_2 H_2 E_2 f_2 c_2 Z_2 P_2 ET_2 hr2 hgd2 tk2 hL => (w_fnKX LK_read_text hr2 hgd2 tk2  (w_var 1 (w_var 0 ⟨rfl, ⟨_, _, rfl, hth, .inr ⟨ho, hL⟩⟩⟩)))) (fun Q E E2 f h => f _ h) (by repeat' first | exact trivial | exact rfl | exact ⟨_, rfl, rfl⟩ | exact domT_map _ | assumption | apply And.intro) (fun Q2 E2 f g => g _ _ ⟨_, ⟨_, rfl, rfl⟩, ⟨_, _, rfl, rfl, (by simp only [List.length_append, List.length_map, List.length_cons, List.length_nil, List.length_singleton, List.length_replicate, List.length_range, List.length_take, List.length_drop, List.length_dropLast, List.length_reverse, Bool.false_eq_true, eq_self, reduceIte, sizeLine_eq]; omega), ?_⟩⟩) (fun L1 L2 Q f h => fun Q2 E2 a b => f _ _ (h Q2 E2 a b)))⟩)))
      -- line 137
      refine wss_cons (ws_set 2 (w_ifExp (wt_cmp dop_isN (w_var 2 (w_non ⟨rfl, rfl, _, rfl, ⟨fun h => (w_tup ⟨rfl, (w_str ⟨rfl, (w_int ⟨(by first | decide | (simp only [List.length_append, List.length_map, List.length_cons, List.length_nil, List.length_singleton, List.length_replicate, List.length_range, List.length_take, List.length_drop, List.length_dropLast, List.length_reverse, Bool.false_eq_true, eq_self, reduceIte, sizeLine_eq]; omega)), ⟨Nat.lt_of_sub_eq_succ rfl, ?_⟩⟩)⟩)⟩), fun h => absurd h (by decide)⟩⟩)))) sc__law_right.nd)
      -- line 138
      refine wss_one (ws_ret (w_cmp (dop_eq (room64 hr)) (w_callB (dc_reprD hgd hu) m_repr rfl ⟨rfl, (w_var 3 ⟨rfl, ⟨_, rfl, hsd, (w_callB (dc_reprD hgd hu) m_repr rfl ⟨rfl, (w_lst ⟨rfl, (w_var 2 ⟨rfl, (w_var 2 ⟨(by first | decide | (simp only [List.length_append, List.length_map, List.length_cons, List.length_nil, List.length_singleton, List.length_replicate, List.length_range, List.length_take, List.length_drop, List.length_dropLast, List.length_reverse, Bool.false_eq_true, eq_self, reduceIte, sizeLine_eq]; omega)), fun p2 => ⟨rfl, ⟨_, rfl, hsd, ⟨rfl, rfl, ?_⟩⟩⟩⟩)⟩)⟩)⟩)⟩⟩)⟩)))
      refine (congrArg (fun z => QT (.va (.bool z)) [none, none]) (decide_eq_true rfl)).mpr q
    | some ds =>
      have hsd := two_show (short_pair ((short_str (n := 0) (w := 10) (s := "told") (by decide +kernel) (by decide +kernel)).le (Nat.zero_le 1) (Nat.le_refl _)) (text_short (readO_some ho) hw9.2)) (by decide) (by decide)
      -- line 134
      refine wss_cons (ws_set 2 (w_fn G__law_due hr hgd ⟨rfl, (w_var 0 ⟨rfl, (w_var 1 ⟨_, _, rfl, hth, .inl ⟨_, ho, fun pD => ⟨Nat.lt_of_sub_eq_succ rfl, ?_⟩⟩⟩)⟩)⟩) sc__law_right.nd)
      -- line 135
      refine wss_cons (ws_set 3 (w_lst ⟨rfl, (w_lamP (k := k + 1) (fun Q E => Q (.va (.tuple ds))) V__law_caught TB rfl hmT huT hr hgd (LamX.lamS_by (sc := defScope (topS 33)) (by decide +kernel)) (fun A_2 ou_2 s_2 H_2 E_2 f_2 c_2 Z_2 P_2 ET_2 hr2 hgd2 tk2 hL => (w_fnX LG_read_text hr2 hgd2 tk2  ⟨rfl, (w_var 0 ⟨rfl, (w_var 1 ⟨_, _, rfl, hth, .inl ⟨_, ho, hL⟩⟩)⟩)⟩)) (fun Q E E2 f h => h) (by repeat' first | exact trivial | exact rfl | exact ⟨_, rfl, rfl⟩ | exact domT_map _ | assumption | apply And.intro) (fun Q2 E2 f g => f _ _ (⟨(by first | decide | (simp only [List.length_append, List.length_map, List.length_cons, List.length_nil, List.length_singleton, List.length_replicate, List.length_range, List.length_take, List.length_drop, List.length_dropLast, List.length_reverse, Bool.false_eq_true, eq_self, reduceIte, sizeLine_eq]; omega)), fun p3 => ⟨Nat.lt_of_sub_eq_succ rfl, ?_⟩⟩)) (fun L1 L2 Q f h => fun Q2 E2 a b => f _ _ (h Q2 E2 a b)))⟩) sc__law_right.nd)
      -- line 136
      refine wss_cons (ws_expr (w_append (w_var 3 ⟨_, _, _, _, rfl, rfl, (w_lamP (k := k + 1) (fun Q E => Q (.va (.tuple ds))) V__law_caught TB rfl hmT huT hr hgd (LamX.lamS_by (sc := defScope (topS 33)) (by decide +kernel)) (fun A_2 ou_2 s_2 H_2 E_2 f_2 c_2 Z_2 P_2 ET_2 hr2 hgd2 tk2 hL => (w_fnKX LK_read_text hr2 hgd2 tk2  (w_var 1 (w_var 0 ⟨rfl, ⟨_, _, rfl, hth, .inl ⟨_, ho, hL⟩⟩⟩)))) (fun Q E E2 f h => h) (by repeat' first | exact trivial | exact rfl | exact ⟨_, rfl, rfl⟩ | exact domT_map _ | assumption | apply And.intro) (fun Q2 E2 f g => f _ _ (⟨_, _, rfl, rfl, (by simp only [List.length_append, List.length_map, List.length_cons, List.length_nil, List.length_singleton, List.length_replicate, List.length_range, List.length_take, List.length_drop, List.length_dropLast, List.length_reverse, Bool.false_eq_true, eq_self, reduceIte, sizeLine_eq]; omega), ?_⟩)) (fun L1 L2 Q f h => fun Q2 E2 a b => f _ _ (h Q2 E2 a b)))⟩)))
      -- line 137
      refine wss_cons (ws_set 2 (w_ifExp (wt_cmp dop_isN (w_varF 2 (w_non ⟨rfl, rfl, _, rfl, ⟨fun h => Bool.noConfusion h, fun h => (w_tup ⟨rfl, (w_str ⟨rfl, (w_ix (w_var 2 (w_int ⟨rfl, rfl, _, rfl, ⟨(by first | decide | (simp only [List.length_append, List.length_map, List.length_cons, List.length_nil, List.length_singleton, List.length_replicate, List.length_range, List.length_take, List.length_drop, List.length_dropLast, List.length_reverse, Bool.false_eq_true, eq_self, reduceIte, sizeLine_eq]; omega)), ⟨Nat.lt_of_sub_eq_succ rfl, ?_⟩⟩⟩)))⟩)⟩)⟩⟩)))) sc__law_right.nd)
      -- line 138
      refine wss_one (ws_ret (w_cmp (dop_eq (room64 hr)) (w_callB (dc_reprD hgd hu) m_repr rfl ⟨rfl, (w_var 3 ⟨rfl, ⟨_, rfl, hsd, (w_callB (dc_reprD hgd hu) m_repr rfl ⟨rfl, (w_lst ⟨rfl, (w_var 2 ⟨rfl, (w_var 2 ⟨(by first | decide | (simp only [List.length_append, List.length_map, List.length_cons, List.length_nil, List.length_singleton, List.length_replicate, List.length_range, List.length_take, List.length_drop, List.length_dropLast, List.length_reverse, Bool.false_eq_true, eq_self, reduceIte, sizeLine_eq]; omega)), fun p4 => ⟨rfl, ⟨_, rfl, hsd, ⟨rfl, rfl, ?_⟩⟩⟩⟩)⟩)⟩)⟩)⟩⟩)⟩)))
      refine (congrArg (fun z => QT (.va (.bool z)) [none, none]) (decide_eq_true rfl)).mpr q
end
end K56

namespace K56
open PySem PySem.Spec PyProof.Rows L2 QL
open LM
theorem lenS_app (a b : Str) : (a ++ b).length = a.length + b.length := by rw [len_stl, stl_app, List.length_append, ← len_stl, ← len_stl]
theorem lenS_sg (c : Nat) : (⟨#[c]⟩ : Str).length = 1 := rfl
def spOfS : Spc := fun ts QT _ => ∃ (p : Addr) (n a b c : Int) (z : Str), ts = [.lst p (potD a b c), .va (.str z)] ∧ PotOk n a b c ∧ n ≤ 900000 ∧ (1 ≤ z.length ∧ z.length ≤ 1000) ∧
  ∀ a' b' c' u, PotOk (n + 1) a' b' c' → u ∈ stl z → QT (.va (sgS u)) [some (.lst p (potD a' b' c')), none]
theorem at_posS {l : List Nat} {d : Int} (h0 : 0 ≤ d) (h1 : d < l.length) : ∃ y, atI l d = some y ∧ y ∈ l := by
  have hl : d.toNat < l.length := by omega
  have ed : d = ((d.toNat : Nat) : Int) := by omega
  exact ⟨l[d.toNat], (congrArg (atI l) ed).trans (atI_nat (List.getElem?_eq_getElem hl)), List.getElem_mem hl⟩
section
variable {P : Program} {w : World} {K : PySem.W.Frag} {mg : Str → Option Value} {base : Heap} {Tq : List (Addr × Str)}
abbrev N__law_pickS : List Str := ["_law_well_here", "_law_some"]
theorem sc__law_pickS : FnScope N__law_pickS ["_law_well_here", "_law_some"] (defScope (topS 25)) := ⟨rfl, rfl, rfl, by decide +kernel, rfl, by decide +kernel, by decide +kernel⟩
theorem g__law_pickS {f : Addr} {fd : FuncData} {k : Nat} (Fn : Fun K "_law_pick" "_law_pick" (topS 25) f fd) (G__law_draw : Df P w K mg base Tq k "_law_draw" ["_law_well_here", "_law_many"] spTake) (m_len : mg "len" = none) : FnG P w K mg base Tq (k + 1) f fd ["_law_well_here", "_law_some"] spOfS := by
  refine fn_g Fn sc__law_pickS (fun ts Q E h => ?_) fun cdv A outer s H E Z ts QT ET hr hgd hp tk h => ?_
  · obtain ⟨p, n, a, b, c, z, rfl, hpot, hn, ⟨hl0, hl⟩, q⟩ := h; rfl
  · obtain ⟨p, n, a, b, c, z, rfl, hpot, hn, ⟨hl0, hl⟩, q⟩ := h
    have hsl := len_stl z
    -- line 76
    refine wss_one (ws_ret (w_ixS (w_var 1 (w_fn G__law_draw hr hgd ⟨rfl, (w_var 0 ⟨rfl, (w_callB dc_lenS m_len rfl ⟨rfl, (w_var 1 ⟨rfl, _, rfl, (by rw [sizeLine_eq]; omega), ⟨rfl, ⟨_, _, _, _, _, _, rfl, (by assumption), (by omega), ⟨by omega, by omega⟩, fun a' b' c' d hp2 h0 h1 => ?c0⟩⟩⟩)⟩)⟩)⟩))))
    case c0 =>
      obtain ⟨y, hy, hmy⟩ := at_posS (l := stl z) h0 (by omega)
      refine ⟨rfl, rfl, ⟨rfl, rfl, _, _, _, rfl, rfl, (by rw [sizeLine_eq]; omega), hy, ?_⟩⟩
      exact ⟨rfl, q _ _ _ _ hp2 hmy⟩
end
def spSpoilt : Spc := fun ts QT _ => ∃ (p : Addr) (n a b c : Int) (s : Str), ts = [.lst p (potD a b c), .va (.str s)] ∧ PotOk n a b c ∧ n ≤ 800000 ∧ s.length ≤ 10000 ∧ okS s = true ∧
  ∀ a' b' c' u, PotOk (n + 10) a' b' c' → okS u = true → u.length ≤ 2 * s.length + 1 → QT (.va (.str u)) [some (.lst p (potD a' b' c')), none]
theorem okS_sg {c : Nat} {z : Str} (hz : okS z = true) (h : c ∈ stl z) : okS ⟨#[c]⟩ = true := okS_iff.mpr fun x hx => by
  have : x = c := by simpa using hx
  rw [this]; exact okS_iff.mp hz c h
theorem take_drop_le (s : Str) (a b : Int) : (cutS s none (some a)).length + (cutS s (some b) none).length ≤ 2 * s.length := by
  have h1 := cutS_length s none (some a)
  have h2 := cutS_length s (some b) none
  omega
theorem cut_both (s : Str) (q : Nat) (h : q ≤ s.length) : (cutS s none (some (q : Int))).length = q ∧ (cutS s (some (q : Int)) none).length = s.length - q := by
  constructor
  · rw [len_stl, cut_toS s q h, List.length_take, ← len_stl]; omega
  · rw [len_stl, cut_fromS s q h, List.length_drop, ← len_stl]
section
variable {P : Program} {w : World} {K : PySem.W.Frag} {mg : Str → Option Value} {base : Heap} {Tq : List (Addr × Str)}
abbrev N__law_spoilt : List Str := ["_law_well_here", "_law_page", "_law_spot", "_law_far", "_law_low", "_law_high", "_law_sign", "_law_some"]
theorem sc__law_spoilt : FnScope N__law_spoilt ["_law_well_here", "_law_page"] (defScope (topS 31)) := ⟨rfl, rfl, rfl, by decide +kernel, rfl, by decide +kernel, by decide +kernel⟩
theorem g__law_spoilt {f : Addr} {fd : FuncData} {k : Nat} (Fn : Fun K "_law_spoilt" "_law_spoilt" (topS 31) f fd) (G__law_draw : Df P w K mg base Tq k "_law_draw" ["_law_well_here", "_law_many"] spTake) (G__law_pickD : Df P w K mg base Tq k "_law_pick" ["_law_well_here", "_law_some"] spOf) (G__law_pickS : Df P w K mg base Tq k "_law_pick" ["_law_well_here", "_law_some"] spOfS) (m_len : mg "len" = none) (m_max : mg "max" = none) (m_min : mg "min" = none) : FnG P w K mg base Tq (k + 1) f fd ["_law_well_here", "_law_page"] spSpoilt := by
  refine fn_g Fn sc__law_spoilt (fun ts Q E h => ?_) fun cdv A outer s H E Z ts QT ET hr hgd hp tk h => ?_
  · obtain ⟨p, n, a, b, c, s, rfl, hpot, hn, hl, hs, q⟩ := h; rfl
  · obtain ⟨p, n, a, b, c, s, rfl, hpot, hn, hl, hs, q⟩ := h
    -- line 119
    refine wss_cons (ws_par 2 3 rfl sc__law_spoilt.nd (w_fn G__law_draw hr hgd ⟨rfl, (w_var 0 ⟨rfl, (w_bin dop_add (w_callB dc_lenS m_len rfl ⟨rfl, (w_var 1 ⟨rfl, _, rfl, (by rw [sizeLine_eq]; omega), (w_int ⟨rfl, rfl, ⟨rfl, ⟨_, _, _, _, _, _, rfl, (by assumption), (by omega), ⟨by omega, by omega⟩, fun a1 b1 c1 sp0 hp_1 s0 s1 => ⟨rfl, rfl, ⟨_, rfl, (w_fn G__law_draw hr hgd ⟨rfl, (w_var 0 ⟨rfl, (w_bin dop_add (w_callB dc_lenS m_len rfl ⟨rfl, (w_var 1 ⟨rfl, _, rfl, (by rw [sizeLine_eq]; omega), (w_int ⟨rfl, rfl, ⟨rfl, ⟨_, _, _, _, _, _, rfl, (by assumption), (by omega), ⟨by omega, by omega⟩, fun a2 b2 c2 fa0 hp_2 f0 f1 => ⟨rfl, rfl, ⟨_, rfl, Nat.lt_of_sub_eq_succ rfl, Nat.lt_of_sub_eq_succ rfl, ?_⟩⟩⟩⟩⟩)⟩)⟩))⟩)⟩)⟩⟩⟩⟩⟩)⟩)⟩))⟩)⟩))
    -- line 120
    refine wss_cons (ws_par3 4 5 6 rfl sc__law_spoilt.nd ⟨rfl, (w_callB (dc_min2 rfl) m_min rfl ⟨rfl, (w_var 2 ⟨rfl, (w_var 3 ⟨rfl, ⟨rfl, ⟨rfl, (w_callB (dc_max2 rfl) m_max rfl ⟨rfl, (w_var 2 ⟨rfl, (w_var 3 ⟨rfl, ⟨rfl, ⟨rfl, (w_fn G__law_pickS hr hgd ⟨rfl, (w_var 0 ⟨rfl, (w_str ⟨rfl, ⟨_, _, _, _, _, _, rfl, (by assumption), (by omega), ⟨by decide +kernel, by decide +kernel⟩, fun a3 b3 c3 sg hp_3 hm_3 => ⟨rfl, rfl, ⟨_, _, _, rfl, Nat.lt_of_sub_eq_succ rfl, Nat.lt_of_sub_eq_succ rfl, Nat.lt_of_sub_eq_succ rfl, ?_⟩⟩⟩⟩)⟩)⟩)⟩⟩⟩)⟩)⟩)⟩⟩⟩)⟩)⟩)⟩)
    obtain ⟨sp, rfl⟩ := Int.eq_ofNat_of_zero_le s0
    obtain ⟨fa, rfl⟩ := Int.eq_ofNat_of_zero_le f0
    obtain ⟨lo, hlo⟩ : ∃ lo : Nat, min (sp : Int) (fa : Int) = (lo : Int) := ⟨min sp fa, by omega⟩
    obtain ⟨hi, hhi⟩ : ∃ hi : Nat, max (sp : Int) (fa : Int) = (hi : Int) := ⟨max sp fa, by omega⟩
    have k1 : sp ≤ s.length := by omega
    have k3 : lo ≤ s.length ∧ hi ≤ s.length := by omega
    have okg : okS ⟨#[sg]⟩ = true := okS_sg (by decide +kernel) hm_3
    have c1' := (cut_both s sp k1).1
    have c2' := (cut_both s sp k1).2
    have c3' := (cut_both s lo k3.1).1
    have c4' := (cut_both s lo k3.1).2
    have c5' := (cut_both s hi k3.2).1
    have c6' := (cut_both s hi k3.2).2
    have c7' := cutS_length s (some ((sp : Int) + 1)) none
    have hg := lenS_sg sg
    have hbl : (" " : Str).length = 1 := by decide +kernel
    show WSs _ _ _ [some (.lst p (potD a3 b3 c3)), some (.va (.str s)), some (.va (.int (sp : Int))), some (.va (.int (fa : Int))), some (.va (.int (min (sp : Int) (fa : Int)))), some (.va (.int (max (sp : Int) (fa : Int)))), some (.va (sgS sg)), none] _
    rw [hlo, hhi]
    -- line 121
    refine wss_cons (ws_set 7 (w_lst ⟨rfl, (w_bin dop_add (w_bin dop_add (w_slS (w_var 1 (w_var 2 ⟨_, rfl, ⟨_, rfl, (by rw [sizeLine_eq]; omega), (w_var 6 ⟨rfl, rfl, (by simp only [lenS_app, sizeLine_eq]; omega), (w_slS (w_var 1 (w_var 2 ⟨_, rfl, ⟨_, rfl, (by rw [sizeLine_eq]; omega), ⟨rfl, rfl, (by simp only [lenS_app, sizeLine_eq]; omega), ⟨rfl, (w_bin dop_add (w_slS (w_var 1 (w_var 2 ⟨_, rfl, ⟨_, rfl, (by rw [sizeLine_eq]; omega), (w_slS (w_var 1 (w_bin dop_add (w_var 2 (w_int ⟨rfl, rfl, ⟨_, rfl, ⟨_, rfl, (by rw [sizeLine_eq]; omega), ⟨rfl, rfl, (by simp only [lenS_app, sizeLine_eq]; omega), ⟨rfl, (w_bin dop_add (w_bin dop_add (w_slS (w_var 1 (w_var 2 ⟨_, rfl, ⟨_, rfl, (by rw [sizeLine_eq]; omega), (w_var 6 ⟨rfl, rfl, (by simp only [lenS_app, sizeLine_eq]; omega), (w_slS (w_var 1 (w_bin dop_add (w_var 2 (w_int ⟨rfl, rfl, ⟨_, rfl, ⟨_, rfl, (by rw [sizeLine_eq]; omega), ⟨rfl, rfl, (by simp only [lenS_app, sizeLine_eq]; omega), ⟨(Nat.le_of_lt (small2000 (n := 3) (by decide))), fun p1 => ⟨Nat.lt_of_sub_eq_succ rfl, ?_⟩⟩⟩⟩⟩⟩)))))⟩)⟩⟩)))))⟩⟩⟩⟩⟩)))))⟩⟩))))⟩⟩⟩⟩)))⟩)⟩⟩)))))⟩) sc__law_spoilt.nd)
    -- line 122
    refine wss_cons (ws_expr (w_extend (w_var 7 ⟨_, _, _, _, rfl, rfl, (w_lst ⟨rfl, (w_bin dop_add (w_slS (w_var 1 (w_var 5 ⟨_, rfl, ⟨_, rfl, (by rw [sizeLine_eq]; omega), (w_slS (w_var 1 (w_var 4 ⟨_, rfl, ⟨_, rfl, (by rw [sizeLine_eq]; omega), ⟨rfl, rfl, (by simp only [lenS_app, sizeLine_eq]; omega), ⟨rfl, (w_bin dop_add (w_slS (w_var 1 (w_var 4 ⟨_, rfl, ⟨_, rfl, (by rw [sizeLine_eq]; omega), (w_slS (w_var 1 (w_var 5 ⟨_, rfl, ⟨_, rfl, (by rw [sizeLine_eq]; omega), ⟨rfl, rfl, (by simp only [lenS_app, sizeLine_eq]; omega), ⟨rfl, (w_bin dop_add (w_bin dop_add (w_slS (w_var 1 (w_var 2 ⟨_, rfl, ⟨_, rfl, (by rw [sizeLine_eq]; omega), (w_str ⟨rfl, rfl, (by simp only [lenS_app, sizeLine_eq]; omega), (w_slS (w_var 1 (w_var 2 ⟨_, rfl, ⟨_, rfl, (by rw [sizeLine_eq]; omega), ⟨rfl, rfl, (by simp only [lenS_app, sizeLine_eq]; omega), ⟨(Nat.le_of_lt (small2000 (n := 3) (by decide))), fun p2 => ⟨rfl, _, _, rfl, rfl, (Nat.le_of_lt (small2000 (n := 6) (by decide))), ?_⟩⟩⟩⟩⟩)))⟩)⟩⟩)))))⟩⟩⟩⟩)))⟩⟩))))⟩⟩⟩⟩)))⟩⟩))))⟩)⟩)))
    obtain ⟨S, hS⟩ : ∃ S, S = ([.str ((cutS s none (some (sp : Int))) ++ ⟨#[sg]⟩ ++ (cutS s (some ((sp : Int))) none)), .str ((cutS s none (some (sp : Int))) ++ (cutS s (some ((sp : Int) + 1)) none)), .str ((cutS s none (some (sp : Int))) ++ ⟨#[sg]⟩ ++ (cutS s (some ((sp : Int) + 1)) none))] : List D) ++ [.str ((cutS s none (some (hi : Int))) ++ (cutS s (some ((lo : Int))) none)), .str ((cutS s none (some (lo : Int))) ++ (cutS s (some ((hi : Int))) none)), .str ((cutS s none (some (sp : Int))) ++ " " ++ (cutS s (some ((sp : Int))) none))] := ⟨_, rfl⟩
    have hSl : S.length = 6 := by rw [hS]; rfl
    have okc := fun lo hi => okS_cut hs lo hi
    have hSm : ∀ d ∈ S, ∃ u, d = .str u ∧ okS u = true ∧ u.length ≤ 2 * s.length + 1 := fun d hd => by
      rw [hS] at hd
      simp only [List.cons_append, List.nil_append, List.mem_cons, List.not_mem_nil, or_false] at hd
      rcases hd with e | e | e | e | e | e
      · exact ⟨_, e, okS_app (okS_app (okc _ _) okg) (okc _ _), by simp only [lenS_app]; omega⟩
      · exact ⟨_, e, okS_app (okc _ _) (okc _ _), by simp only [lenS_app]; omega⟩
      · exact ⟨_, e, okS_app (okS_app (okc _ _) okg) (okc _ _), by simp only [lenS_app]; omega⟩
      · exact ⟨_, e, okS_app (okc _ _) (okc _ _), by simp only [lenS_app]; omega⟩
      · exact ⟨_, e, okS_app (okc _ _) (okc _ _), by simp only [lenS_app]; omega⟩
      · exact ⟨_, e, okS_app (okS_app (okc _ _) (by decide +kernel)) (okc _ _), by simp only [lenS_app]; omega⟩
    show WSs _ _ _ [some (.lst p (potD a3 b3 c3)), some (.va (.str s)), some (.va (.int (sp : Int))), some (.va (.int (fa : Int))), some (.va (.int (lo : Int))), some (.va (.int (hi : Int))), some (.va (sgS sg)), some (.lst p1 (([.str ((cutS s none (some (sp : Int))) ++ ⟨#[sg]⟩ ++ (cutS s (some ((sp : Int))) none)), .str ((cutS s none (some (sp : Int))) ++ (cutS s (some ((sp : Int) + 1)) none)), .str ((cutS s none (some (sp : Int))) ++ ⟨#[sg]⟩ ++ (cutS s (some ((sp : Int) + 1)) none))] : List D) ++ [.str ((cutS s none (some (hi : Int))) ++ (cutS s (some ((lo : Int))) none)), .str ((cutS s none (some (lo : Int))) ++ (cutS s (some ((hi : Int))) none)), .str ((cutS s none (some (sp : Int))) ++ " " ++ (cutS s (some ((sp : Int))) none))]))] _
    rw [← hS]
    -- line 123
    refine wss_one (ws_ret (w_fn G__law_pickD hr hgd ⟨rfl, (w_var 0 ⟨rfl, (w_var 7 ⟨rfl, ⟨rfl, ⟨_, _, _, _, _, S, _, some (.lst p1 S), rfl, (.inr ⟨_, rfl, rfl⟩), hp_3, (by omega), ⟨by omega, by omega⟩, fun a4 b4 c4 dU hp_4 hm_4 => ?cU⟩⟩⟩)⟩)⟩))
    case cU =>
      obtain ⟨u, rfl, u1, u2⟩ := hSm dU hm_4
      refine ⟨rfl, rfl, ⟨rfl, rfl, ?_⟩⟩
      exact ⟨rfl, q _ _ _ u (hp_4.le (by omega)) u1 u2⟩
end
end K56

namespace K56
open PySem PySem.Spec PyProof.Rows L2 QL
open LM
def Row (wd : Int) (ws : List Int) : Prop := ∀ x ∈ ws, 1 ≤ x ∧ x ≤ wd
theorem Row.snoc {wd x : Int} {ws : List Int} (h : Row wd ws) (h1 : 1 ≤ x) (h2 : x ≤ wd) : Row wd (ws ++ [x]) := fun y hy => (List.mem_append.mp hy).elim (h y) fun z => by rw [List.mem_singleton.mp z]; exact ⟨h1, h2⟩
def spTextD : Spc := fun ts QT _ => ∃ (p : Addr) (n a b c wd mo : Int), ts = [.lst p (potD a b c), .va (.int wd), .va (.int mo)] ∧ PotOk n a b c ∧ n ≤ 900000 ∧ (1 ≤ wd ∧ wd ≤ 1000000000) ∧ (0 ≤ mo ∧ mo ≤ 1000) ∧
  ∀ a' b' c' ws, PotOk (n + mo + 10) a' b' c' → (ws.length : Int) ≤ mo → Row wd ws → QT (.va (.tuple (iDs ws))) [some (.lst p (potD a' b' c')), none, none]
theorem row_rep {wd : Int} {os : List Int} (h : Row wd os) (k : Nat) : ∀ j : Nat, ((List.replicate k (iDs os)).flatten)[j]? = none ∨ ∃ x, ((List.replicate k (iDs os)).flatten)[j]? = some (.int x) ∧ 1 ≤ x ∧ x ≤ wd := fun j => by
  cases e : ((List.replicate k (iDs os)).flatten)[j]? with
  | none => exact .inl rfl
  | some d =>
    refine .inr ?_
    have hm := List.mem_of_getElem? e
    obtain ⟨l, hl, hd⟩ := List.mem_flatten.mp hm
    rw [(List.mem_replicate.mp hl).2] at hd
    obtain ⟨x, hx, rfl⟩ := List.mem_map.mp hd
    exact ⟨x, rfl, h x hx⟩
theorem flat_len (k : Nat) (os : List Int) : ((List.replicate k (iDs os)).flatten).length = k * os.length := by
  simp
section
variable {P : Program} {w : World} {K : PySem.W.Frag} {mg : Str → Option Value} {base : Heap} {Tq : List (Addr × Str)}
abbrev N__law_text : List Str := ["_law_well_here", "_law_wide", "_law_most", "_law_many", "_law_way", "_law_some", "_law_turn", "_law_at"]
theorem sc__law_text : FnScope N__law_text ["_law_well_here", "_law_wide", "_law_most"] (defScope (topS 26)) := ⟨rfl, rfl, rfl, by decide +kernel, rfl, by decide +kernel, by decide +kernel⟩
theorem g__law_text {f : Addr} {fd : FuncData} {k : Nat} (Fn : Fun K "_law_text" "_law_text" (topS 26) f fd) (G__law_draw : Df P w K mg base Tq k "_law_draw" ["_law_well_here", "_law_many"] spTake) (G__law_pick : Df P w K mg base Tq k "_law_pick" ["_law_well_here", "_law_some"] spOfI) (m_range : mg "range" = none) (m_tuple : mg "tuple" = none) : FnG P w K mg base Tq (k + 1) f fd ["_law_well_here", "_law_wide", "_law_most"] spTextD := by
  refine fn_g Fn sc__law_text (fun ts Q E h => ?_) fun cdv A outer s H E Z ts QT ET hr hgd hp tk h => ?_
  · obtain ⟨p, n, a, b, c, wd, mo, rfl, hpot, hn, ⟨w1, w2⟩, ⟨m1, m2⟩, q⟩ := h; rfl
  · obtain ⟨p, n, a, b, c, wd, mo, rfl, hpot, hn, ⟨w1, w2⟩, ⟨m1, m2⟩, q⟩ := h
    -- line 78
    refine wss_cons (ws_asg (pg_tup (by rfl) (pgs_cons (pg_name (i := 3) sc__law_text.nd rfl (by first | exact Or.inl rfl | exact Or.inr rfl)) (pgs_cons (pg_name (i := 4) sc__law_text.nd rfl (by first | exact Or.inl rfl | exact Or.inr rfl)) (pgs_nil)))) (gok_tup (gsok_cons (gok_name 3) (gsok_cons (gok_name 4) (gsok_nil)))) (w_tup ⟨rfl, (w_fn G__law_draw hr hgd ⟨rfl, (w_var 0 ⟨rfl, (w_bin dop_add (w_var 2 (w_int ⟨rfl, rfl, ⟨rfl, ⟨_, _, _, _, _, _, rfl, (by assumption), (by omega), ⟨by omega, by omega⟩, fun a1 b1 c1 many hp_1 k0 k1 => ⟨rfl, rfl, ⟨rfl, (w_fn G__law_draw hr hgd ⟨rfl, (w_var 0 ⟨rfl, (w_int ⟨rfl, ⟨_, _, _, _, _, _, rfl, (by assumption), (by omega), ⟨by omega, by omega⟩, fun a2 b2 c2 way hp_2 y0 y1 => ⟨rfl, rfl, ⟨(by first | decide | (simp only [List.length_append, List.length_map, List.length_cons, List.length_nil, List.length_singleton, List.length_replicate, List.length_range, List.length_take, List.length_drop, List.length_dropLast, List.length_reverse, Bool.false_eq_true, eq_self, reduceIte, sizeLine_eq]; omega)), ⟨_, rfl, rfl, ⟨Nat.lt_of_sub_eq_succ rfl, ⟨Nat.lt_of_sub_eq_succ rfl, ⟨rfl, ?_⟩⟩⟩⟩⟩⟩⟩⟩)⟩)⟩)⟩⟩⟩⟩⟩)))⟩)⟩)⟩))
    -- line 79
    refine wss_cons (ws_set 5 (w_lc (own := [("_law_turn", 6)]) rfl sc__law_text.nd (blkOk_by (N := N__law_text) (sc := defScope (topS 26)) (by decide +kernel)) (fun _ _ _ _ _ => pg_name (i := 6) sc__law_text.nd rfl (by first | exact Or.inl rfl | exact Or.inr rfl)) (gok_name 6) (by decide) (wi_range1 m_range ⟨rfl, (w_bin dop_add (w_int (w_fn G__law_draw hr hgd ⟨rfl, (w_var 0 ⟨rfl, (w_int ⟨rfl, ⟨_, _, _, _, _, _, rfl, (by assumption), (by omega), ⟨by omega, by omega⟩, fun a3 b3 c3 d_3 hp_3 h0_3 h1_3 => ⟨rfl, rfl, ⟨rfl, rfl, ⟨rfl, ⟨by omega, by omega⟩, ?lcA⟩⟩⟩⟩⟩)⟩)⟩)))⟩)) sc__law_text.nd)
    case lcA =>
      refine ⟨fun i acc e => ∃ x y z vs, PotOk (n + 3 + i) x y z ∧ acc = iDs vs ∧ vs.length = i ∧ Row wd vs ∧ e = [some (.lst p (potD x y z)), some (.va (.int wd)), some (.va (.int mo)), some (.va (.int many)), some (.va (.int way)), none, none, none], ⟨a3, b3, c3, [], hp_3.le (by omega), rfl, rfl, (fun _ z => (nomatch z)), rfl⟩, ?_, ?_⟩
      · rintro i dd acc e hd ⟨x, y, z, vs, hq, rfl, hl9, hr9, rfl⟩
        obtain ⟨rfl, hi9⟩ := rangeD_at hd
        have hi30 : (i : Int) < 4 := by omega
        refine ⟨Nat.lt_of_sub_eq_succ rfl, fun _ => ?_, fun z => nomatch z⟩
        intro s2 H2 C cl fp
        refine w_bin dop_add (w_int (w_fn G__law_draw hr hgd ⟨rfl, w_var 0 ⟨rfl, w_var 1 ⟨rfl, ⟨p, _, x, y, z, wd, rfl, hq, by omega, ⟨by omega, by omega⟩, fun x' y' z' dd hq2 d0 d1 => ⟨rfl, rfl, rfl, rfl, ?_, x', y', z', vs ++ [1 + dd], hq2.le (by omega), ?_, by rw [List.length_append, hl9]; rfl, hr9.snoc (by omega) (by omega), rfl⟩⟩⟩⟩⟩))
        · rw [List.length_map, hl9, sizeLine_eq]; omega
        · simp [iDs]
      · rintro acc e ⟨x9, y9, z9, vs, hq9, rfl, hl9, hr9, rfl⟩ pv
        rw [rangeD_len] at hl9 hq9
        refine ⟨Nat.lt_of_sub_eq_succ rfl, ?_⟩
        obtain ⟨os, hos⟩ : ∃ os, os = vs := ⟨_, rfl⟩
        rw [← hos]
        have hol : os.length = (1 + d_3).toNat := by rw [hos, hl9]
        have hrow : Row wd os := by rw [hos]; exact hr9
        have hq9 : PotOk (n + 7) x9 y9 z9 := hq9.le (by omega)
        -- line 80
        refine wss_cons (ws_if (wt_cmp (dop_eq (room64 hr)) (w_var 4 (w_int ⟨rfl, rfl, _, rfl, ⟨fun h => ?_, fun h => ?_⟩⟩))))
        · skip
          -- line 81
          refine wss_one (ws_ret (w_callTy dc_tuple m_tuple rfl ⟨rfl, (w_lc (own := [("_law_turn", 6)]) rfl sc__law_text.nd (blkOk_by (N := N__law_text) (sc := defScope (topS 26)) (by decide +kernel)) (fun _ _ _ _ _ => pg_name (i := 6) sc__law_text.nd rfl (by first | exact Or.inl rfl | exact Or.inr rfl)) (gok_name 6) (by decide) (wi_range1 m_range ⟨rfl, (w_var 3 ⟨rfl, ⟨by omega, by omega⟩, ?lcB⟩)⟩))⟩))
          case lcB =>
            refine ⟨fun i acc e => ∃ x y z vs, PotOk (n + 7 + i) x y z ∧ acc = iDs vs ∧ vs.length = i ∧ Row wd vs ∧ e = [some (.lst p (potD x y z)), some (.va (.int wd)), some (.va (.int mo)), some (.va (.int many)), some (.va (.int way)), some (.lst pv (iDs os)), none, none], ⟨x9, y9, z9, [], hq9.le (by omega), rfl, rfl, (fun _ z => (nomatch z)), rfl⟩, ?_, ?_⟩
            · rintro i dd acc e hd ⟨x, y, z, vs, hq, rfl, hl9, hr9, rfl⟩
              obtain ⟨rfl, hi9⟩ := rangeD_at hd
              have hi30 : (i : Int) < 1001 := by omega
              refine ⟨Nat.lt_of_sub_eq_succ rfl, fun _ => ?_, fun z => nomatch z⟩
              intro s2 H2 C cl fp
              refine w_bin dop_add (w_int (w_fn G__law_draw hr hgd ⟨rfl, w_var 0 ⟨rfl, w_var 1 ⟨rfl, ⟨p, _, x, y, z, wd, rfl, hq, by omega, ⟨by omega, by omega⟩, fun x' y' z' dd hq2 d0 d1 => ⟨rfl, rfl, rfl, rfl, ?_, x', y', z', vs ++ [1 + dd], hq2.le (by omega), ?_, by rw [List.length_append, hl9]; rfl, hr9.snoc (by omega) (by omega), rfl⟩⟩⟩⟩⟩))
              · rw [List.length_map, hl9, sizeLine_eq]; omega
              · simp [iDs]
            · rintro acc e ⟨x9, y9, z9, vs, hq9, rfl, hl9, hr9, rfl⟩ pv
              rw [rangeD_len] at hl9 hq9
              exact ⟨rfl, ⟨rfl, q _ _ _ vs (hq9.le (by omega)) (by omega) hr9⟩⟩
        refine wss_nil ?_
        -- line 82
        refine wss_cons (ws_if (wt_cmp (dop_eq (room64 hr)) (w_var 4 (w_int ⟨rfl, rfl, _, rfl, ⟨fun h => ?_, fun h => ?_⟩⟩))))
        · skip
          -- line 83
          refine wss_one (ws_ret (w_callTy dc_tuple m_tuple rfl ⟨rfl, (w_lc (own := [("_law_turn", 6)]) rfl sc__law_text.nd (blkOk_by (N := N__law_text) (sc := defScope (topS 26)) (by decide +kernel)) (fun _ _ _ _ _ => pg_name (i := 6) sc__law_text.nd rfl (by first | exact Or.inl rfl | exact Or.inr rfl)) (gok_name 6) (by decide) (wi_range1 m_range ⟨rfl, (w_var 3 ⟨rfl, ⟨by omega, by omega⟩, ?lcC⟩)⟩))⟩))
          case lcC =>
            refine ⟨fun i acc e => ∃ x y z vs, PotOk (n + 7 + i) x y z ∧ acc = iDs vs ∧ vs.length = i ∧ Row wd vs ∧ e = [some (.lst p (potD x y z)), some (.va (.int wd)), some (.va (.int mo)), some (.va (.int many)), some (.va (.int way)), some (.lst pv (iDs os)), none, none], ⟨x9, y9, z9, [], hq9.le (by omega), rfl, rfl, (fun _ z => (nomatch z)), rfl⟩, ?_, ?_⟩
            · rintro i dd acc e hd ⟨x, y, z, vs, hq, rfl, hl9, hr9, rfl⟩
              obtain ⟨rfl, hi9⟩ := rangeD_at hd
              have hi30 : (i : Int) < 1001 := by omega
              refine ⟨Nat.lt_of_sub_eq_succ rfl, fun _ => ?_, fun z => nomatch z⟩
              intro s2 H2 C cl fp
              refine w_fn G__law_pick hr hgd ⟨rfl, w_var 0 ⟨rfl, w_var 5 ⟨rfl, rfl, ⟨p, _, x, y, z, os, 1, wd, _, some (.lst pv (iDs os)), rfl, (.inr ⟨_, rfl, rfl⟩), hq, by omega, ⟨by omega, by omega⟩, hrow, fun x' y' z' dd hq2 d0 d1 _ => ⟨rfl, rfl, rfl, rfl, ?_, x', y', z', vs ++ [dd], hq2.le (by omega), ?_, by rw [List.length_append, hl9]; rfl, hr9.snoc (by omega) (by omega), rfl⟩⟩⟩⟩⟩
              · rw [List.length_map, hl9, sizeLine_eq]; omega
              · simp [iDs]
            · rintro acc e ⟨x9, y9, z9, vs, hq9, rfl, hl9, hr9, rfl⟩ pv
              rw [rangeD_len] at hl9 hq9
              exact ⟨rfl, ⟨rfl, q _ _ _ vs (hq9.le (by omega)) (by omega) hr9⟩⟩
        refine wss_nil ?_
        -- line 84
        refine wss_cons (ws_if (wt_cmp (dop_eq (room64 hr)) (w_var 4 (w_int ⟨rfl, rfl, _, rfl, ⟨fun h => ?_, fun h => ?_⟩⟩))))
        · skip
          -- line 85
          refine wss_one (ws_ret (w_callTy dc_tuple m_tuple rfl ⟨rfl, (w_lc (own := [("_law_turn", 6)]) rfl sc__law_text.nd (blkOk_by (N := N__law_text) (sc := defScope (topS 26)) (by decide +kernel)) (fun _ _ _ _ _ => pg_name (i := 6) sc__law_text.nd rfl (by first | exact Or.inl rfl | exact Or.inr rfl)) (gok_name 6) (by decide) (wi_range1 m_range ⟨rfl, (w_var 3 ⟨rfl, ⟨by omega, by omega⟩, ?lcD⟩)⟩))⟩))
          case lcD =>
            refine ⟨fun i acc e => ∃ x y z vs, PotOk (n + 7 + i) x y z ∧ acc = iDs vs ∧ vs.length = i ∧ Row wd vs ∧ e = [some (.lst p (potD x y z)), some (.va (.int wd)), some (.va (.int mo)), some (.va (.int many)), some (.va (.int way)), some (.lst pv (iDs os)), none, none], ⟨x9, y9, z9, [], hq9.le (by omega), rfl, rfl, (fun _ z => (nomatch z)), rfl⟩, ?_, ?_⟩
            · rintro i dd acc e hd ⟨x, y, z, vs, hq, rfl, hl9, hr9, rfl⟩
              obtain ⟨rfl, hi9⟩ := rangeD_at hd
              have hi30 : (i : Int) < 1001 := by omega
              refine ⟨Nat.lt_of_sub_eq_succ rfl, fun _ => ?_, fun z => nomatch z⟩
              intro s2 H2 C cl fp
              refine w_bin dop_add (w_int (w_fn G__law_draw hr hgd ⟨rfl, w_var 0 ⟨rfl, w_bin dop_add (w_int (w_bin dop_fdiv (w_var 1 (w_int ⟨rfl, rfl, ⟨by decide, by decide⟩, ⟨rfl, rfl, ⟨rfl, ⟨p, _, x, y, z, 1 + wd / 3, rfl, hq, by omega, ⟨by omega, by omega⟩, fun x' y' z' dd hq2 d0 d1 => ⟨rfl, rfl, rfl, rfl, ?_, x', y', z', vs ++ [1 + dd], hq2.le (by omega), ?_, by rw [List.length_append, hl9]; rfl, hr9.snoc (by omega) (by omega), rfl⟩⟩⟩⟩⟩))))⟩⟩))
              · rw [List.length_map, hl9, sizeLine_eq]; omega
              · simp [iDs]
            · rintro acc e ⟨x9, y9, z9, vs, hq9, rfl, hl9, hr9, rfl⟩ pv
              rw [rangeD_len] at hl9 hq9
              exact ⟨rfl, ⟨rfl, q _ _ _ vs (hq9.le (by omega)) (by omega) hr9⟩⟩
        refine wss_nil ?_
        -- line 86
        refine wss_cons (ws_if (wt_cmp (dop_eq (room64 hr)) (w_var 4 (w_int ⟨rfl, rfl, _, rfl, ⟨fun h => ?_, fun h => ?_⟩⟩))))
        · skip
          -- line 87
          refine wss_one (ws_ret (w_callTy dc_tuple m_tuple rfl ⟨rfl, (w_lc (own := [("_law_at", 7)]) rfl sc__law_text.nd (blkOk_by (N := N__law_text) (sc := defScope (topS 26)) (by decide +kernel)) (fun _ _ _ _ _ => pg_name (i := 7) sc__law_text.nd rfl (by first | exact Or.inl rfl | exact Or.inr rfl)) (gok_name 7) (by decide) (wi_range1 m_range ⟨rfl, (w_var 3 ⟨rfl, ⟨by omega, by omega⟩, ?lcE⟩)⟩))⟩))
          case lcE =>
            refine ⟨fun i acc e => ∃ x y z vs, PotOk (n + 7 + i) x y z ∧ acc = iDs vs ∧ vs.length = i ∧ Row wd vs ∧ e = [some (.lst p (potD x y z)), some (.va (.int wd)), some (.va (.int mo)), some (.va (.int many)), some (.va (.int way)), some (.lst pv (iDs os)), none, none], ⟨x9, y9, z9, [], hq9.le (by omega), rfl, rfl, (fun _ z => (nomatch z)), rfl⟩, ?_, ?_⟩
            · rintro i dd acc e hd ⟨x, y, z, vs, hq, rfl, hl9, hr9, rfl⟩
              obtain ⟨rfl, hi9⟩ := rangeD_at hd
              have hi30 : (i : Int) < 1001 := by omega
              refine ⟨Nat.lt_of_sub_eq_succ rfl, fun _ => ?_, fun z => nomatch z⟩
              intro s2 H2 C cl fp
              have hm9 : many.toNat ≤ 1000 := by omega
              have hlt : i < ((List.replicate many.toNat (iDs os)).flatten).length := by
                rw [flat_len]
                have h1 : 1 ≤ os.length := by omega
                have h2 : many.toNat * 1 ≤ many.toNat * os.length := Nat.mul_le_mul_left _ h1
                omega
              have hfl : ((List.replicate many.toNat (iDs os)).flatten).length ≤ 4000 := by
                rw [flat_len]
                have h2 : many.toNat * os.length ≤ 1000 * 4 := Nat.mul_le_mul hm9 (by omega)
                omega
              obtain ⟨xx, hxx, x1, x2⟩ : ∃ xx, ((List.replicate many.toNat (iDs os)).flatten)[i]? = some (.int xx) ∧ 1 ≤ xx ∧ xx ≤ wd := by
                rcases row_rep hrow many.toNat i with e | e
                · rw [List.getElem?_eq_none_iff] at e; omega
                · exact e
              have hat : atI ((List.replicate many.toNat (iDs os)).flatten) (0 + (i : Int)) = some (.int xx) := by rw [show (0 : Int) + (i : Int) = (i : Int) by omega]; exact atI_nat hxx
              refine w_ix (w_bin dop_mul (w_var 5 (w_var 3 ⟨rfl, rfl, ⟨by omega, by omega, by simp only [List.length_map, sizeLine_eq]; have h2 : os.length * many.toNat ≤ 4 * 1000 := Nat.mul_le_mul (by omega) hm9; have h3 : many.toNat * os.length ≤ 1000 * 4 := Nat.mul_le_mul hm9 (by omega); omega⟩, fun pz => w_var 7 ⟨rfl, rfl, _, hat, ?_, x, y, z, vs ++ [xx], hq.le (by omega), ?_, by rw [List.length_append, hl9]; rfl, hr9.snoc (by omega) (by omega), rfl⟩⟩)))
              · rw [List.length_map, hl9, sizeLine_eq]; omega
              · simp [iDs]
            · rintro acc e ⟨x9, y9, z9, vs, hq9, rfl, hl9, hr9, rfl⟩ pv
              rw [rangeD_len] at hl9 hq9
              exact ⟨rfl, ⟨rfl, q _ _ _ vs (hq9.le (by omega)) (by omega) hr9⟩⟩
        refine wss_nil ?_
        obtain ⟨o0, or0, ho0⟩ : ∃ o0 or0, os = o0 :: or0 := by
          cases os with
          | nil => simp at hol; omega
          | cons x r => exact ⟨x, r, rfl⟩
        have ho1 := hrow o0 (by rw [ho0]; exact List.mem_cons_self)
        have h0at : atI (iDs os) 0 = some (.int o0) := by rw [ho0]; exact atI_nat (j := 0) rfl
        -- line 88
        refine wss_one (ws_ret (w_callTy dc_tuple m_tuple rfl ⟨rfl, (w_lc (own := [("_law_turn", 6)]) rfl sc__law_text.nd (blkOk_by (N := N__law_text) (sc := defScope (topS 26)) (by decide +kernel)) (fun _ _ _ _ _ => pg_name (i := 6) sc__law_text.nd rfl (by first | exact Or.inl rfl | exact Or.inr rfl)) (gok_name 6) (by decide) (wi_range1 m_range ⟨rfl, (w_var 3 ⟨rfl, ⟨by omega, by omega⟩, ?lcF⟩)⟩))⟩))
        case lcF =>
          refine ⟨fun i acc e => ∃ x y z vs, PotOk (n + 7 + i) x y z ∧ acc = iDs vs ∧ vs.length = i ∧ Row wd vs ∧ e = [some (.lst p (potD x y z)), some (.va (.int wd)), some (.va (.int mo)), some (.va (.int many)), some (.va (.int way)), some (.lst pv (iDs os)), none, none], ⟨x9, y9, z9, [], hq9.le (by omega), rfl, rfl, (fun _ z => (nomatch z)), rfl⟩, ?_, ?_⟩
          · rintro i dd acc e hd ⟨x, y, z, vs, hq, rfl, hl9, hr9, rfl⟩
            obtain ⟨rfl, hi9⟩ := rangeD_at hd
            have hi30 : (i : Int) < 1001 := by omega
            refine ⟨Nat.lt_of_sub_eq_succ rfl, fun _ => ?_, fun z => nomatch z⟩
            intro s2 H2 C cl fp
            refine w_fn G__law_pick hr hgd ⟨rfl, w_var 0 ⟨rfl, w_lst ⟨rfl, w_int ⟨rfl, w_var 1 ⟨rfl, w_bin dop_add (w_int (w_bin dop_fdiv (w_var 1 (w_int ⟨rfl, rfl, ⟨by decide, by decide⟩, ⟨rfl, rfl, ⟨rfl, w_ix (w_var 5 (w_int ⟨rfl, rfl, _, h0at, ⟨(by first | decide | (simp only [List.length_append, List.length_map, List.length_cons, List.length_nil, List.length_singleton, List.length_replicate, List.length_range, List.length_take, List.length_drop, List.length_dropLast, List.length_reverse, Bool.false_eq_true, eq_self, reduceIte, sizeLine_eq]; omega)), fun pz => ⟨rfl, ⟨p, _, x, y, z, [1, wd, 1 + wd / 2, o0], 1, wd, _, none, rfl, (.inl ⟨rfl, rfl⟩), hq, by omega, ⟨by simp, by simp⟩, (by simp only [List.mem_cons, List.not_mem_nil, or_false, forall_eq_or_imp, forall_eq]; omega), fun x' y' z' dd hq2 d0 d1 _ => ⟨rfl, rfl, ?_, x', y', z', vs ++ [dd], hq2.le (by omega), ?_, by rw [List.length_append, hl9]; rfl, hr9.snoc (by omega) (by omega), rfl⟩⟩⟩⟩⟩))⟩⟩⟩))))⟩⟩⟩⟩⟩
            · rw [List.length_map, hl9, sizeLine_eq]; omega
            · simp [iDs]
          · rintro acc e ⟨x9, y9, z9, vs, hq9, rfl, hl9, hr9, rfl⟩ pv
            rw [rangeD_len] at hl9 hq9
            exact ⟨rfl, ⟨rfl, q _ _ _ vs (hq9.le (by omega)) (by omega) hr9⟩⟩
end
end K56

namespace K56
open PySem PySem.Spec PyProof.Rows L2 QL
open LM
theorem thing_str {s : Str} (h : okS s = true) (hl : s.length ≤ 1900) : Thing (.str s) := ⟨short_str h (by omega), by omega, by have := (split_bd s).2.1; omega⟩
theorem thing_short {d : D} (h : Short 28 20000 d) (hn : ∀ s, d = .str s → s.length ≤ 1900) : Thing d := ⟨h, by
  cases d with
  | str s => have := hn s rfl; have h2 := (split_bd s).2.1; exact ⟨by omega, by omega⟩
  | _ => trivial⟩
theorem spl_free : ∀ (l acc : List Nat), (∀ c ∈ l, c ≠ 32) → TL.spl [32] 0 acc l = [acc ++ l]
  | [], acc, _ => by rw [TL.spl_nil, List.append_nil]
  | x :: r, acc, h => by
    have hx : TL.pre [32] (x :: r) = false := by
      have := h x List.mem_cons_self
      simp [TL.pre, this]
    rw [TL.spl_miss hx, spl_free r (acc ++ [x]) fun c hc => h c (List.mem_cons_of_mem _ hc)]
    simp
theorem thing_nines : Thing (.str (repS ⟨#[57]⟩ 4000)) := by
  have hl := rep_len 57 4000
  refine ⟨short_str (okS_rep (by decide +kernel) _) (by omega), by omega, ?_⟩
  have h := split_map (repS ⟨#[57]⟩ 4000)
  rw [spl_free _ _ fun c hc => by
    rw [stl_rep] at hc
    obtain ⟨l, hl, hcl⟩ := List.mem_flatten.mp hc
    rw [(List.mem_replicate.mp hl).2] at hcl
    have : c = 57 := by simpa using hcl
    omega] at h
  have h2 := congrArg List.length h
  rw [List.length_map] at h2
  rw [h2]; decide
theorem map_true (S : List D) : S.map (fun _ => PyData.bool true) = (S.map fun _ => true).map PyData.bool := by rw [List.map_map]; rfl
theorem all_true (S : List D) : (S.map fun _ => true).all id = true := by rw [List.all_map]; exact List.all_eq_true.mpr fun _ _ => rfl
def thB (d : D) : Bool := match d with
  | .str s => okS s && decide (s.length ≤ 100)
  | _ => false
theorem thB_ok {S : List D} (h : S.all thB = true) : ∀ d ∈ S, Thing d := fun d hd => by
  have h := List.all_eq_true.mp h d hd
  cases d with
  | str s =>
    have h : (okS s && decide (s.length ≤ 100)) = true := h
    rw [Bool.and_eq_true, decide_eq_true_eq] at h
    exact thing_str h.1 (by omega)
  | _ => exact absurd h (by simp [thB])
theorem flat_rep (n : Nat) (x : Int) : (List.replicate n [PyData.int x]).flatten = iDs (List.replicate n x) := by
  rw [iDs, List.map_replicate]
  simp
theorem row_shortT {wd : Int} {ws : List Int} (h : Row wd ws) (hw : wd ≤ 1000000000) (hl : ws.length ≤ 300) : Short 1 9600 (.tuple (iDs ws)) ∧ Short 1 9600 (.list (iDs ws)) := by
  have h1 : ∀ d ∈ iDs ws, Short 0 31 d := fun d hd => by
    obtain ⟨x, hx, rfl⟩ := List.mem_map.mp hd
    have := h x hx
    exact short_int (by omega)
  have hn : (iDs ws).length = ws.length := List.length_map _
  exact ⟨(short_tup h1).le (Nat.le_refl _) (by omega), (short_lst h1).le (Nat.le_refl _) (by omega)⟩
theorem row_rep1 (wd : Int) (h : 1 ≤ wd) : Row wd (List.replicate 300 1) := fun x hx => by rw [(List.mem_replicate.mp hx).2]; omega
theorem wd_short {i : Int} (h : i.natAbs ≤ 2000000000) : Thing (.str (tsS i)) := thing_str (tsS_ok i) (by have := tsS_len h; omega)
def spLaw (K : PySem.W.Frag) : Spc := fun ts QT _ => ∃ (a : Addr) (ns : List Int), ts = [scT K a ns] ∧ ns.length ≤ 63 ∧ QT (.va (.bool true)) [some (scT K a ns)]
section
variable {P : Program} {w : World} {K : PySem.W.Frag} {mg : Str → Option Value} {base : Heap} {Tq : List (Addr × Str)}
abbrev N_law : List Str := ["_law_script", "_law_k", "_law_well_here", "_law_turn", "_law_wide", "_law_row", "_law_page", "_law_held", "_law_word", "_law_some", "_law_again", "_law_bent", "_law_thing"]
theorem sc_law : FnScope N_law ["_law_script"] (defScope (topS 34)) := ⟨rfl, rfl, rfl, by decide +kernel, rfl, by decide +kernel, by decide +kernel⟩
theorem g_law {f : Addr} {fd : FuncData} {k : Nat} (Fn : Fun K "law" "law" (topS 34) f fd) (G__law_draw : Df P w K mg base Tq k "_law_draw" ["_law_well_here", "_law_many"] spTake) (G__law_odd : Df P w K mg base Tq k "_law_odd" ["_law_well_here"] spOdd) (G__law_pick : Df P w K mg base Tq k "_law_pick" ["_law_well_here", "_law_some"] spOfI) (G__law_right : Df P w K mg base Tq k "_law_right" ["_law_wide", "_law_page"] spRight) (G__law_spoilt : Df P w K mg base Tq k "_law_spoilt" ["_law_well_here", "_law_page"] spSpoilt) (G__law_text : Df P w K mg base Tq k "_law_text" ["_law_well_here", "_law_wide", "_law_most"] spTextD) (G__law_well : Df P w K mg base Tq k "_law_well" ["_law_script", "_law_k"] (spPot K)) (G_show_text : Df P w K mg base Tq k "show_text" ["text"] spShow) (K_show_text : Dk P w K mg base Tq k "show_text" ["text"] ["text"] [0] spShow) (m_all : mg "all" = none) (m_len : mg "len" = none) (m_list : mg "list" = none) (m_max : mg "max" = none) (m_min : mg "min" = none) (m_range : mg "range" = none) (m_repr : mg "repr" = none) (m_str : mg "str" = none) : FnG P w K mg base Tq (k + 1) f fd ["_law_script"] (spLaw K) := by
  refine fn_g Fn sc_law (fun ts Q E h => ?_) fun cdv A outer s H E Z ts QT ET hr hgd hp tk h => ?_
  · obtain ⟨a, ns, rfl, hl, q⟩ := h; rfl
  · obtain ⟨a, ns, rfl, hl, q⟩ := h
    have hu := room110 hr
    refine wss_cons (ws_for hp rfl (pg_name (i := 1) sc_law.nd rfl (.inl rfl)) (gok_name 1) (wi_range1 m_range ⟨rfl, w_callB (dc_max2 rfl) m_max rfl ⟨rfl, w_int ⟨rfl, w_callB (dc_min2 rfl) m_min rfl ⟨rfl, w_int ⟨rfl, w_scLen 0 m_len rfl ⟨rfl, rfl, ⟨rfl, rfl, ⟨rfl, ⟨by omega, by omega⟩, ?_⟩⟩⟩⟩⟩⟩⟩⟩))
    refine ⟨fun j e => ∃ o1 o2 o3 o4 o5 o6 o7 o9 o10 o11, e = [some (scT K a ns), o1, o2, o3, o4, o5, o6, o7, none, o9, o10, o11, none], ⟨none, none, none, none, none, none, none, none, none, none, rfl⟩, ?_, ?_⟩
    · rintro j d e hd ⟨o1, o2, o3, o4, o5, o6, o7, o9, o10, o11, rfl⟩
      obtain ⟨rfl, hj⟩ := rangeD_at hd
      refine ⟨Nat.lt_of_sub_eq_succ rfl, ?_⟩
      -- line 141
      refine wss_cons (ws_set 2 (w_fn G__law_well hr hgd ⟨rfl, (w_var 0 ⟨rfl, (w_var 1 ⟨rfl, ⟨_, _, _, rfl, ⟨by omega, by omega⟩, (by first | assumption | omega | decide), fun p x0 y0 hp_0 => ⟨rfl, rfl, ⟨Nat.lt_of_sub_eq_succ rfl, ?_⟩⟩⟩⟩)⟩)⟩) sc_law.nd)
      -- line 142
      refine wss_one (ws_for hp rfl (pg_name (i := 3) sc_law.nd rfl (by first | exact Or.inl rfl | exact Or.inr rfl)) (gok_name 3) (wi_range1 m_range ⟨rfl, (w_int ⟨rfl, ⟨by omega, by omega⟩, ?_⟩)⟩))
      refine ⟨fun i e => ∃ x y z o3 o4 o5 o6 o7 o9 o10 o11, PotOk (10 + 1000 * i) x y z ∧ e = [some (scT K a ns), some (.va (.int (0 + (j : Int)))), some (.lst p (potD x y z)), o3, o4, o5, o6, o7, none, o9, o10, o11, none], ⟨x0, y0, 0, _, _, _, _, _, _, _, _, hp_0.le (by omega), rfl⟩, ?_, ?_⟩
      · rintro i dd e hd ⟨x, y, z, o3, o4, o5, o6, o7, o9, o10, o11, hq, rfl⟩
        obtain ⟨rfl, hi⟩ := rangeD_at hd
        have hi3 : i < 3 := hi
        refine ⟨Nat.lt_of_sub_eq_succ rfl, ?_⟩
        -- line 143
        refine wss_cons (ws_set 4 (w_fn G__law_pick hr hgd ⟨rfl, (w_var 2 ⟨rfl, (w_lst ⟨rfl, (w_bin dop_add (w_int (w_fn G__law_draw hr hgd ⟨rfl, (w_var 2 ⟨rfl, (w_int ⟨rfl, ⟨_, _, _, _, _, _, rfl, (by assumption), (by omega), ⟨by omega, by omega⟩, fun a1 b1 c1 d_1 hp_1 h0_1 h1_1 => ⟨rfl, rfl, ⟨rfl, rfl, ⟨rfl, (w_bin dop_pow (w_int (w_int ⟨rfl, rfl, (.inl ⟨by omega, by omega, by omega⟩), ⟨rfl, (w_int ⟨(by first | decide | (simp only [List.length_append, List.length_map, List.length_cons, List.length_nil, List.length_singleton, List.length_replicate, List.length_range, List.length_take, List.length_drop, List.length_dropLast, List.length_reverse, Bool.false_eq_true, eq_self, reduceIte, sizeLine_eq]; omega)), fun p1 => ⟨rfl, ⟨_, _, _, _, _, [1 + d_1, 1000000000, 100], 1, 1000000000, _, none, rfl, (.inl ⟨rfl, rfl⟩), (by assumption), (by omega), ⟨by simp, by simp⟩, (by simp only [List.mem_cons, List.not_mem_nil, or_false, forall_eq_or_imp, forall_eq]; omega), fun a2 b2 c2 wd hp_2 w1 w2 hm_2 => ⟨rfl, rfl, ⟨Nat.lt_of_sub_eq_succ rfl, ?_⟩⟩⟩⟩⟩)⟩⟩)))⟩⟩⟩⟩⟩)⟩)⟩)))⟩)⟩)⟩) sc_law.nd)
        -- line 144
        refine wss_cons (ws_set 5 (w_fn G__law_text hr hgd ⟨rfl, (w_var 2 ⟨rfl, (w_var 4 ⟨rfl, (w_int ⟨rfl, ⟨_, _, _, _, _, _, _, rfl, (by assumption), (by omega), ⟨by omega, by omega⟩, ⟨by omega, by omega⟩, fun a3 b3 c3 wsA hp_3 hl_3 hr_3 => ⟨rfl, rfl, ⟨Nat.lt_of_sub_eq_succ rfl, ?_⟩⟩⟩⟩)⟩)⟩)⟩) sc_law.nd)
        -- line 145
        refine wss_cons (WS.imp (P := fun ou => ∃ x y z ws, PotOk (10 + 1000 * i + 40) x y z ∧ Row wd ws ∧ ws.length ≤ 300 ∧ (showS ws).length ≤ 901 ∧ ou = .nx [some (scT K a ns), some (.va (.int (0 + (j : Int)))), some (.lst p (potD x y z)), some (.va (.int (0 + (i : Int)))), some (.va (.int wd)), some (.va (.tuple (iDs ws))), o6, o7, none, o9, o10, o11, none]) (ws_set 5 (w_ifExp (wt_cmp dop_gt (w_fn G__law_draw hr hgd ⟨rfl, (w_var 2 ⟨rfl, (w_int ⟨rfl, ⟨_, _, _, _, _, _, rfl, (by assumption), (by omega), ⟨by omega, by omega⟩, fun a4 b4 c4 d_4 hp_4 h0_4 h1_4 => ⟨rfl, rfl, (w_int ⟨rfl, rfl, _, rfl, ⟨fun h => (w_var 5 ⟨Nat.lt_of_sub_eq_succ rfl, ?_⟩), fun h => (w_bin dop_mulT (w_tup ⟨rfl, (w_int ⟨(by first | decide | (simp only [List.length_append, List.length_map, List.length_cons, List.length_nil, List.length_singleton, List.length_replicate, List.length_range, List.length_take, List.length_drop, List.length_dropLast, List.length_reverse, Bool.false_eq_true, eq_self, reduceIte, sizeLine_eq]; omega)), (w_int ⟨rfl, rfl, ⟨List.cons_ne_nil _ _, (by show 1 ≤ 1000; decide), by omega, by omega, ⟨Nat.lt_of_sub_eq_succ rfl, ?_⟩⟩⟩)⟩)⟩))⟩⟩)⟩⟩⟩)⟩)⟩))) sc_law.nd) ?jR)
        · exact ⟨_, _, _, wsA, hp_4.le (by omega), hr_3, by omega, by have := show_lenK (k := 10) (by decide) (xs := wsA) (fun x hx => by have := hr_3 x hx; omega); omega, rfl⟩
        · exact ⟨_, _, _, List.replicate 300 1, hp_4.le (by omega), row_rep1 wd w1, by rw [List.length_replicate]; exact Nat.le_refl _, by have := show_lenK (k := 1) (by decide) (xs := List.replicate 300 1) (fun x hx => by rw [(List.mem_replicate.mp hx).2]; decide); rw [List.length_replicate] at this; omega, by rw [← flat_rep]; rfl⟩
        case jR =>
          rintro ou ⟨xR, yR, zR, ws, hqR, hrow, hwl, lnp, rfl⟩
          show WSs _ _ _ _ _
          have hb : ∀ x ∈ ws, x.natAbs ≤ 2000000000 := fun x hx => by have := hrow x hx; omega
          have hnl : (iDs ws).length = ws.length := List.length_map _
          obtain ⟨hsT, hsL⟩ := row_shortT hrow w2 hwl
          have hsw : showOk (.tuple (iDs ws)) := hsT.show_ (by decide) (by decide)
          have okp := show_ok ws
          have hl : ws.length ≤ 10000 := by omega
          -- line 146
          refine wss_cons (ws_par 6 7 rfl sc_law.nd (WE.to (r0 := .t (.va (.str (showS ws)))) (e1 := [some (scT K a ns), some (.va (.int (0 + (j : Int)))), some (.lst p (potD xR yR zR)), some (.va (.int (0 + (i : Int)))), some (.va (.int wd)), some (.va (.tuple (iDs ws))), o6, o7, none, o9, o10, o11, none]) (w_ifExp (wt_cmp (dop_ne (room64 hr)) (w_var 5 (w_tup ⟨(by first | decide | (simp only [List.length_append, List.length_map, List.length_cons, List.length_nil, List.length_singleton, List.length_replicate, List.length_range, List.length_take, List.length_drop, List.length_dropLast, List.length_reverse, Bool.false_eq_true, eq_self, reduceIte, sizeLine_eq]; omega)), ⟨rfl, rfl, (ints_shaped hb), rfl, _, rfl, ⟨fun h => (w_join (w_str ⟨_, rfl, (w_lc (own := [("_law_word", 8)]) rfl sc_law.nd (blkOk_by (N := N_law) (sc := defScope (topS 34)) (by decide +kernel)) (fun _ _ _ _ _ => pg_name (i := 8) sc_law.nd rfl (by first | exact Or.inl rfl | exact Or.inr rfl)) (gok_name 8) (by decide) (wi_tup (w_var 5 (lc_map fm_name (fun (i : Int) => PyData.int i) (ws) (fun i => PyData.str (tsS i)) _ rfl (rfl) (by rw [sizeLine_eq]; omega) (fun k2 x hx => by have hx9 := hb x (List.mem_of_getElem? hx); exact ⟨Nat.lt_of_sub_eq_succ rfl, fun s2 H2 C2 cl2 fp2 => (w_callTy dc_strI m_str rfl ⟨rfl, (w_var 8 ⟨rfl, _, rfl, (log_ok (by omega)), ⟨rfl, rfl⟩⟩)⟩)⟩) (fun p2 => ⟨rfl, (ws.map tsS), (.inl (congrArg PyData.list (ts_map ws))), (show_bd hl hb), ⟨congrArg (fun z => R.t (T.va (PyData.str z))) (show _ = showS ws by unfold showS; rw [if_neg (by intro e; have h : (!PyData.eqv (.tuple (iDs ws)) (.tuple [])) = true := h; rw [eqv_nl, e] at h; exact absurd h (by decide))]), rfl⟩⟩)))))⟩)), fun h => (w_str ⟨congrArg (fun z => R.t (T.va (PyData.str z))) (show _ = showS ws by unfold showS; rw [if_pos (by have h : (!PyData.eqv (.tuple (iDs ws)) (.tuple [])) = false := h; rw [eqv_nl] at h; simpa using h)]), rfl⟩)⟩⟩⟩)))) ⟨_, rfl, (w_callB (dc_reprD hgd hu) m_repr rfl ⟨rfl, (w_var 5 ⟨rfl, ⟨_, rfl, hsw, ⟨_, rfl, Nat.lt_of_sub_eq_succ rfl, Nat.lt_of_sub_eq_succ rfl, ?_⟩⟩⟩)⟩)⟩))
          obtain ⟨pg, hpg⟩ : ∃ pg, pg = showS ws := ⟨_, rfl⟩
          rw [← hpg] at lnp okp ⊢
          have hs2 : showOk (.list [.str pg, .str pg]) := two_show (short_str (n := 0) (w := 5000) okp (by omega)) (by decide) (by decide)
          -- line 147
          refine wss_cons (ws_if (WW.t (ww_or (wt_cmp (dop_ne (room64 hr)) (w_callB (dc_reprD hgd hu) m_repr rfl ⟨rfl, (w_lst ⟨rfl, (w_fn G_show_text hr hgd ⟨rfl, (w_var 5 ⟨_, rfl, hl, hb, ⟨rfl, (w_fnK K_show_text hr hgd (w_var 5 ⟨rfl, ⟨_, rfl, hl, hb, ⟨(by first | decide | (simp only [List.length_append, List.length_map, List.length_cons, List.length_nil, List.length_singleton, List.length_replicate, List.length_range, List.length_take, List.length_drop, List.length_dropLast, List.length_reverse, Bool.false_eq_true, eq_self, reduceIte, sizeLine_eq]; omega)), fun p3 => ⟨rfl, ⟨_, rfl, (by rw [← hpg]; exact hs2), (w_callB (dc_reprD hgd hu) m_repr rfl ⟨rfl, (w_lst ⟨rfl, (w_var 6 ⟨rfl, (w_var 6 ⟨(by first | decide | (simp only [List.length_append, List.length_map, List.length_cons, List.length_nil, List.length_singleton, List.length_replicate, List.length_range, List.length_take, List.length_drop, List.length_dropLast, List.length_reverse, Bool.false_eq_true, eq_self, reduceIte, sizeLine_eq]; omega)), fun p4 => ⟨rfl, ⟨_, rfl, hs2, ⟨rfl, rfl, _, rfl, ⟨fun h => (ww_or1 (wt_cmp (dop_ne (room64 hr)) (w_callB (dc_reprD hgd hu) m_repr rfl ⟨rfl, (w_var 5 ⟨rfl, ⟨_, rfl, hsw, (w_var 7 ⟨rfl, rfl, _, rfl, ⟨fun h => ?_, fun h => ?_⟩⟩)⟩⟩)⟩))), fun h => ?s1⟩⟩⟩⟩⟩)⟩)⟩)⟩)⟩⟩⟩⟩⟩))⟩⟩)⟩)⟩)⟩)))))
          case s1 => exact absurd h (by rw [← hpg]; simp)
          · exact absurd h (by simp)
          refine wss_nil ?_
          refine wss_cons ?AA
          case AA =>
            generalize hAE : (Expr.List _ _) = LE
            refine ws_set (hs := ?hs) 9 ?LL sc_law.nd
            case hs => subst hAE; kernel_rfl
            case LL =>
              subst hAE
              refine w_lst ?_
              refine And.intro (by kernel_rfl) ?_
              refine w_var 6 ?_
              refine And.intro (by kernel_rfl) ?_
              refine w_str ?_
              refine And.intro (by kernel_rfl) ?_
              refine w_str ?_
              refine And.intro (by kernel_rfl) ?_
              refine w_str ?_
              refine And.intro (by kernel_rfl) ?_
              refine w_str ?_
              refine And.intro (by kernel_rfl) ?_
              refine w_str ?_
              refine And.intro (by kernel_rfl) ?_
              refine w_str ?_
              refine And.intro (by kernel_rfl) ?_
              refine w_str ?_
              refine And.intro (by kernel_rfl) ?_
              refine w_str ?_
              refine And.intro (by kernel_rfl) ?_
              refine w_str ?_
              refine And.intro (by kernel_rfl) ?_
              refine w_str ?_
              refine And.intro (by kernel_rfl) ?_
              refine w_str ?_
              refine And.intro (by kernel_rfl) ?_
              refine w_str ?_
              refine And.intro (by kernel_rfl) ?_
              refine w_str ?_
              refine And.intro (by kernel_rfl) ?_
              refine w_str ?_
              refine ⟨(Nat.le_of_lt (small2000 (n := 15) (by decide))), fun p5 => ⟨Nat.lt_of_sub_eq_succ rfl, ?_⟩⟩
              obtain ⟨S0, hS0⟩ : ∃ S, S = ([.str "", .str "-", .str " ", .str "--", .str "- ", .str "0", .str "01", .str "1 ", .str " 1", .str "1  1", .str "+1", .str "1.0", .str "-1", .str "1,1"] : List D) := ⟨_, rfl⟩
              obtain ⟨S1, hS1⟩ : ∃ S, S = .str pg :: S0 := ⟨_, rfl⟩
              have hpT : Thing (.str pg) := thing_str okp (by omega)
              have hT1 : ∀ d ∈ S1, Thing d := fun d hd => by
                rw [hS1] at hd
                rcases List.mem_cons.mp hd with z | z
                · rw [z]; exact hpT
                · exact thB_ok (S := S0) (by rw [hS0]; decide +kernel) d z
              have hS1l : S1.length = 15 := by rw [hS1, hS0]; rfl
              show WSs _ _ _ [some (scT K a ns), some (.va (.int (0 + (j : Int)))), some (.lst p (potD xR yR zR)), some (.va (.int (0 + (i : Int)))), some (.va (.int wd)), some (.va (.tuple (iDs ws))), some (.va (.str pg)), some (.va (.str (PyData.tuple (iDs ws)).shown)), none, some (.lst p5 (.str pg :: ([.str "", .str "-", .str " ", .str "--", .str "- ", .str "0", .str "01", .str "1 ", .str " 1", .str "1  1", .str "+1", .str "1.0", .str "-1", .str "1,1"] : List D))), o10, o11, none] _
              rw [← hS0, ← hS1]
              -- line 150
              refine wss_cons (ws_set 9 (w_bin dop_add (w_var 9 (w_lst ⟨rfl, (w_bin dop_mulS (w_str (w_int ⟨rfl, rfl, _, _, rfl, rfl, (by omega), (by omega), ⟨rfl, (w_bin dop_add (w_var 6 (w_str ⟨rfl, rfl, (by rw [sizeLine_eq]; have : (" 1" : Str).length = 2 := (by decide +kernel); omega), ⟨rfl, (w_callTy dc_strI m_str rfl ⟨rfl, (w_var 4 ⟨rfl, _, rfl, (log_ok (by omega)), ⟨rfl, (w_callTy dc_strI m_str rfl ⟨rfl, (w_bin dop_add (w_var 4 (w_int ⟨rfl, rfl, ⟨rfl, _, rfl, (log_ok (by omega)), ⟨rfl, (w_fn G__law_odd hr hgd ⟨rfl, (w_var 2 ⟨rfl, ⟨_, _, _, _, _, rfl, hqR, (by omega), fun a5 b5 c5 od hp_5 hs_5 hn_5 => ⟨rfl, rfl, ⟨rfl, (w_callTy dc_list m_list rfl ⟨rfl, (w_var 5 ⟨rfl, fun p6 => ⟨rfl, (w_var 5 ⟨(Nat.le_of_lt (small2000 (n := 7) (by decide))), fun p7 => ⟨rfl, rfl, (by simp only [List.length_append, List.length_cons, List.length_nil, hS1l, sizeLine_eq]; omega), fun p8 => ⟨Nat.lt_of_sub_eq_succ rfl, ?_⟩⟩⟩)⟩⟩)⟩)⟩⟩⟩⟩)⟩)⟩⟩⟩)))⟩)⟩⟩)⟩)⟩⟩)))⟩⟩)))⟩))) sc_law.nd)
              obtain ⟨S2, hS2⟩ : ∃ S, S = S1 ++ ([.str (repS ⟨#[57]⟩ (4000 : Int).toNat), .str (pg ++ " 1"), .str (tsS wd), .str (tsS (wd + 1)), od, .list (iDs ws), .tuple (iDs ws)] : List D) := ⟨_, rfl⟩
              have l1 : (" 1" : Str).length = 2 := by decide +kernel
              have hT2 : ∀ d ∈ S2, Thing d := fun d hd => by
                rw [hS2] at hd
                rcases List.mem_append.mp hd with z | z
                · exact hT1 d z
                simp only [List.mem_cons, List.not_mem_nil, or_false] at z
                rcases z with e | e | e | e | e | e | e
                · rw [e]; exact thing_nines
                · rw [e]; exact thing_str (okS_app okp (by decide +kernel)) (by rw [lenS_app]; omega)
                · rw [e]; exact wd_short (by omega)
                · rw [e]; exact wd_short (by omega)
                · rw [e]; exact thing_short (hs_5.le (by decide) (by decide)) (fun s e => by subst e; have : s.length ≤ 800 := hs_5.wt; omega)
                · rw [e]; exact thing_short (hsL.le (by decide) (by decide)) (fun s e => nomatch e)
                · rw [e]; exact thing_short (hsT.le (by decide) (by decide)) (fun s e => nomatch e)
              have hS2l : S2.length = 22 := by rw [hS2, List.length_append, hS1l]; rfl
              show WSs _ _ _ [some (scT K a ns), some (.va (.int (0 + (j : Int)))), some (.lst p (potD a5 b5 c5)), some (.va (.int (0 + (i : Int)))), some (.va (.int wd)), some (.va (.tuple (iDs ws))), some (.va (.str pg)), some (.va (.str (PyData.tuple (iDs ws)).shown)), none, some (.lst p8 (S1 ++ ([.str (repS ⟨#[57]⟩ (4000 : Int).toNat), .str (pg ++ " 1"), .str (tsS wd), .str (tsS (wd + 1)), od, .list (iDs ws), .tuple (iDs ws)] : List D))), o10, o11, none] _
              rw [← hS2]
              -- line 151
              refine wss_cons (ws_for hp rfl (pg_name (i := 10) sc_law.nd rfl (by first | exact Or.inl rfl | exact Or.inr rfl)) (gok_name 10) (wi_range1 m_range ⟨rfl, (w_int ⟨rfl, ⟨by omega, by omega⟩, ?_⟩)⟩))
              refine ⟨fun i2 e => ∃ x y z S o10 o11, PotOk (10 + 1000 * i + 90 + 30 * i2) x y z ∧ (∀ d ∈ S, Thing d) ∧ S.length = 22 + i2 ∧ e = [some (scT K a ns), some (.va (.int (0 + (j : Int)))), some (.lst p (potD x y z)), some (.va (.int (0 + (i : Int)))), some (.va (.int wd)), some (.va (.tuple (iDs ws))), some (.va (.str pg)), some (.va (.str (PyData.tuple (iDs ws)).shown)), none, some (.lst p8 S), o10, o11, none], ⟨a5, b5, c5, S2, o10, o11, hp_5.le (by omega), hT2, hS2l, rfl⟩, ?_, ?_⟩
              · rintro i2 dd e hd ⟨x, y, z, S, o10, o11, hq2, hT, hSl, rfl⟩
                obtain ⟨rfl, hi2⟩ := rangeD_at hd
                have hi15 : i2 < 15 := hi2
                refine ⟨Nat.lt_of_sub_eq_succ rfl, ?_⟩
                -- line 152
                refine wss_cons (WS.imp (P := fun ou => ∃ x y z u, PotOk (10 + 1000 * i + 100 + 30 * i2) x y z ∧ okS u = true ∧ u.length ≤ 901 ∧ ou = .nx [some (scT K a ns), some (.va (.int (0 + (j : Int)))), some (.lst p (potD x y z)), some (.va (.int (0 + (i : Int)))), some (.va (.int wd)), some (.va (.tuple (iDs ws))), some (.va (.str pg)), some (.va (.str (PyData.tuple (iDs ws)).shown)), none, some (.lst p8 S), some (.va (.int (0 + (i2 : Int)))), some (.va (.str u)), none]) (ws_set 11 (w_ifExp (wt_cmp dop_lt (w_callB dc_lenS m_len rfl ⟨rfl, (w_var 6 ⟨rfl, _, rfl, (by rw [sizeLine_eq]; omega), (w_int ⟨rfl, rfl, _, rfl, ⟨fun h => (w_fn G__law_spoilt hr hgd ⟨rfl, (w_var 2 ⟨rfl, (w_var 6 ⟨rfl, ⟨_, _, _, _, _, _, rfl, hq2, (by omega), (by omega), okp, fun x1 y1 z1 u1 hq1 ok1 ln1 => ⟨rfl, rfl, ⟨Nat.lt_of_sub_eq_succ rfl, ?_⟩⟩⟩⟩)⟩)⟩), fun h => (w_var 6 ⟨Nat.lt_of_sub_eq_succ rfl, ?_⟩)⟩⟩)⟩)⟩))) sc_law.nd) ?jB)
                · have h9 : pg.length < 99 := by have h : decide ((pg.length : Int) < 99) = true := h; have := of_decide_eq_true h; omega
                  exact ⟨_, _, _, u1, hq1.le (by omega), ok1, by omega, rfl⟩
                · exact ⟨_, _, _, pg, hq2.le (by omega), okp, by omega, rfl⟩
                case jB =>
                  rintro ou ⟨x1, y1, z1, u, hq1, ok1, ln1, rfl⟩
                  show WSs _ _ _ _ _
                  -- line 153
                  refine wss_one (ws_expr (w_append (w_var 9 ⟨_, _, _, _, rfl, rfl, (w_ifExp (wt_cmp (dop_eq (room64 hr)) (w_fn G__law_draw hr hgd ⟨rfl, (w_var 2 ⟨rfl, (w_int ⟨rfl, ⟨_, _, _, _, _, _, rfl, (by assumption), (by omega), ⟨by omega, by omega⟩, fun x2 y2 z2 d2 hq3 k0 k1 => ⟨rfl, rfl, (w_int ⟨rfl, rfl, _, rfl, ⟨fun h => (w_fn G__law_spoilt hr hgd ⟨rfl, (w_var 2 ⟨rfl, (w_var 11 ⟨rfl, ⟨_, _, _, _, _, _, rfl, hq3, (by omega), (by omega), ok1, fun x3 y3 z3 u3 hq4 ok3 ln3 => ⟨rfl, rfl, ⟨_, _, rfl, rfl, (by simp only [List.length_append, List.length_cons, List.length_nil, hSl, sizeLine_eq]; omega), ?_⟩⟩⟩⟩)⟩)⟩), fun h => (w_var 11 ⟨_, _, rfl, rfl, (by simp only [List.length_append, List.length_cons, List.length_nil, hSl, sizeLine_eq]; omega), ?_⟩)⟩⟩)⟩⟩⟩)⟩)⟩)))⟩)))
                  · exact ⟨_, _, _, S ++ [.str u3], _, _, hq4.le (by omega), fun d hd => by
                      rcases List.mem_append.mp hd with z | z
                      · exact hT d z
                      · rw [List.mem_singleton.mp z]; exact thing_str ok3 (by omega), by rw [List.length_append, hSl]; rfl, rfl⟩
                  · exact ⟨_, _, _, S ++ [.str u], _, _, hq3.le (by omega), fun d hd => by
                      rcases List.mem_append.mp hd with z | z
                      · exact hT d z
                      · rw [List.mem_singleton.mp z]; exact thing_str ok1 (by omega), by rw [List.length_append, hSl]; rfl, rfl⟩
              · rintro e ⟨x, y, z, S, o10, o11, hq2, hT, hSl, rfl⟩
                rw [rangeD_len] at hSl
                have hSl : S.length = 37 := hSl
                have hq2 : PotOk (10 + 1000 * i + 540) x y z := hq2.le (by rw [rangeD_len]; have : ((15 : Int) - 0).toNat = 15 := rfl; omega)
                have hw9 : 1 ≤ wd ∧ wd ≤ 1000000000 := ⟨w1, w2⟩
                -- line 154
                refine wss_one (ws_if (wt_not (wt_val (w_callB (dc_all rfl) m_all rfl ⟨rfl, (w_lc (own := [("_law_thing", 12)]) rfl sc_law.nd (blkOk_by (N := N_law) (sc := defScope (topS 34)) (by decide +kernel)) (fun _ _ _ _ _ => pg_name (i := 12) sc_law.nd rfl (by first | exact Or.inl rfl | exact Or.inr rfl)) (gok_name 12) (by decide) (wi_list (w_var 9 ⟨rfl, (lc_map fm_name (fun (x : D) => x) (S) (fun _ => PyData.bool true) _ rfl (by simp) (by rw [sizeLine_eq]; omega) (fun k2 x9 hx => by have hx9 := hT x9 (List.mem_of_getElem? hx); exact ⟨Nat.lt_of_sub_eq_succ rfl, fun s2 H2 C2 cl2 fp2 => (w_fn G__law_right hr hgd ⟨rfl, (w_var 4 ⟨rfl, (w_var 12 ⟨_, _, rfl, hw9, hx9, ⟨rfl, rfl⟩⟩)⟩)⟩)⟩) (fun p9 => ⟨rfl, ⟨_, (congrArg (fun z => [PyData.list z]) (map_true S)), ⟨_, rfl, ⟨fun h => ?_, fun h => ?_⟩⟩⟩⟩))⟩)))⟩))))
                · exact absurd h (by rw [all_true]; decide)
                exact wss_nil ⟨_, _, _, _, _, _, _, _, _, _, _, hq2.le (by omega), rfl⟩
      · rintro e ⟨x, y, z, o3, o4, o5, o6, o7, o9, o10, o11, hq, rfl⟩
        exact ⟨_, _, _, _, _, _, _, _, _, _, rfl⟩
    · rintro e ⟨o1, o2, o3, o4, o5, o6, o7, o9, o10, o11, rfl⟩
      exact wss_one (ws_ret (w_bl ⟨rfl, q⟩))
end
end K56

namespace K56
open PySem PySem.Spec PyProof.Rows L2 QL
theorem all_mk {l : PySem.W.OpenLaw} {w : World} {K : PySem.W.Frag} {h : Heap} {mg : Str → Option Value} {fa : Addr} (X : K.In h) (G : h.Ns mainGlobals mg) (hfa : mg "law" = some (.ref fa))
    {f0 : Addr} {od0 an0 : Option Addr} {sl0 : Array (Option Value)} {oc0 kV0 dc0 pm0 cd0 ct0 : Value}
    {f1 : Addr} {od1 an1 : Option Addr} {sl1 : Array (Option Value)} {oc1 kV1 dc1 pm1 cd1 ct1 : Value}
    {f2 : Addr} {od2 an2 : Option Addr} {sl2 : Array (Option Value)} {oc2 kV2 dc2 pm2 cd2 ct2 : Value}
    {f3 : Addr} {od3 an3 : Option Addr} {sl3 : Array (Option Value)} {oc3 kV3 dc3 pm3 cd3 ct3 : Value}
    {f4 : Addr} {od4 an4 : Option Addr} {sl4 : Array (Option Value)} {oc4 kV4 dc4 pm4 cd4 ct4 : Value}
    {f5 : Addr} {od5 an5 : Option Addr} {sl5 : Array (Option Value)} {oc5 kV5 dc5 pm5 cd5 ct5 : Value}
    {f6 : Addr} {od6 an6 : Option Addr} {sl6 : Array (Option Value)} {oc6 kV6 dc6 pm6 cd6 ct6 : Value}
    {f7 : Addr} {od7 an7 : Option Addr} {sl7 : Array (Option Value)} {oc7 kV7 dc7 pm7 cd7 ct7 : Value}
    {f8 : Addr} {od8 an8 : Option Addr} {sl8 : Array (Option Value)} {oc8 kV8 dc8 pm8 cd8 ct8 : Value}
    {f9 : Addr} {od9 an9 : Option Addr} {sl9 : Array (Option Value)} {oc9 kV9 dc9 pm9 cd9 ct9 : Value}
    {f10 : Addr} {od10 an10 : Option Addr} {sl10 : Array (Option Value)} {oc10 kV10 dc10 pm10 cd10 ct10 : Value}
    {f11 : Addr} {od11 an11 : Option Addr} {sl11 : Array (Option Value)} {oc11 kV11 dc11 pm11 cd11 ct11 : Value}
    {f12 : Addr} {od12 an12 : Option Addr} {sl12 : Array (Option Value)} {oc12 kV12 dc12 pm12 cd12 ct12 : Value}
    {f13 : Addr} {od13 an13 : Option Addr} {sl13 : Array (Option Value)} {oc13 kV13 dc13 pm13 cd13 ct13 : Value}
    {f14 : Addr} {od14 an14 : Option Addr} {sl14 : Array (Option Value)} {oc14 kV14 dc14 pm14 cd14 ct14 : Value}
    {f15 : Addr} {od15 an15 : Option Addr} {sl15 : Array (Option Value)} {oc15 kV15 dc15 pm15 cd15 ct15 : Value}
    {f16 : Addr} {od16 an16 : Option Addr} {sl16 : Array (Option Value)} {oc16 kV16 dc16 pm16 cd16 ct16 : Value}
    {f17 : Addr} {od17 an17 : Option Addr} {sl17 : Array (Option Value)} {oc17 kV17 dc17 pm17 cd17 ct17 : Value}
    {f18 : Addr} {od18 an18 : Option Addr} {sl18 : Array (Option Value)} {oc18 kV18 dc18 pm18 cd18 ct18 : Value}
    {f19 : Addr} {od19 an19 : Option Addr} {sl19 : Array (Option Value)} {oc19 kV19 dc19 pm19 cd19 ct19 : Value}
    {f20 : Addr} {od20 an20 : Option Addr} {sl20 : Array (Option Value)} {oc20 kV20 dc20 pm20 ct20 : Value}
    {g20 P20 : Addr} {go20 : Value} {gd20 : Option Addr} {gv20 : Array Value} {gs20 : Array (Option Value)}
    {f21 : Addr} {od21 an21 : Option Addr} {sl21 : Array (Option Value)} {oc21 kV21 dc21 pm21 cd21 ct21 : Value}
    {aBadPlace : Addr}
    {aBadSource : Addr}
    {aBadText : Addr}
    {aBadWidth : Addr}
    {aBadWord : Addr}
    {aLineError : Addr}
    {aNothingToUndo : Addr}
    (aaBadPlace : PySem.W.nsIn K mainGlobals "BadPlace" = some (some (.ref aBadPlace)))
    (aaBadSource : PySem.W.nsIn K mainGlobals "BadSource" = some (some (.ref aBadSource)))
    (aaBadText : PySem.W.nsIn K mainGlobals "BadText" = some (some (.ref aBadText)))
    (aaBadWidth : PySem.W.nsIn K mainGlobals "BadWidth" = some (some (.ref aBadWidth)))
    (aaBadWord : PySem.W.nsIn K mainGlobals "BadWord" = some (some (.ref aBadWord)))
    (aaLineError : PySem.W.nsIn K mainGlobals "LineError" = some (some (.ref aLineError)))
    (aaNothingToUndo : PySem.W.nsIn K mainGlobals "NothingToUndo" = some (some (.ref aNothingToUndo)))
    {nmBadSource qqBadSource : Str} {nNBadSource : Addr} {bsBadSource bmBadSource subBadSource : List Value} {snBadSource : List Str} {abBadSource : Bool} {colBadSource : Option Bool} {ddBadSource : Option Addr} {k0BadSource k1BadSource k2BadSource k3BadSource k5BadSource : Option Value} (lkBadSource : K.lookup aBadSource = some (excClassObj nmBadSource qqBadSource aBadSource nNBadSource bsBadSource bmBadSource true snBadSource subBadSource abBadSource colBadSource ddBadSource k0BadSource k1BadSource k2BadSource k3BadSource k5BadSource "ValueError.__new__")) (rvBadSource : PySem.HandSPX.refsVE bmBadSource = true)
    (saBadSource : PySem.W.findIn K (.ref aBadSource) "__setattr__" = some (some (.builtin "object.__setattr__"))) (exBadSource : PySem.W.subIn K (.ref aBadSource) (.type "BaseException") = some true) (tyBadSource : PySem.W.typeIn K (.ref aBadSource) = some (.type "type")) (kcBadSource : PySem.W.keepIn K (.ref aBadSource) = true) (noBadSource : PySem.W.findIn K (.ref aBadSource) "position" = some none)
    (rdLineError : PySem.W.readsIn K aLineError (.type "type") = true) (gaLineError : PySem.W.specialIn K (.ref aLineError) "__getattribute__" = some (some (.builtin "type.__getattribute__"))) (hkLineError : PySem.W.findCls K (.ref aLineError) (.type "type") "__init__" = some (.val (.builtin "ValueError.__init__")))
    (a0 : PySem.W.nsIn K mainGlobals "_law_well" = some (some (.ref f0)))
    (l0 : K.lookup f0 = some ⟨oc0, od0, .func (PySem.W.fnOf "_law_well" "_law_well" (defArgs (topS 23)) (defBody (topS 23)) (defScope (topS 23)) .none kV0 dc0 pm0 an0 cd0 ct0), sl0⟩) (c0 : PySem.W.codeIn K cd0 "_law_well" = true) (k0 : PySem.W.keepIn K (.ref f0) = true)
    (a1 : PySem.W.nsIn K mainGlobals "_law_draw" = some (some (.ref f1)))
    (l1 : K.lookup f1 = some ⟨oc1, od1, .func (PySem.W.fnOf "_law_draw" "_law_draw" (defArgs (topS 24)) (defBody (topS 24)) (defScope (topS 24)) .none kV1 dc1 pm1 an1 cd1 ct1), sl1⟩) (c1 : PySem.W.codeIn K cd1 "_law_draw" = true) (k1 : PySem.W.keepIn K (.ref f1) = true)
    (a2 : PySem.W.nsIn K mainGlobals "_law_pick" = some (some (.ref f2)))
    (l2 : K.lookup f2 = some ⟨oc2, od2, .func (PySem.W.fnOf "_law_pick" "_law_pick" (defArgs (topS 25)) (defBody (topS 25)) (defScope (topS 25)) .none kV2 dc2 pm2 an2 cd2 ct2), sl2⟩) (c2 : PySem.W.codeIn K cd2 "_law_pick" = true) (k2 : PySem.W.keepIn K (.ref f2) = true)
    (a3 : PySem.W.nsIn K mainGlobals "_law_pick" = some (some (.ref f3)))
    (l3 : K.lookup f3 = some ⟨oc3, od3, .func (PySem.W.fnOf "_law_pick" "_law_pick" (defArgs (topS 25)) (defBody (topS 25)) (defScope (topS 25)) .none kV3 dc3 pm3 an3 cd3 ct3), sl3⟩) (c3 : PySem.W.codeIn K cd3 "_law_pick" = true) (k3 : PySem.W.keepIn K (.ref f3) = true)
    (a4 : PySem.W.nsIn K mainGlobals "_law_text" = some (some (.ref f4)))
    (l4 : K.lookup f4 = some ⟨oc4, od4, .func (PySem.W.fnOf "_law_text" "_law_text" (defArgs (topS 26)) (defBody (topS 26)) (defScope (topS 26)) .none kV4 dc4 pm4 an4 cd4 ct4), sl4⟩) (c4 : PySem.W.codeIn K cd4 "_law_text" = true) (k4 : PySem.W.keepIn K (.ref f4) = true)
    (a5 : PySem.W.nsIn K mainGlobals "is_integer" = some (some (.ref f5)))
    (l5 : K.lookup f5 = some ⟨oc5, od5, .func (PySem.W.fnOf "is_integer" "is_integer" (defArgs (topS 10)) (defBody (topS 10)) (defScope (topS 10)) .none kV5 dc5 pm5 an5 cd5 ct5), sl5⟩) (c5 : PySem.W.codeIn K cd5 "is_integer" = true) (k5 : PySem.W.keepIn K (.ref f5) = true)
    (a6 : PySem.W.nsIn K mainGlobals "is_between" = some (some (.ref f6)))
    (l6 : K.lookup f6 = some ⟨oc6, od6, .func (PySem.W.fnOf "is_between" "is_between" (defArgs (topS 11)) (defBody (topS 11)) (defScope (topS 11)) .none kV6 dc6 pm6 an6 cd6 ct6), sl6⟩) (c6 : PySem.W.codeIn K cd6 "is_between" = true) (k6 : PySem.W.keepIn K (.ref f6) = true)
    (a7 : PySem.W.nsIn K mainGlobals "are_words" = some (some (.ref f7)))
    (l7 : K.lookup f7 = some ⟨oc7, od7, .func (PySem.W.fnOf "are_words" "are_words" (defArgs (topS 12)) (defBody (topS 12)) (defScope (topS 12)) .none kV7 dc7 pm7 an7 cd7 ct7), sl7⟩) (c7 : PySem.W.codeIn K cd7 "are_words" = true) (k7 : PySem.W.keepIn K (.ref f7) = true)
    (a8 : PySem.W.nsIn K mainGlobals "is_text" = some (some (.ref f8)))
    (l8 : K.lookup f8 = some ⟨oc8, od8, .func (PySem.W.fnOf "is_text" "is_text" (defArgs (topS 13)) (defBody (topS 13)) (defScope (topS 13)) .none kV8 dc8 pm8 an8 cd8 ct8), sl8⟩) (c8 : PySem.W.codeIn K cd8 "is_text" = true) (k8 : PySem.W.keepIn K (.ref f8) = true)
    (a9 : PySem.W.findIn K (.ref aBadSource) "__init__" = some (some (.ref f9))) (i9 : PySem.W.typeIn K (.ref f9) = some (.type "function"))
    (l9 : K.lookup f9 = some ⟨oc9, od9, .func (PySem.W.fnOf "__init__" "BadSource.__init__" (defArgs (inClass (topS 6) 0)) (defBody (inClass (topS 6) 0)) (defScope (inClass (topS 6) 0)) .none kV9 dc9 pm9 an9 cd9 ct9), sl9⟩) (c9 : PySem.W.codeIn K cd9 "BadSource.__init__" = true) (k9 : PySem.W.keepIn K (.ref f9) = true)
    (a10 : PySem.W.nsIn K mainGlobals "_law_caught" = some (some (.ref f10)))
    (l10 : K.lookup f10 = some ⟨oc10, od10, .func (PySem.W.fnOf "_law_caught" "_law_caught" (defArgs (topS 30)) (defBody (topS 30)) (defScope (topS 30)) .none kV10 dc10 pm10 an10 cd10 ct10), sl10⟩) (c10 : PySem.W.codeIn K cd10 "_law_caught" = true) (k10 : PySem.W.keepIn K (.ref f10) = true)
    (a11 : PySem.W.nsIn K mainGlobals "number_in" = some (some (.ref f11)))
    (l11 : K.lookup f11 = some ⟨oc11, od11, .func (PySem.W.fnOf "number_in" "number_in" (defArgs (topS 20)) (defBody (topS 20)) (defScope (topS 20)) .none kV11 dc11 pm11 an11 cd11 ct11), sl11⟩) (c11 : PySem.W.codeIn K cd11 "number_in" = true) (k11 : PySem.W.keepIn K (.ref f11) = true)
    (a12 : PySem.W.nsIn K mainGlobals "show_text" = some (some (.ref f12)))
    (l12 : K.lookup f12 = some ⟨oc12, od12, .func (PySem.W.fnOf "show_text" "show_text" (defArgs (topS 19)) (defBody (topS 19)) (defScope (topS 19)) .none kV12 dc12 pm12 an12 cd12 ct12), sl12⟩) (c12 : PySem.W.codeIn K cd12 "show_text" = true) (k12 : PySem.W.keepIn K (.ref f12) = true)
    (a13 : PySem.W.nsIn K mainGlobals "read_text" = some (some (.ref f13)))
    (l13 : K.lookup f13 = some ⟨oc13, od13, .func (PySem.W.fnOf "read_text" "read_text" (defArgs (topS 21)) (defBody (topS 21)) (defScope (topS 21)) .none kV13 dc13 pm13 an13 cd13 ct13), sl13⟩) (c13 : PySem.W.codeIn K cd13 "read_text" = true) (k13 : PySem.W.keepIn K (.ref f13) = true)
    (a14 : PySem.W.nsIn K mainGlobals "_law_is_number" = some (some (.ref f14)))
    (l14 : K.lookup f14 = some ⟨oc14, od14, .func (PySem.W.fnOf "_law_is_number" "_law_is_number" (defArgs (topS 27)) (defBody (topS 27)) (defScope (topS 27)) .none kV14 dc14 pm14 an14 cd14 ct14), sl14⟩) (c14 : PySem.W.codeIn K cd14 "_law_is_number" = true) (k14 : PySem.W.keepIn K (.ref f14) = true)
    (a15 : PySem.W.nsIn K mainGlobals "_law_is_text" = some (some (.ref f15)))
    (l15 : K.lookup f15 = some ⟨oc15, od15, .func (PySem.W.fnOf "_law_is_text" "_law_is_text" (defArgs (topS 28)) (defBody (topS 28)) (defScope (topS 28)) .none kV15 dc15 pm15 an15 cd15 ct15), sl15⟩) (c15 : PySem.W.codeIn K cd15 "_law_is_text" = true) (k15 : PySem.W.keepIn K (.ref f15) = true)
    (a16 : PySem.W.nsIn K mainGlobals "_law_due" = some (some (.ref f16)))
    (l16 : K.lookup f16 = some ⟨oc16, od16, .func (PySem.W.fnOf "_law_due" "_law_due" (defArgs (topS 32)) (defBody (topS 32)) (defScope (topS 32)) .none kV16 dc16 pm16 an16 cd16 ct16), sl16⟩) (c16 : PySem.W.codeIn K cd16 "_law_due" = true) (k16 : PySem.W.keepIn K (.ref f16) = true)
    (a17 : PySem.W.nsIn K mainGlobals "_law_odd" = some (some (.ref f17)))
    (l17 : K.lookup f17 = some ⟨oc17, od17, .func (PySem.W.fnOf "_law_odd" "_law_odd" (defArgs (topS 29)) (defBody (topS 29)) (defScope (topS 29)) .none kV17 dc17 pm17 an17 cd17 ct17), sl17⟩) (c17 : PySem.W.codeIn K cd17 "_law_odd" = true) (k17 : PySem.W.keepIn K (.ref f17) = true)
    (a18 : PySem.W.nsIn K mainGlobals "_law_pick" = some (some (.ref f18)))
    (l18 : K.lookup f18 = some ⟨oc18, od18, .func (PySem.W.fnOf "_law_pick" "_law_pick" (defArgs (topS 25)) (defBody (topS 25)) (defScope (topS 25)) .none kV18 dc18 pm18 an18 cd18 ct18), sl18⟩) (c18 : PySem.W.codeIn K cd18 "_law_pick" = true) (k18 : PySem.W.keepIn K (.ref f18) = true)
    (a19 : PySem.W.nsIn K mainGlobals "_law_spoilt" = some (some (.ref f19)))
    (l19 : K.lookup f19 = some ⟨oc19, od19, .func (PySem.W.fnOf "_law_spoilt" "_law_spoilt" (defArgs (topS 31)) (defBody (topS 31)) (defScope (topS 31)) .none kV19 dc19 pm19 an19 cd19 ct19), sl19⟩) (c19 : PySem.W.codeIn K cd19 "_law_spoilt" = true) (k19 : PySem.W.keepIn K (.ref f19) = true)
    (a20 : PySem.W.nsIn K mainGlobals "_law_right" = some (some (.ref f20)))
    (l20 : K.lookup f20 = some ⟨oc20, od20, .func (PySem.W.fnOf "_law_right" "_law_right" (defArgs (topS 33)) (defBody (topS 33)) (defScope (topS 33)) .none kV20 dc20 pm20 an20 (.ref g20) ct20), sl20⟩) (c20 : PySem.W.codeIn K (.ref g20) "_law_right" = true) (k20 : PySem.W.keepIn K (.ref f20) = true)
    (q20 : K.lookup g20 = some ⟨go20, gd20, .fields gv20, gs20⟩) (p20 : (gv20[11]? : Option Value) = some (.ref P20))
    (a21 : PySem.W.nsIn K mainGlobals "law" = some (some (.ref f21)))
    (l21 : K.lookup f21 = some ⟨oc21, od21, .func (PySem.W.fnOf "law" "law" (defArgs (topS 34)) (defBody (topS 34)) (defScope (topS 34)) .none kV21 dc21 pm21 an21 cd21 ct21), sl21⟩) (c21 : PySem.W.codeIn K cd21 "law" = true) (k21 : PySem.W.keepIn K (.ref f21) = true)
    (z0 : PySem.W.nsIn K mainGlobals "ValueError" = some none)
    (z1 : PySem.W.nsIn K mainGlobals "abs" = some none)
    (z2 : PySem.W.nsIn K mainGlobals "all" = some none)
    (z3 : PySem.W.nsIn K mainGlobals "bool" = some none)
    (z4 : PySem.W.nsIn K mainGlobals "int" = some none)
    (z5 : PySem.W.nsIn K mainGlobals "isinstance" = some none)
    (z6 : PySem.W.nsIn K mainGlobals "len" = some none)
    (z7 : PySem.W.nsIn K mainGlobals "list" = some none)
    (z8 : PySem.W.nsIn K mainGlobals "max" = some none)
    (z9 : PySem.W.nsIn K mainGlobals "min" = some none)
    (z10 : PySem.W.nsIn K mainGlobals "range" = some none)
    (z11 : PySem.W.nsIn K mainGlobals "repr" = some none)
    (z12 : PySem.W.nsIn K mainGlobals "str" = some none)
    (z13 : PySem.W.nsIn K mainGlobals "tuple" = some none)
    {tv0 : Tok} (v0 : PySem.W.nsIn K mainGlobals "BLANK" = some (some (.str " " tv0)))
    {tv1 : Tok} (v1 : PySem.W.nsIn K mainGlobals "DIGITS" = some (some (.str "0123456789" tv1)))
    {tv2 : Tok} (v2 : PySem.W.nsIn K mainGlobals "MOST_DIGITS" = some (some (.int 10 tv2)))
    {tv3 : Tok} (v3 : PySem.W.nsIn K mainGlobals "MOST_WORDS" = some (some (.int 300 tv3)))
    {tv4 : Tok} (v4 : PySem.W.nsIn K mainGlobals "NOTHING" = some (some (.str "-" tv4)))
    (x_BadSource : erB K aBadSource = true)
    (n_BadSource : PySem.W.findIn K (.ref aBadSource) "position" = some none)
    (e_BadSource : PySem.W.exmOne K (.ref aBadSource) (.ref aLineError) = some true)
    (k_BadSource_BadWidth : PySem.W.kitOne K (.ref aBadSource) (.ref aBadWidth) = some false)
    (k_BadSource_BadText : PySem.W.kitOne K (.ref aBadSource) (.ref aBadText) = some false)
    (k_BadSource_BadPlace : PySem.W.kitOne K (.ref aBadSource) (.ref aBadPlace) = some false)
    (k_BadSource_BadSource : PySem.W.kitOne K (.ref aBadSource) (.ref aBadSource) = some true)
    (k_BadSource_NothingToUndo : PySem.W.kitOne K (.ref aBadSource) (.ref aNothingToUndo) = some false)
    (k_BadSource_BadWord : PySem.W.kitOne K (.ref aBadSource) (.ref aBadWord) = some false)
    (k_BadSource_VE : PySem.W.kitOne K (.ref aBadSource) (.type "ValueError") = some true)
    (hu20 : ∀ p ∈ ([(P20, lamQ "_law_right")] : List (Addr × Str)), p.1 = P20 → p.2 = lamQ "_law_right")
    : ∃ fd : FuncData, (∀ (s : Shared) (v : Value), BindsTo s fd ⟨[v], []⟩ [("_law_script", v)]) ∧ ∀ base : Heap, K.In base → base.Ns mainGlobals mg → (∀ p ∈ ([(g20, P20, lamQ "_law_right")] : Cs), LamX.TabB base mg p.1 p.2.1) → FnG l.prog w K mg base (Cs.tq [(g20, P20, lamQ "_law_right")]) 11 fa fd ["_law_script"] (spLaw K) := by
  have e := hfa.symm.trans (PySem.W.mg_of X G a21)
  cases e
  have F0 := fun_mk (st := topS 23) l0 c0 k0
  have F1 := fun_mk (st := topS 24) l1 c1 k1
  have F2 := fun_mk (st := topS 25) l2 c2 k2
  have F3 := fun_mk (st := topS 25) l3 c3 k3
  have F4 := fun_mk (st := topS 26) l4 c4 k4
  have F5 := fun_mk (st := topS 10) l5 c5 k5
  have F6 := fun_mk (st := topS 11) l6 c6 k6
  have F7 := fun_mk (st := topS 12) l7 c7 k7
  have F8 := fun_mk (st := topS 13) l8 c8 k8
  have F9 := fun_mk (st := inClass (topS 6) 0) l9 c9 k9
  have F10 := fun_mk (st := topS 30) l10 c10 k10
  have F11 := fun_mk (st := topS 20) l11 c11 k11
  have F12 := fun_mk (st := topS 19) l12 c12 k12
  have F13 := fun_mk (st := topS 21) l13 c13 k13
  have F14 := fun_mk (st := topS 27) l14 c14 k14
  have F15 := fun_mk (st := topS 28) l15 c15 k15
  have F16 := fun_mk (st := topS 32) l16 c16 k16
  have F17 := fun_mk (st := topS 29) l17 c17 k17
  have F18 := fun_mk (st := topS 25) l18 c18 k18
  have F19 := fun_mk (st := topS 31) l19 c19 k19
  have F20 := fun_mk (st := topS 33) l20 c20 k20
  have F21 := fun_mk (st := topS 34) l21 c21 k21
  have b0 := F0.binds (ps := ["_law_script", "_law_k"]) fun _ _ _ _ _ _ us hl => match us, hl with | [_, _], _ => rfl
  have b1 := F1.binds (ps := ["_law_well_here", "_law_many"]) fun _ _ _ _ _ _ us hl => match us, hl with | [_, _], _ => rfl
  have b2 := F2.binds (ps := ["_law_well_here", "_law_some"]) fun _ _ _ _ _ _ us hl => match us, hl with | [_, _], _ => rfl
  have b3 := F3.binds (ps := ["_law_well_here", "_law_some"]) fun _ _ _ _ _ _ us hl => match us, hl with | [_, _], _ => rfl
  have b4 := F4.binds (ps := ["_law_well_here", "_law_wide", "_law_most"]) fun _ _ _ _ _ _ us hl => match us, hl with | [_, _, _], _ => rfl
  have b5 := F5.binds (ps := ["value"]) fun _ _ _ _ _ _ us hl => match us, hl with | [_], _ => rfl
  have b6 := F6.binds (ps := ["value", "least", "most"]) fun _ _ _ _ _ _ us hl => match us, hl with | [_, _, _], _ => rfl
  have b7 := F7.binds (ps := ["width", "value"]) fun _ _ _ _ _ _ us hl => match us, hl with | [_, _], _ => rfl
  have b8 := F8.binds (ps := ["width", "value"]) fun _ _ _ _ _ _ us hl => match us, hl with | [_, _], _ => rfl
  have b9 := F9.binds (ps := ["self", "position"]) fun _ _ _ _ _ _ us hl => match us, hl with | [_, _], _ => rfl
  have b10 := F10.binds (ps := ["_law_call"]) fun _ _ _ _ _ _ us hl => match us, hl with | [_], _ => rfl
  have b11 := F11.binds (ps := ["word"]) fun _ _ _ _ _ _ us hl => match us, hl with | [_], _ => rfl
  have b12 := F12.binds (ps := ["text"]) fun _ _ _ _ _ _ us hl => match us, hl with | [_], _ => rfl
  have b13 := F13.binds (ps := ["width", "source"]) fun _ _ _ _ _ _ us hl => match us, hl with | [_, _], _ => rfl
  have b14 := F14.binds (ps := ["_law_value", "_law_least", "_law_most"]) fun _ _ _ _ _ _ us hl => match us, hl with | [_, _, _], _ => rfl
  have b15 := F15.binds (ps := ["_law_wide", "_law_value"]) fun _ _ _ _ _ _ us hl => match us, hl with | [_, _], _ => rfl
  have b16 := F16.binds (ps := ["_law_wide", "_law_page"]) fun _ _ _ _ _ _ us hl => match us, hl with | [_, _], _ => rfl
  have b17 := F17.binds (ps := ["_law_well_here"]) fun _ _ _ _ _ _ us hl => match us, hl with | [_], _ => rfl
  have b18 := F18.binds (ps := ["_law_well_here", "_law_some"]) fun _ _ _ _ _ _ us hl => match us, hl with | [_, _], _ => rfl
  have b19 := F19.binds (ps := ["_law_well_here", "_law_page"]) fun _ _ _ _ _ _ us hl => match us, hl with | [_, _], _ => rfl
  have b20 := F20.binds (ps := ["_law_wide", "_law_page"]) fun _ _ _ _ _ _ us hl => match us, hl with | [_, _], _ => rfl
  have w13_10 : KwOk K _ ["width", "source"] ["source", "width"] [1, 0] := fun_kws F13 fun _ _ _ _ _ _ us hl => match us, hl with | [_, _], _ => rfl
  have w12_0 : KwOk K _ ["text"] ["text"] [0] := fun_kws F12 fun _ _ _ _ _ _ us hl => match us, hl with | [_], _ => rfl
  have BValueError := PySem.W.mg_none_of X G z0
  have Babs := PySem.W.mg_none_of X G z1
  have Ball := PySem.W.mg_none_of X G z2
  have Bbool := PySem.W.mg_none_of X G z3
  have Bint := PySem.W.mg_none_of X G z4
  have Bisinstance := PySem.W.mg_none_of X G z5
  have Blen := PySem.W.mg_none_of X G z6
  have Blist := PySem.W.mg_none_of X G z7
  have Bmax := PySem.W.mg_none_of X G z8
  have Bmin := PySem.W.mg_none_of X G z9
  have Brange := PySem.W.mg_none_of X G z10
  have Brepr := PySem.W.mg_none_of X G z11
  have Bstr := PySem.W.mg_none_of X G z12
  have Btuple := PySem.W.mg_none_of X G z13
  have VBLANK := PySem.W.mg_of X G v0
  have VDIGITS := PySem.W.mg_of X G v1
  have VMOST_DIGITS := PySem.W.mg_of X G v2
  have VMOST_WORDS := PySem.W.mg_of X G v3
  have VNOTHING := PySem.W.mg_of X G v4
  have m0 := PySem.W.mg_of X G a0
  have m1 := PySem.W.mg_of X G a1
  have m2 := PySem.W.mg_of X G a2
  have m3 := PySem.W.mg_of X G a3
  have m4 := PySem.W.mg_of X G a4
  have m5 := PySem.W.mg_of X G a5
  have m6 := PySem.W.mg_of X G a6
  have m7 := PySem.W.mg_of X G a7
  have m8 := PySem.W.mg_of X G a8
  have m10 := PySem.W.mg_of X G a10
  have m11 := PySem.W.mg_of X G a11
  have m12 := PySem.W.mg_of X G a12
  have m13 := PySem.W.mg_of X G a13
  have m14 := PySem.W.mg_of X G a14
  have m15 := PySem.W.mg_of X G a15
  have m16 := PySem.W.mg_of X G a16
  have m17 := PySem.W.mg_of X G a17
  have m18 := PySem.W.mg_of X G a18
  have m19 := PySem.W.mg_of X G a19
  have m20 := PySem.W.mg_of X G a20
  have mBadPlace := PySem.W.mg_of X G aaBadPlace
  have mBadSource := PySem.W.mg_of X G aaBadSource
  have mBadText := PySem.W.mg_of X G aaBadText
  have mBadWidth := PySem.W.mg_of X G aaBadWidth
  have mBadWord := PySem.W.mg_of X G aaBadWord
  have mLineError := PySem.W.mg_of X G aaLineError
  have mNothingToUndo := PySem.W.mg_of X G aaNothingToUndo
  have crLineError : ClX.CRead K aLineError (.type "type") := ⟨rdLineError, gaLineError⟩
  have oxBadSource : OexC K aBadSource := ⟨⟨_, _, _, _, _, _, _, _, _, _, _, _, _, _, _, lkBadSource, rvBadSource⟩, saBadSource, exBadSource, tyBadSource, kcBadSource⟩
  refine ⟨PySem.W.fnOf "law" "law" (defArgs (topS 34)) (defBody (topS 34)) (defScope (topS 34)) .none kV21 dc21 pm21 an21 cd21 ct21, fun s v => .of_eq rfl, fun base _ _ tbs => ?_⟩
  have hTq : Cs.tq [(g20, P20, lamQ "_law_right")] = [(P20, lamQ "_law_right")] := rfl
  rw [hTq]
  have tb20 := tbs (g20, P20, lamQ "_law_right") (by simp only [List.mem_cons, true_or, or_true])
  have mt20 : (P20, lamQ "_law_right") ∈ ([(P20, lamQ "_law_right")] : List (Addr × Str)) := by simp only [List.mem_cons, true_or, or_true]
  have D0 : Df l.prog w K mg base [(P20, lamQ "_law_right")] 1 "_law_well" ["_law_script", "_law_k"] (spPot K) := ⟨_, _, g_pot (k := 0) F0 Blen Babs Bint, m0, k0, b0⟩
  have D1 : Df l.prog w K mg base [(P20, lamQ "_law_right")] 1 "_law_draw" ["_law_well_here", "_law_many"] spTake := ⟨_, _, g_take (k := 0) F1 , m1, k1, b1⟩
  have D2 : Df l.prog w K mg base [(P20, lamQ "_law_right")] 2 "_law_pick" ["_law_well_here", "_law_some"] spOf := ⟨_, _, g_of (k := 0) F2 (D1.mono (by decide : 1 ≤ 1)) Blen, m2, k2, b2⟩
  have D3 : Df l.prog w K mg base [(P20, lamQ "_law_right")] 2 "_law_pick" ["_law_well_here", "_law_some"] spOfI := ⟨_, _, g_ofI (k := 0) F3 (D1.mono (by decide : 1 ≤ 1)) Blen, m3, k3, b3⟩
  have D4 : Df l.prog w K mg base [(P20, lamQ "_law_right")] 3 "_law_text" ["_law_well_here", "_law_wide", "_law_most"] spTextD := ⟨_, _, g__law_text (k := 2) F4 (D1.mono (by decide : 1 ≤ 2)) (D3.mono (by decide : 2 ≤ 2)) Brange Btuple, m4, k4, b4⟩
  have D5 : Df l.prog w K mg base [(P20, lamQ "_law_right")] 1 "is_integer" ["value"] spIsI := ⟨_, _, g_is_integer (k := 0) F5 Bbool Bint Bisinstance, m5, k5, b5⟩
  have D6 : Df l.prog w K mg base [(P20, lamQ "_law_right")] 2 "is_between" ["value", "least", "most"] spBtw := ⟨_, _, g_is_between (k := 1) F6 (D5.mono (by decide : 1 ≤ 1)), m6, k6, b6⟩
  have D7 : Df l.prog w K mg base [(P20, lamQ "_law_right")] 3 "are_words" ["width", "value"] spWords := ⟨_, _, g_words (k := 0) F7 (D6.mono (by decide : 2 ≤ 2)) Bisinstance Btuple Ball, m7, k7, b7⟩
  have D8 : Df l.prog w K mg base [(P20, lamQ "_law_right")] 4 "is_text" ["width", "value"] spText := ⟨_, _, g_text (k := 0) F8 (D7.mono (by decide : 3 ≤ 3)) Blen VMOST_WORDS, m8, k8, b8⟩
  have Z_BadSource : Rz l.prog w K mg base 1 "BadSource" aBadSource "position" := ⟨_, _, _, oxBadSource, a9, i9, init_BadSource (k := 0) F9 mLineError crLineError hkLineError noBadSource, b9, mBadSource⟩
  have D10 : GvL l.prog w K mg base [(P20, lamQ "_law_right")] 0 "_law_caught" "_law_call" (tgCaught aBadSource) := g__law_caught (k := 0) F10 m10 k10 b10 mLineError mBadWidth mBadText mBadPlace mBadSource mNothingToUndo mBadWord Bisinstance BValueError x_BadSource n_BadSource e_BadSource k_BadSource_BadWidth k_BadSource_BadText k_BadSource_BadPlace k_BadSource_BadSource k_BadSource_NothingToUndo k_BadSource_BadWord k_BadSource_VE
  have D11 : Df l.prog w K mg base [(P20, lamQ "_law_right")] 1 "number_in" ["word"] spNumIn := ⟨_, _, g_number_in (k := 0) F11 VDIGITS VMOST_DIGITS Ball Bint Blen, m11, k11, b11⟩
  have D12 : Df l.prog w K mg base [(P20, lamQ "_law_right")] 1 "show_text" ["text"] spShow := ⟨_, _, g_show_text (k := 0) F12 VBLANK VNOTHING Bstr, m12, k12, b12⟩
  have E12_0 : Dk l.prog w K mg base [(P20, lamQ "_law_right")] 1 "show_text" ["text"] ["text"] [0] spShow := ⟨_, _, g_show_text (k := 0) F12 VBLANK VNOTHING Bstr, m12, k12, w12_0⟩
  have D13 : Df l.prog w K mg base [(P20, lamQ "_law_right")] 6 "read_text" ["width", "source"] (spReadT aBadSource) := ⟨_, _, g_read_text (k := 4) F13 (Z_BadSource.mono (by decide : 1 ≤ 4)) (D8.mono (by decide : 4 ≤ 4)) (D11.mono (by decide : 1 ≤ 4)) VBLANK VNOTHING Bisinstance Bstr Btuple, m13, k13, b13⟩
  have E13_10 : Dk l.prog w K mg base [(P20, lamQ "_law_right")] 6 "read_text" ["width", "source"] ["source", "width"] [1, 0] (spReadT aBadSource) := ⟨_, _, g_read_text (k := 4) F13 (Z_BadSource.mono (by decide : 1 ≤ 4)) (D8.mono (by decide : 4 ≤ 4)) (D11.mono (by decide : 1 ≤ 4)) VBLANK VNOTHING Bisinstance Bstr Btuple, m13, k13, w13_10⟩
  have D14 : Df l.prog w K mg base [(P20, lamQ "_law_right")] 1 "_law_is_number" ["_law_value", "_law_least", "_law_most"] spBtw := ⟨_, _, g_lawInt (k := 0) F14 Bisinstance Bint Bbool, m14, k14, b14⟩
  have D15 : Df l.prog w K mg base [(P20, lamQ "_law_right")] 2 "_law_is_text" ["_law_wide", "_law_value"] spText := ⟨_, _, g__law_is_text (k := 1) F15 (D14.mono (by decide : 1 ≤ 1)) Ball Bisinstance Blen Btuple, m15, k15, b15⟩
  have D16 : Df l.prog w K mg base [(P20, lamQ "_law_right")] 3 "_law_due" ["_law_wide", "_law_page"] spDue := ⟨_, _, g__law_due (k := 2) F16 (D15.mono (by decide : 2 ≤ 2)) Ball Bint Bisinstance Blen Bstr Btuple, m16, k16, b16⟩
  have D17 : Df l.prog w K mg base [(P20, lamQ "_law_right")] 3 "_law_odd" ["_law_well_here"] spOdd := ⟨_, _, g__law_odd (k := 2) F17 (D3.mono (by decide : 2 ≤ 2)) (D2.mono (by decide : 2 ≤ 2)) Brange, m17, k17, b17⟩
  have D18 : Df l.prog w K mg base [(P20, lamQ "_law_right")] 2 "_law_pick" ["_law_well_here", "_law_some"] spOfS := ⟨_, _, g__law_pickS (k := 1) F18 (D1.mono (by decide : 1 ≤ 1)) Blen, m18, k18, b18⟩
  have D19 : Df l.prog w K mg base [(P20, lamQ "_law_right")] 3 "_law_spoilt" ["_law_well_here", "_law_page"] spSpoilt := ⟨_, _, g__law_spoilt (k := 2) F19 (D1.mono (by decide : 1 ≤ 2)) (D2.mono (by decide : 2 ≤ 2)) (D18.mono (by decide : 2 ≤ 2)) Blen Bmax Bmin, m19, k19, b19⟩
  have D20 : Df l.prog w K mg base [(P20, lamQ "_law_right")] 10 "_law_right" ["_law_wide", "_law_page"] spRight := ⟨_, _, g__law_right (k := 6) F20 (c0 := g20) (P0 := P20) rfl tb20 mt20 hu20 (D10.mono (by decide : 0 ≤ 8)) (D16.mono (by decide : 3 ≤ 6)) (D13.mono (by decide : 6 ≤ 6)) (E13_10.mono (by decide : 6 ≤ 6)) Brepr, m20, k20, b20⟩
  exact g_law (k := 10) F21 (D1.mono (by decide : 1 ≤ 10)) (D17.mono (by decide : 3 ≤ 10)) (D3.mono (by decide : 2 ≤ 10)) (D20.mono (by decide : 10 ≤ 10)) (D19.mono (by decide : 3 ≤ 10)) (D4.mono (by decide : 3 ≤ 10)) (D0.mono (by decide : 1 ≤ 10)) (D12.mono (by decide : 1 ≤ 10)) (E12_0.mono (by decide : 1 ≤ 10)) Ball Blen Blist Bmax Bmin Brange Brepr Bstr
end K56
open PySem PySem.W PyProof.Rows
set_option maxHeartbeats 0 in
theorem PySem.Challenge.cw_settledlines_k56_texts_shown_and_read_holds : PySem.Challenge.rw_settledlines_k56_texts_shown_and_read.Holds := by
  w_on; o_law; k_head; (case hw => w_witness2)
  k_fill
  refine QL.walk_gY (l := PySem.Challenge.rw_settledlines_k56_texts_shown_and_read) (n := 63) (k := 11) (x := "_law_script") (sp := fun w => K56.spLaw _) (cs := Function.const _ [(?qlc0, ?qlp0, QL.lamQ "_law_right")]) rfl (by decide) rfl ⟨rfl, by decide, by decide⟩ (fun w h Y => PySem.W.km_in_of Y) ?hcs ?F (fun w a ns hl => ⟨a, ns, rfl, hl, rfl⟩)
  case F =>
    intro w mg fa h KX G hmg
    refine' K56.all_mk KX G hmg ?aaBadPlace ?aaBadSource ?aaBadText ?aaBadWidth ?aaBadWord ?aaLineError ?aaNothingToUndo ?lkBadSource ?rvBadSource ?saBadSource ?exBadSource ?tyBadSource ?kcBadSource ?noBadSource ?rdLineError ?gaLineError ?hkLineError ?a0 ?l0 ?c0 ?k0 ?a1 ?l1 ?c1 ?k1 ?a2 ?l2 ?c2 ?k2 ?a3 ?l3 ?c3 ?k3 ?a4 ?l4 ?c4 ?k4 ?a5 ?l5 ?c5 ?k5 ?a6 ?l6 ?c6 ?k6 ?a7 ?l7 ?c7 ?k7 ?a8 ?l8 ?c8 ?k8 ?a9 ?l9 ?c9 ?k9 ?i9 ?a10 ?l10 ?c10 ?k10 ?a11 ?l11 ?c11 ?k11 ?a12 ?l12 ?c12 ?k12 ?a13 ?l13 ?c13 ?k13 ?a14 ?l14 ?c14 ?k14 ?a15 ?l15 ?c15 ?k15 ?a16 ?l16 ?c16 ?k16 ?a17 ?l17 ?c17 ?k17 ?a18 ?l18 ?c18 ?k18 ?a19 ?l19 ?c19 ?k19 ?a20 ?l20 ?c20 ?k20 ?q20 ?p20 ?a21 ?l21 ?c21 ?k21 ?z0 ?z1 ?z2 ?z3 ?z4 ?z5 ?z6 ?z7 ?z8 ?z9 ?z10 ?z11 ?z12 ?z13 ?v0 ?v1 ?v2 ?v3 ?v4 ?x_BadSource ?n_BadSource ?e_BadSource ?k_BadSource_BadWidth ?k_BadSource_BadText ?k_BadSource_BadPlace ?k_BadSource_BadSource ?k_BadSource_NothingToUndo ?k_BadSource_BadWord ?k_BadSource_VE ?hu20
    (case aaBadPlace => k_is); (case aaBadSource => k_is); (case aaBadText => k_is); (case aaBadWidth => k_is); (case aaBadWord => k_is); (case aaLineError => k_is); (case aaNothingToUndo => k_is); (case lkBadSource => k_is); (case rvBadSource => rfl); (case saBadSource => k_is); (case exBadSource => k_is); (case tyBadSource => k_is); (case kcBadSource => k_is); (case noBadSource => k_is); (case rdLineError => k_is); (case gaLineError => k_is); (case hkLineError => k_is); (case a0 => k_is); (case l0 => k_is); (case c0 => k_is); (case k0 => k_is); (case a1 => k_is); (case l1 => k_is); (case c1 => k_is); (case k1 => k_is); (case a2 => k_is); (case l2 => k_is); (case c2 => k_is); (case k2 => k_is); (case a3 => k_is); (case l3 => k_is); (case c3 => k_is); (case k3 => k_is); (case a4 => k_is); (case l4 => k_is); (case c4 => k_is); (case k4 => k_is); (case a5 => k_is); (case l5 => k_is); (case c5 => k_is); (case k5 => k_is); (case a6 => k_is); (case l6 => k_is); (case c6 => k_is); (case k6 => k_is); (case a7 => k_is); (case l7 => k_is); (case c7 => k_is); (case k7 => k_is); (case a8 => k_is); (case l8 => k_is); (case c8 => k_is); (case k8 => k_is); (case a9 => k_is); (case l9 => k_is); (case c9 => k_is); (case k9 => k_is); (case i9 => k_is); (case a10 => k_is); (case l10 => k_is); (case c10 => k_is); (case k10 => k_is); (case a11 => k_is); (case l11 => k_is); (case c11 => k_is); (case k11 => k_is); (case a12 => k_is); (case l12 => k_is); (case c12 => k_is); (case k12 => k_is); (case a13 => k_is); (case l13 => k_is); (case c13 => k_is); (case k13 => k_is); (case a14 => k_is); (case l14 => k_is); (case c14 => k_is); (case k14 => k_is); (case a15 => k_is); (case l15 => k_is); (case c15 => k_is); (case k15 => k_is); (case a16 => k_is); (case l16 => k_is); (case c16 => k_is); (case k16 => k_is); (case a17 => k_is); (case l17 => k_is); (case c17 => k_is); (case k17 => k_is); (case a18 => k_is); (case l18 => k_is); (case c18 => k_is); (case k18 => k_is); (case a19 => k_is); (case l19 => k_is); (case c19 => k_is); (case k19 => k_is); (case a20 => k_is); (case l20 => k_is); (case c20 => k_is); (case k20 => k_is); (case q20 => k_is); (case p20 => rfl); (case a21 => k_is); (case l21 => k_is); (case c21 => k_is); (case k21 => k_is); (case z0 => k_is); (case z1 => k_is); (case z2 => k_is); (case z3 => k_is); (case z4 => k_is); (case z5 => k_is); (case z6 => k_is); (case z7 => k_is); (case z8 => k_is); (case z9 => k_is); (case z10 => k_is); (case z11 => k_is); (case z12 => k_is); (case z13 => k_is); (case v0 => k_is); (case v1 => k_is); (case v2 => k_is); (case v3 => k_is); (case v4 => k_is); (case x_BadSource => kernel_rfl); (case n_BadSource => kernel_rfl); (case e_BadSource => kernel_rfl); (case k_BadSource_BadWidth => kernel_rfl); (case k_BadSource_BadText => kernel_rfl); (case k_BadSource_BadPlace => kernel_rfl); (case k_BadSource_BadSource => kernel_rfl); (case k_BadSource_NothingToUndo => kernel_rfl); (case k_BadSource_BadWord => kernel_rfl); (case k_BadSource_VE => kernel_rfl); (case hu20 => (intro p hp e; simp only [List.mem_cons, List.not_mem_nil, or_false] at hp; rcases hp with rfl <;> first | (exact absurd e (by decide)) | rfl))
  case hcs =>
    intro w h Y KX
    exact .cons ⟨PySem.W.codeHd_of_K KX (by kernel_rfl), PySem.W.km_tabs_of Y _ (by k_mem)⟩ (by kernel_rfl) (.nil)
