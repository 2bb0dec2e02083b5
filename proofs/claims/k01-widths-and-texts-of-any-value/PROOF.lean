import PyProof.Rows.All
import HandS.ForMost
import HandS.TupAny
import HandS.Wide
import HandS.Exc
import HandS.WordsExc
import HandS.TupMul
import HandS.IsInst
import HandS.Dict
import PyProof.ReprRoads
import HandS.Star
import HandS.Zip
import KE.KTupSum
import HandS.RevTup
import PyProof.ListNew
import PyProof.TupleOfGen
import KE.KDictZip
import PyProof.ReprLen
import PyProof.FitsInt
import PyProof.Rows.StrJoinMade
import PyProof.Rows.StrDigitsNeg
import PyProof.Rows.ReprOcc
import PyProof.ReprBulk
import PySem.Challenge.RW_settledlines_k01_widths_and_texts_of_any
set_option Elab.async false
set_option linter.all false
set_option maxRecDepth 100000
set_option maxHeartbeats 4000000
/-! QA: data without heap: what a value stands for (Rp), what a thing that one name alone holds stands for (Ow), a frame's slots (OwE), what a step leaves (Frm). -/
namespace QL
open PySem PySem.Spec PyProof.Rows L2

abbrev D := PyData
def kD : Key → D
  | .inl i => .int i
  | .inr x => .str x

mutual
/-- the value v stands for the data d, read in the heap part F that never changes -/
inductive Rp (F : Hp) : V → D → Prop
  | non : Rp F .non .none
  | bl (b : Bool) : Rp F (.bl b) (.bool b)
  | int (i : Int) : Rp F (.int i) (.int i)
  | str (x : Str) : Rp F (.str x) (.str x)
  | lst {a : Addr} {xs : List V} {ds : List D} : F a = some (.lst xs) → RpA F xs ds → Rp F (.ref a) (.list ds)
  | tup {a : Addr} {xs : List V} {ds : List D} : F a = some (.tup xs) → RpA F xs ds → Rp F (.ref a) (.tuple ds)
  | dic {a : Addr} {kvs : List (Key × V)} {ds : List (D × D)} : Rd F a (.dK kvs) → RpK F kvs ds → Rp F (.ref a) (.dict ds)
inductive RpA (F : Hp) : List V → List D → Prop
  | nil : RpA F [] []
  | cons {v : V} {vs : List V} {d : D} {ds : List D} : Rp F v d → RpA F vs ds → RpA F (v :: vs) (d :: ds)
inductive RpK (F : Hp) : List (Key × V) → List (D × D) → Prop
  | nil : RpK F [] []
  | cons {k : Key} {v : V} {vs : List (Key × V)} {d : D} {ds : List (D × D)} : Rp F v d → RpK F vs ds → RpK F ((k, v) :: vs) ((kD k, d) :: ds)
end

theorem rd_mono {F F' : Hp} (s : Same F F') {a : Addr} {u : HO} (h : Rd F a u) : Rd F' a u := by
  rcases h with h | ⟨o, h⟩
  · exact .inl (s _ _ h)
  · exact .inr ⟨o, s _ _ h⟩
mutual
theorem Rp.mono {F F' : Hp} (s : Same F F') : ∀ {v : V} {d : D}, Rp F v d → Rp F' v d
  | _, _, .non => .non
  | _, _, .bl b => .bl b
  | _, _, .int i => .int i
  | _, _, .str x => .str x
  | _, _, .lst h r => .lst (s _ _ h) (RpA.mono s r)
  | _, _, .tup h r => .tup (s _ _ h) (RpA.mono s r)
  | _, _, .dic h r => .dic (rd_mono s h) (RpK.mono s r)
theorem RpA.mono {F F' : Hp} (s : Same F F') : ∀ {v : List V} {d : List D}, RpA F v d → RpA F' v d
  | _, _, .nil => .nil
  | _, _, .cons h r => .cons (Rp.mono s h) (RpA.mono s r)
theorem RpK.mono {F F' : Hp} (s : Same F F') : ∀ {v : List (Key × V)} {d : List (D × D)}, RpK F v d → RpK F' v d
  | _, _, .nil => .nil
  | _, _, .cons h r => .cons (Rp.mono s h) (RpK.mono s r)
end

/-- what a name of a frame, or a field of an object that one name alone holds, stands for -/
inductive T
  | va (d : D)
  | lst (a : Addr) (ds : List D)
  | dic (a : Addr) (kvs : List (Key × D))
  | ins (a C : Addr) (fs : List (Str × T))
  | hole (a : Addr)
  | ob (a : Option Addr) (φ : Hp → Hp → List Addr → V → Prop)

def T.addr : T → Option Addr
  | .va _ => none
  | .lst a _ => some a
  | .dic a _ => some a
  | .ins a _ _ => some a
  | .hole a => some a
  | .ob a _ => a

/-- a thing of another kind stays when its own objects and what is frozen stay -/
structure Stab (a : Option Addr) (φ : Hp → Hp → List Addr → V → Prop) : Prop where
  stay : ∀ F H F' H' O v, φ F H O v → Same F F' → (∀ b ∈ O, H' b = H b) → φ F' H' O v
  there : ∀ F H O v, φ F H O v → ∀ b ∈ O, H b ≠ none
  at_ : ∀ F H O v b, φ F H O v → a = some b → v = .ref b

inductive RpT (F : Hp) : List (Key × V) → List (Key × D) → Prop
  | nil : RpT F [] []
  | cons {k : Key} {v : V} {vs : List (Key × V)} {d : D} {ds : List (Key × D)} : Rp F v d → RpT F vs ds → RpT F ((k, v) :: vs) ((k, d) :: ds)
theorem RpT.mono {F F' : Hp} (s : Same F F') : ∀ {v : List (Key × V)} {d : List (Key × D)}, RpT F v d → RpT F' v d
  | _, _, .nil => .nil
  | _, _, .cons h r => .cons (h.mono s) (RpT.mono s r)

mutual
inductive Ow (F H : Hp) : List Addr → V → T → Prop
  | va {v : V} {d : D} : Rp F v d → Ow F H [] v (.va d)
  | lst {a : Addr} {xs : List V} {ds : List D} : H a = some (.lst xs) → RpA F xs ds → Ow F H [a] (.ref a) (.lst a ds)
  | dic {a : Addr} {kvs : List (Key × V)} {ds : List (Key × D)} : H a = some (.dK kvs) → RpT F kvs ds → Ow F H [a] (.ref a) (.dic a ds)
  | ins {a dx C : Addr} {vs : List (Str × V)} {fs : List (Str × T)} {O : List Addr} : H a = some (.ins C dx vs) → H dx = some (.own a) → OwF F H O vs fs → Ow F H (a :: dx :: O) (.ref a) (.ins a C fs)
  | hole {a : Addr} : Ow F H [] (.ref a) (.hole a)
  | ob {a : Option Addr} {φ : Hp → Hp → List Addr → V → Prop} {O : List Addr} {v : V} : φ F H O v → Stab a φ → Ow F H O v (.ob a φ)
inductive OwF (F H : Hp) : List Addr → List (Str × V) → List (Str × T) → Prop
  | nil : OwF F H [] [] []
  | cons {n : Str} {v : V} {t : T} {vs : List (Str × V)} {ts : List (Str × T)} {O1 O2 : List Addr} : Ow F H O1 v t → OwF F H O2 vs ts → OwF F H (O1 ++ O2) ((n, v) :: vs) ((n, t) :: ts)
end

mutual
theorem Ow.stay {F H F' H' : Hp} (s : Same F F') : ∀ {O : List Addr} {v : V} {t : T}, Ow F H O v t → (∀ a ∈ O, H' a = H a) → Ow F' H' O v t
  | _, _, _, .va r, _ => .va (r.mono s)
  | _, _, _, .lst h r, k => .lst ((k _ (List.mem_singleton.mpr rfl)).trans h) (r.mono s)
  | _, _, _, .dic h r, k => .dic ((k _ (List.mem_singleton.mpr rfl)).trans h) (r.mono s)
  | _, _, _, .ins h1 h2 r, k => .ins ((k _ List.mem_cons_self).trans h1) ((k _ (List.mem_cons_of_mem _ List.mem_cons_self)).trans h2)
      (OwF.stay s r fun a ha => k a (List.mem_cons_of_mem _ (List.mem_cons_of_mem _ ha)))
  | _, _, _, .hole, _ => .hole
  | _, _, _, .ob h st, k => .ob (st.stay _ _ _ _ _ _ h s k) st
theorem OwF.stay {F H F' H' : Hp} (s : Same F F') : ∀ {O : List Addr} {v : List (Str × V)} {t : List (Str × T)}, OwF F H O v t → (∀ a ∈ O, H' a = H a) → OwF F' H' O v t
  | _, _, _, .nil, _ => .nil
  | _, _, _, .cons h r, k => .cons (Ow.stay s h fun a ha => k a (List.mem_append_left _ ha)) (OwF.stay s r fun a ha => k a (List.mem_append_right _ ha))
end
mutual
theorem Ow.there {F H : Hp} : ∀ {O : List Addr} {v : V} {t : T}, Ow F H O v t → ∀ a ∈ O, H a ≠ none
  | _, _, _, .va r, a, ha => nomatch ha
  | _, _, _, .lst h r, a, ha => by rw [List.mem_singleton.mp ha, h]; exact fun z => nomatch z
  | _, _, _, .dic h r, a, ha => by rw [List.mem_singleton.mp ha, h]; exact fun z => nomatch z
  | _, _, _, .ins h1 h2 r, a, ha => by
    rcases List.mem_cons.mp ha with rfl | ha
    · rw [h1]; exact fun z => nomatch z
    rcases List.mem_cons.mp ha with rfl | ha
    · rw [h2]; exact fun z => nomatch z
    · exact OwF.there r a ha
  | _, _, _, .hole, a, ha => nomatch ha
  | _, _, _, .ob h st, a, ha => st.there _ _ _ _ h a ha
theorem OwF.there {F H : Hp} : ∀ {O : List Addr} {v : List (Str × V)} {t : List (Str × T)}, OwF F H O v t → ∀ a ∈ O, H a ≠ none
  | _, _, _, .nil, a, ha => nomatch ha
  | _, _, _, .cons h r, a, ha => (List.mem_append.mp ha).elim (Ow.there h a) (OwF.there r a)
end
theorem Ow.ref {F H : Hp} {O : List Addr} {v : V} {t : T} {a : Addr} (h : Ow F H O v t) (e : t.addr = some a) : v = .ref a := by
  cases h with
  | va r => cases e
  | lst h r => cases e; rfl
  | dic h r => cases e; rfl
  | ins h1 h2 r => cases e; rfl
  | hole => cases e; rfl
  | ob h st => exact st.at_ _ _ _ _ _ h e

abbrev Env := List (Option T)
inductive OwE (F H : Hp) : List Addr → L2.St → Env → Prop
  | nil : OwE F H [] [] []
  | un {O : List Addr} {σ : L2.St} {e : Env} {x : Option V} : OwE F H O σ e → OwE F H O (x :: σ) (none :: e)
  | so {O1 O2 : List Addr} {σ : L2.St} {e : Env} {v : V} {t : T} : Ow F H O1 v t → OwE F H O2 σ e → OwE F H (O1 ++ O2) (some v :: σ) (some t :: e)
theorem OwE.stay {F H F' H' : Hp} (s : Same F F') : ∀ {O : List Addr} {σ : L2.St} {e : Env}, OwE F H O σ e → (∀ a ∈ O, H' a = H a) → OwE F' H' O σ e
  | _, _, _, .nil, _ => .nil
  | _, _, _, .un r, k => .un (OwE.stay s r k)
  | _, _, _, .so h r, k => .so (h.stay s fun a ha => k a (List.mem_append_left _ ha)) (OwE.stay s r fun a ha => k a (List.mem_append_right _ ha))
theorem OwE.there {F H : Hp} : ∀ {O : List Addr} {σ : L2.St} {e : Env}, OwE F H O σ e → ∀ a ∈ O, H a ≠ none
  | _, _, _, .nil, a, ha => nomatch ha
  | _, _, _, .un r, a, ha => OwE.there r a ha
  | _, _, _, .so h r, a, ha => (List.mem_append.mp ha).elim (Ow.there h a) (OwE.there r a)
theorem OwE.len {F H : Hp} : ∀ {O : List Addr} {σ : L2.St} {e : Env}, OwE F H O σ e → σ.length = e.length
  | _, _, _, .nil => rfl
  | _, _, _, .un r => congrArg (· + 1) (OwE.len r)
  | _, _, _, .so _ r => congrArg (· + 1) (OwE.len r)

/-! ### places within a thing -/
def getT : List Str → T → Option T
  | [], t => some t
  | f :: p, .ins _ _ fs => match fs.lookup f with
    | some t => getT p t
    | none => none
  | _ :: _, _ => none
/-- the first field of that name, replaced -/
def repF (f : Str) (u : T) : List (Str × T) → List (Str × T)
  | [] => []
  | (n, t) :: r => if f == n then (n, u) :: r else (n, t) :: repF f u r
theorem repF_hit {f n : Str} {u t : T} {r : List (Str × T)} (h : (f == n) = true) : repF f u ((n, t) :: r) = (n, u) :: r := by unfold repF; rw [if_pos h]
theorem repF_miss {f n : Str} {u t : T} {r : List (Str × T)} (h : (f == n) = false) : repF f u ((n, t) :: r) = (n, t) :: repF f u r := by
  conv => lhs; unfold repF
  rw [if_neg (by rw [h]; exact Bool.false_ne_true)]
def setT : List Str → T → T → T
  | [], u, _ => u
  | f :: p, u, .ins a C fs => match fs.lookup f with
    | some t => .ins a C (repF f (setT p u t) fs)
    | none => .ins a C fs
  | _ :: _, _, t => t
def getP (i : Nat) (p : List Str) (env : Env) : Option T := match env[i]? with
  | some (some t) => getT p t
  | _ => none
def setO (p : List Str) (u : T) : Option T → Option T
  | some t => some (setT p u t)
  | none => none
def setP : Nat → List Str → T → Env → Env
  | _, _, _, [] => []
  | 0, p, u, o :: e => setO p u o :: e
  | i + 1, p, u, o :: e => o :: setP i p u e
theorem setP_eq {p : List Str} {u t : T} : ∀ {i : Nat} {env : Env}, env[i]? = some (some t) → setP i p u env = env.set i (some (setT p u t))
  | _, [], h => nomatch h
  | 0, o :: e, h => by cases h; rfl
  | i + 1, o :: e, h => congrArg (o :: ·) (setP_eq (i := i) (env := e) h)

/-- a part of a thing is taken out, and another one put there -/
def Hung (F H : Hp) (O : List Addr) (w : V) (u : T) (R : Hp → Hp → List Addr → T → Prop) : Prop :=
  ∃ Oj O', Ow F H Oj w u ∧ O.Perm (Oj ++ O') ∧ ∀ F' H' Oj' u', Same F F' → (∀ a ∈ O', H' a = H a) → Ow F' H' Oj' w u' → ∃ O'', R F' H' O'' u' ∧ O''.Perm (Oj' ++ O')

theorem perm_mid {α : Type} {A B C E : List α} (h : B.Perm (C ++ E)) : (A ++ B).Perm (C ++ (A ++ E)) :=
  (h.append_left A).trans (by rw [← List.append_assoc, ← List.append_assoc]; exact (List.perm_append_comm).append_right E)

theorem OwF.focus {F H : Hp} {f : Str} : ∀ {fs : List (Str × T)} {vs : List (Str × V)} {O : List Addr} {t : T}, OwF F H O vs fs → fs.lookup f = some t →
    ∃ w, Hung F H O w t (fun F' H' O'' u' => OwF F' H' O'' vs (repF f u' fs))
  | [], _, _, _, _, e => nomatch e
  | (n, t0) :: fs, _, _, t, .cons (O1 := O1) (O2 := O2) h r, e => by
    rw [List.lookup_cons] at e
    cases hb : f == n with
    | true =>
      rw [hb] at e
      cases e
      refine ⟨_, O1, O2, h, List.Perm.refl _, fun F' H' Oj' u' s k h' => ⟨Oj' ++ O2, ?_, List.Perm.refl _⟩⟩
      show OwF _ _ _ _ (repF f u' ((n, t0) :: fs))
      rw [repF_hit hb]
      exact .cons h' (r.stay s k)
    | false =>
      rw [hb] at e
      obtain ⟨w, Oj, O', h1, h2, h3⟩ := OwF.focus r e
      refine ⟨w, Oj, O1 ++ O', h1, perm_mid h2, fun F' H' Oj' u' s k h' => ?_⟩
      obtain ⟨O'', q1, q2⟩ := h3 F' H' Oj' u' s (fun a ha => k a (List.mem_append_right _ ha)) h'
      refine ⟨O1 ++ O'', ?_, perm_mid q2⟩
      show OwF _ _ _ _ (repF f u' ((n, t0) :: fs))
      rw [repF_miss hb]
      exact .cons (h.stay s fun a ha => k a (List.mem_append_left _ ha)) q1

theorem Ow.focus {F H : Hp} : ∀ {p : List Str} {t u : T} {O : List Addr} {v : V}, Ow F H O v t → getT p t = some u →
    ∃ w, Hung F H O w u (fun F' H' O'' u' => Ow F' H' O'' v (setT p u' t)) ∧ (p = [] → w = v)
  | [], t, u, O, v, h, e => by
    cases e
    exact ⟨v, ⟨O, [], h, by rw [List.append_nil], fun F' H' Oj' u' _ _ h' => ⟨Oj', h', by rw [List.append_nil]⟩⟩, fun _ => rfl⟩
  | f :: p, t, u, O, v, h, e => by
    cases t with
    | ins a C fs =>
      cases h with
      | ins h1 h2 r =>
        rename_i dx vs Of
        unfold getT at e
        cases hl : fs.lookup f with
        | none => rw [hl] at e; cases e
        | some t1 =>
          rw [hl] at e
          obtain ⟨w1, Oj1, O1', g1, g2, g3⟩ := OwF.focus r hl
          obtain ⟨w, ⟨Oj, O', k1, k2, k3⟩, _⟩ := Ow.focus (p := p) g1 e
          refine ⟨w, ⟨Oj, a :: dx :: (O' ++ O1'), k1, ?_, fun F' H' Oj' u' s k h' => ?_⟩, fun z => nomatch z⟩
          · have e1 : Of.Perm (Oj ++ (O' ++ O1')) := g2.trans (by rw [← List.append_assoc]; exact k2.append_right O1')
            exact perm_mid (A := [a, dx]) e1
          · obtain ⟨O2, q1, q2⟩ := k3 F' H' Oj' u' s (fun b hb => k b (List.mem_cons_of_mem _ (List.mem_cons_of_mem _ (List.mem_append_left _ hb)))) h'
            obtain ⟨O3, q3, q4⟩ := g3 F' H' O2 _ s (fun b hb => k b (List.mem_cons_of_mem _ (List.mem_cons_of_mem _ (List.mem_append_right _ hb)))) q1
            refine ⟨a :: dx :: O3, ?_, ?_⟩
            · unfold setT
              rw [hl]
              exact .ins ((k _ List.mem_cons_self).trans h1) ((k _ (List.mem_cons_of_mem _ List.mem_cons_self)).trans h2) q3
            · have e1 : O3.Perm (Oj' ++ (O' ++ O1')) := q4.trans (by rw [← List.append_assoc]; exact q2.append_right O1')
              exact perm_mid (A := [a, dx]) e1
    | va d => cases e
    | lst a ds => cases e
    | dic a ds => cases e
    | hole a => cases e
    | ob a φ => cases e

theorem OwE.focusI {F H : Hp} : ∀ {env : Env} {σ : L2.St} {O : List Addr} {i : Nat} {t : T}, OwE F H O σ env → env[i]? = some (some t) →
    ∃ w, σ[i]? = some (some w) ∧ Hung F H O w t (fun F' H' O'' u' => OwE F' H' O'' σ (env.set i (some u')))
  | _, _, _, _, _, .nil, e => nomatch e
  | _, _, _, 0, t, .un r, e => by cases e
  | _, _, _, i + 1, t, .un r, e => by
    obtain ⟨w, g, Oj, O', h1, h2, h3⟩ := OwE.focusI r (i := i) e
    refine ⟨w, g, Oj, O', h1, h2, fun F' H' Oj' u' s k h' => ?_⟩
    obtain ⟨O'', q1, q2⟩ := h3 F' H' Oj' u' s k h'
    exact ⟨O'', .un q1, q2⟩
  | _, _, _, 0, t, .so (O1 := O1) (O2 := O2) h r, e => by
    cases e
    refine ⟨_, rfl, O1, O2, h, List.Perm.refl _, fun F' H' Oj' u' s k h' => ⟨Oj' ++ O2, .so h' (r.stay s k), List.Perm.refl _⟩⟩
  | _, _, _, i + 1, t, .so (O1 := O1) (O2 := O2) h r, e => by
    obtain ⟨w, g, Oj, O', h1, h2, h3⟩ := OwE.focusI r (i := i) e
    refine ⟨w, g, Oj, O1 ++ O', h1, perm_mid h2, fun F' H' Oj' u' s k h' => ?_⟩
    obtain ⟨O'', q1, q2⟩ := h3 F' H' Oj' u' s (fun a ha => k a (List.mem_append_right _ ha)) h'
    exact ⟨O1 ++ O'', .so (h.stay s fun a ha => k a (List.mem_append_left _ ha)) q1, perm_mid q2⟩

theorem OwE.focus {F H : Hp} {env : Env} {σ : L2.St} {O : List Addr} {i : Nat} {p : List Str} {u : T} (h : OwE F H O σ env) (e : getP i p env = some u) :
    ∃ w, Hung F H O w u (fun F' H' O'' u' => OwE F' H' O'' σ (setP i p u' env)) ∧ (p = [] → σ[i]? = some (some w)) := by
  unfold getP at e
  cases hi : env[i]? with
  | none => rw [hi] at e; cases e
  | some o =>
    cases o with
    | none => rw [hi] at e; cases e
    | some t =>
      rw [hi] at e
      obtain ⟨w0, g0, Oj0, O0', h1, h2, h3⟩ := OwE.focusI h hi
      obtain ⟨w, ⟨Oj, O', k1, k2, k3⟩, k4⟩ := h1.focus e
      refine ⟨w, ⟨Oj, O' ++ O0', k1, h2.trans (by rw [← List.append_assoc]; exact k2.append_right O0'), fun F' H' Oj' u' s k h' => ?_⟩, fun z => by rw [k4 z]; exact g0⟩
      obtain ⟨O2, q1, q2⟩ := k3 F' H' Oj' u' s (fun b hb => k b (List.mem_append_left _ hb)) h'
      obtain ⟨O3, q3, q4⟩ := h3 F' H' O2 _ s (fun b hb => k b (List.mem_append_right _ hb)) q1
      refine ⟨O3, ?_, q4.trans (by rw [← List.append_assoc]; exact q2.append_right O0')⟩
      show OwE F' H' O3 σ (setP i p u' env)
      rw [setP_eq hi]
      exact q3

/-! ### the state -/
/-- what a step leaves -/
structure Frm (H0 F0 : Hp) (O0 : List Addr) (H F : Hp) (O : List Addr) : Prop where
  fz : Same F0 F
  out : ∀ a o, H0 a = some o → a ∉ O0 → H a = some o
  al : ∀ a, H0 a ≠ none → H a ≠ none
  newF : ∀ a, F a ≠ none → F0 a ≠ none ∨ H0 a = none ∨ a ∈ O0
  newO : ∀ a ∈ O, a ∈ O0 ∨ H0 a = none
theorem Frm.refl (H F : Hp) (O : List Addr) : Frm H F O H F O := ⟨Same.refl _, fun _ _ h _ => h, fun _ h => h, fun _ h => .inl h, fun _ h => .inl h⟩
theorem Frm.trans {H0 F0 H1 F1 H2 F2 : Hp} {O0 O1 O2 : List Addr} (a : Frm H0 F0 O0 H1 F1 O1) (b : Frm H1 F1 O1 H2 F2 O2) : Frm H0 F0 O0 H2 F2 O2 where
  fz := a.fz.trans b.fz
  out := fun c o h n => b.out c o (a.out c o h n) fun z => (a.newO c z).elim n fun q => by rw [q] at h; cases h
  al := fun c h => b.al c (a.al c h)
  newF := fun c h => by
    rcases b.newF c h with z | z | z
    · exact a.newF c z
    · refine .inr (.inl ?_)
      cases q : H0 c with
      | none => rfl
      | some o => exact absurd z (a.al c (by rw [q]; exact fun z => nomatch z))
    · exact (a.newO c z).elim (fun q => .inr (.inr q)) fun q => .inr (.inl q)
  newO := fun c h => by
    rcases b.newO c h with z | z
    · exact a.newO c z
    · refine .inr ?_
      cases q : H0 c with
      | none => rfl
      | some o => exact absurd z (a.al c (by rw [q]; exact fun z => nomatch z))
/-- only the list of the held objects is written otherwise -/
theorem Frm.perm {H0 F0 H F : Hp} {O0 O0' O O' : List Addr} (a : Frm H0 F0 O0 H F O) (h0 : ∀ b, b ∈ O0 ↔ b ∈ O0') (h : ∀ b ∈ O', b ∈ O) : Frm H0 F0 O0' H F O' :=
  ⟨a.fz, fun c o e n => a.out c o e fun z => n ((h0 c).mp z), a.al, fun c e => (a.newF c e).imp_right (·.imp_right (h0 c).mp), fun c e => (a.newO c (h c e)).imp_left (h0 c).mp⟩
/-- a step of a part, the other held objects aside -/
theorem Frm.frame {H0 F0 H F : Hp} {O0 O R : List Addr} (a : Frm H0 F0 O0 H F O) : Frm H0 F0 (O0 ++ R) H F (O ++ R) where
  fz := a.fz
  out := fun c o e n => a.out c o e fun z => n (List.mem_append_left _ z)
  al := a.al
  newF := fun c e => (a.newF c e).imp_right (·.imp_right (List.mem_append_left _))
  newO := fun c e => (List.mem_append.mp e).elim (fun z => (a.newO c z).imp_left (List.mem_append_left _)) fun z => .inl (List.mem_append_right _ z)
/-- the state at a def's entry -/
structure Zb where
  H : Hp
  F : Hp
  O : List Addr
/-- F never changes; O are the objects that are held by one name alone; Z: the entry -/
structure Bas (Z : Zb) (F H : Hp) (O : List Addr) : Prop where
  sub : Same F H
  nd : O.Nodup
  dis : ∀ a ∈ O, F a = none
  abs : Frm Z.H Z.F Z.O H F O
/-- the other held objects stand as they were -/
theorem Frm.rest {H0 F0 H F : Hp} {O0 O R : List Addr} (a : Frm H0 F0 O0 H F O) (nd : (O0 ++ R).Nodup) (ex : ∀ b ∈ R, H0 b ≠ none) : ∀ b ∈ R, H b = H0 b := fun b hb => by
  cases q : H0 b with
  | none => exact absurd q (ex b hb)
  | some o => exact a.out b o q fun z => (List.nodup_append.mp nd).2.2 b z b hb rfl
theorem Bas.frame {Z Z' : Zb} {H0 F0 H F : Hp} {O0 O R : List Addr} (a : Frm H0 F0 O0 H F O) (b0 : Bas Z F0 H0 (O0 ++ R)) (b : Bas Z' F H O) (ex : ∀ c ∈ R, H0 c ≠ none) : Bas Z F H (O ++ R) := by
  refine ⟨b.sub, List.nodup_append.mpr ⟨b.nd, (List.nodup_append.mp b0.nd).2.1, fun x hx y hy e => ?_⟩, fun c hc => ?_, b0.abs.trans a.frame⟩
  · subst e
    rcases a.newO x hx with z | z
    · exact (List.nodup_append.mp b0.nd).2.2 x z x hy rfl
    · exact ex x hy z
  · rcases List.mem_append.mp hc with z | z
    · exact b.dis c z
    · cases q : F c with
      | none => rfl
      | some o =>
        rcases a.newF c (by rw [q]; exact fun z => nomatch z) with r | r | r
        · exact absurd (b0.dis c (List.mem_append_right _ z)) r
        · exact absurd r (ex c z)
        · exact absurd rfl ((List.nodup_append.mp b0.nd).2.2 c r c z)
theorem Bas.perm {Z : Zb} {F H : Hp} {O O' : List Addr} (b : Bas Z F H O) (p : O.Perm O') : Bas Z F H O' := ⟨b.sub, p.nodup b.nd, fun a ha => b.dis a (p.mem_iff.mpr ha), b.abs.perm (fun _ => Iff.rfl) fun c hc => p.mem_iff.mpr hc⟩
theorem Bas.left {Z : Zb} {F H : Hp} {O R : List Addr} (b : Bas Z F H (O ++ R)) : Bas Z F H O := ⟨b.sub, (List.nodup_append.mp b.nd).1, fun a ha => b.dis a (List.mem_append_left _ ha), b.abs.perm (fun _ => Iff.rfl) fun c hc => List.mem_append_left _ hc⟩
theorem Bas.right {Z : Zb} {F H : Hp} {O R : List Addr} (b : Bas Z F H (O ++ R)) : Bas Z F H R := ⟨b.sub, (List.nodup_append.mp b.nd).2.1, fun a ha => b.dis a (List.mem_append_right _ ha), b.abs.perm (fun _ => Iff.rfl) fun c hc => List.mem_append_right _ hc⟩
theorem Bas.entry {F H : Hp} {O : List Addr} {Z : Zb} (b : Bas Z F H O) : Bas ⟨H, F, O⟩ F H O := ⟨b.sub, b.nd, b.dis, Frm.refl _ _ _⟩
end QL

/-! QB: what an expression gives, over data: WE (a result), WA (an argument), WAs, WT (a test); WS, WSs (statements). -/
namespace QL
open PySem PySem.Spec PyProof.Rows L2

/-- a result: a thing of its own, or what stands at a place of a name (an object that this name holds) -/
inductive R
  | t (t : T)
  | bor (a : Addr) (i : Nat) (p : List Str)
/-- an argument -/
inductive A
  | va (d : D)
  | bor (a : Addr) (i : Nat) (p : List Str)

def frzT : T → Option D
  | .va d => some d
  | .lst _ ds => some (.list ds)
  | .dic _ kvs => some (.dict (kvs.map fun p => (kD p.1, p.2)))
  | _ => none
def toA (r : R) (k : A → Prop) : Prop := match r with
  | .bor a i p => k (.bor a i p)
  | .t t => match frzT t with
    | some d => k (.va d)
    | none => False

def StR (F H : Hp) (O : List Addr) (σ : L2.St) (env : Env) (v : V) : R → Prop
  | .t t => ∃ O1 O2, O = O1 ++ O2 ∧ OwE F H O1 σ env ∧ Ow F H O2 v t
  | .bor a _ _ => OwE F H O σ env ∧ v = .ref a
def StA (F : Hp) (v : V) : A → Prop
  | .va d => Rp F v d
  | .bor a _ _ => v = .ref a
theorem StA.mono {F F' : Hp} (s : Same F F') {v : V} {a : A} (h : StA F v a) : StA F' v a := by
  cases a with
  | va d => exact Rp.mono s h
  | bor a i p => exact h
inductive StAs (F : Hp) : List V → List A → Prop
  | nil : StAs F [] []
  | cons {v : V} {vs : List V} {a : A} {as : List A} : StA F v a → StAs F vs as → StAs F (v :: vs) (a :: as)
theorem StAs.mono {F F' : Hp} (s : Same F F') : ∀ {v : List V} {a : List A}, StAs F v a → StAs F' v a
  | _, _, .nil => .nil
  | _, _, .cons h r => .cons (h.mono s) (StAs.mono s r)

/-! ### freezing -/
def frzF (F H : Hp) (O : List Addr) : Hp := fun a => if a ∈ O then H a else F a
theorem frzF_in {F H : Hp} {O : List Addr} {a : Addr} (h : a ∈ O) : frzF F H O a = H a := by unfold frzF; rw [if_pos h]
theorem frzF_out {F H : Hp} {O : List Addr} {a : Addr} (h : a ∉ O) : frzF F H O a = F a := by unfold frzF; rw [if_neg h]
theorem frzF_from {F H : Hp} {O : List Addr} (d : ∀ a ∈ O, F a = none) : Same F (frzF F H O) := fun b o e => by
  by_cases h : b ∈ O
  · rw [d b h] at e; cases e
  · rw [frzF_out h]; exact e
theorem frzF_to {F H : Hp} {O : List Addr} (s : Same F H) : Same (frzF F H O) H := fun b o e => by
  by_cases h : b ∈ O
  · rw [frzF_in h] at e; exact e
  · rw [frzF_out h] at e; exact s b o e
theorem RpT.rpk {F : Hp} : ∀ {vs : List (Key × V)} {ds : List (Key × D)}, RpT F vs ds → RpK F vs (ds.map fun p => (kD p.1, p.2))
  | _, _, .nil => .nil
  | _, _, .cons h r => .cons h r.rpk
theorem Ow.frz {F H F' : Hp} {O : List Addr} {v : V} {t : T} {d : D} (h : Ow F H O v t) (s : Same F F') (k : ∀ a ∈ O, F' a = H a) (f : frzT t = some d) : Rp F' v d := by
  cases h with
  | va r => cases f; exact r.mono s
  | lst h r => cases f; exact .lst ((k _ (List.mem_singleton.mpr rfl)).trans h) (r.mono s)
  | dic h r => cases f; exact .dic (.inl ((k _ (List.mem_singleton.mpr rfl)).trans h)) (r.rpk.mono s)
  | ins h1 h2 r => cases f
  | hole => cases f
  | ob h st => cases f
/-- a part of what is held is held no more: it never changes from now on -/
theorem Bas.freeze {Z : Zb} {F H : Hp} {O1 O2 : List Addr} (b : Bas Z F H (O1 ++ O2)) : Bas Z (frzF F H O2) H O1 ∧ Same F (frzF F H O2) ∧ (∀ a ∈ O2, frzF F H O2 a = H a) ∧ Frm H F (O1 ++ O2) H (frzF F H O2) O1 := by
  have s : Same F (frzF F H O2) := frzF_from b.right.dis
  have fr : Frm H F (O1 ++ O2) H (frzF F H O2) O1 := ⟨s, fun _ _ h _ => h, fun _ h => h, fun a h => by
    by_cases q : a ∈ O2
    · exact .inr (.inr (List.mem_append_right _ q))
    · rw [frzF_out q] at h
      exact .inl h, fun a ha => .inl (List.mem_append_left _ ha)⟩
  refine ⟨⟨frzF_to b.sub, b.left.nd, fun a ha => ?_, b.abs.trans fr⟩, s, fun a ha => frzF_in ha, fr⟩
  rw [frzF_out fun z => (List.nodup_append.mp b.nd).2.2 a ha a z rfl]
  exact b.left.dis a ha

/-! ### expressions -/
def Post (Z : Zb) (σ : L2.St) (H0 F0 : Hp) (O0 : List Addr) (P : R → Env → Prop) : VK := fun v H => ∃ F O r env, Bas Z F H O ∧ StR F H O σ env v r ∧ Frm H0 F0 O0 H F O ∧ P r env
def PostA (Z : Zb) (σ : L2.St) (H0 F0 : Hp) (O0 : List Addr) (P : A → Env → Prop) : VK := fun v H => ∃ F O a env, Bas Z F H O ∧ OwE F H O σ env ∧ StA F v a ∧ Frm H0 F0 O0 H F O ∧ P a env
def PostAs (Z : Zb) (σ : L2.St) (H0 F0 : Hp) (O0 : List Addr) (P : List A → Env → Prop) : List V → Hp → Prop := fun vs H => ∃ F O as env, Bas Z F H O ∧ OwE F H O σ env ∧ StAs F vs as ∧ Frm H0 F0 O0 H F O ∧ P as env
def PostT (Z : Zb) (σ : L2.St) (H0 F0 : Hp) (O0 : List Addr) (P : Bool → Env → Prop) : Bool → Hp → Prop := fun b H => ∃ F O env, Bas Z F H O ∧ OwE F H O σ env ∧ Frm H0 F0 O0 H F O ∧ P b env

def WE (Z : Zb) (X : Cx) (e : Expr) (env : Env) (P : R → Env → Prop) : Prop :=
  ∀ (pins : List (Addr × Obj)) (s : Shared) (σ : L2.St) (H F : Hp) (O : List Addr), Inv X pins σ H s → Bas Z F H O → OwE F H O σ env →
    wpAny (model X.prog X.w) X.A (eval e X.env) (EP X pins σ (Post Z σ H F O P)) X.xe s
def WA (Z : Zb) (X : Cx) (e : Expr) (env : Env) (P : A → Env → Prop) : Prop := WE Z X e env fun r env' => toA r fun a => P a env'
def WT (Z : Zb) (X : Cx) (e : Expr) (env : Env) (P : Bool → Env → Prop) : Prop :=
  ∀ (pins : List (Addr × Obj)) (s : Shared) (σ : L2.St) (H F : Hp) (O : List Addr), Inv X pins σ H s → Bas Z F H O → OwE F H O σ env →
    wpAny (model X.prog X.w) X.A (isTrue e X.env (eval e X.env)) (TP X pins σ (PostT Z σ H F O P)) X.xe s
/-- a test, whatever its value is taken from -/
def WW (Z : Zb) (X : Cx) (e : Expr) (env : Env) (P : Bool → Env → Prop) : Prop :=
  ∀ (whole : Sem Value) (pins : List (Addr × Obj)) (s : Shared) (σ : L2.St) (H F : Hp) (O : List Addr), Inv X pins σ H s → Bas Z F H O → OwE F H O σ env →
    wpAny (model X.prog X.w) X.A (isTrue e X.env whole) (TP X pins σ (PostT Z σ H F O P)) X.xe s
theorem WW.t {Z : Zb} {X : Cx} {e : Expr} {env : Env} {P : Bool → Env → Prop} (h : WW Z X e env P) : WT Z X e env P := h _

section
variable {Z : Zb} {X : Cx} {e a b : Expr} {env : Env} {pins : List (Addr × Obj)} {s : Shared} {σ : L2.St} {H F : Hp} {O : List Addr}
theorem EP.imp {Q Q' : VK} (h : ∀ v H', Q v H' → Q' v H') : ∀ u s', EP X pins σ Q u s' → EP X pins σ Q' u s' := fun _ _ ⟨v, H', I, r, q⟩ => ⟨v, H', I, r, h v H' q⟩
theorem Post.toA {H0 F0 : Hp} {O0 : List Addr} {P : A → Env → Prop} {v : V} (h : Post Z σ H0 F0 O0 (fun r env' => QL.toA r fun a => P a env') v H) : PostA Z σ H0 F0 O0 P v H := by
  obtain ⟨F, O, r, env, b, st, fr, p⟩ := h
  cases r with
  | bor a i pp => exact ⟨F, O, .bor a i pp, env, b, st.1, st.2, fr, p⟩
  | t t =>
    obtain ⟨O1, O2, rfl, e, o⟩ := st
    cases hf : frzT t with
    | none => unfold QL.toA at p; simp only [hf] at p
    | some d =>
      unfold QL.toA at p
      simp only [hf] at p
      obtain ⟨b', s, k, fr'⟩ := b.freeze
      exact ⟨_, O1, .va d, env, b', e.stay s fun _ _ => rfl, o.frz s k hf, fr.trans fr', p⟩
theorem Post.imp {H0 F0 : Hp} {O0 : List Addr} {P P' : R → Env → Prop} (hp : ∀ r env, P r env → P' r env) {v : V} (h : Post Z σ H0 F0 O0 P v H) : Post Z σ H0 F0 O0 P' v H := by
  obtain ⟨F, O, r, env, b, st, fr, p⟩ := h
  exact ⟨F, O, r, env, b, st, fr, hp _ _ p⟩
theorem Post.from {H0 F0 H1 F1 : Hp} {O0 O1 : List Addr} {P : R → Env → Prop} (fr : Frm H0 F0 O0 H1 F1 O1) {v : V} (h : Post Z σ H1 F1 O1 P v H) : Post Z σ H0 F0 O0 P v H := by
  obtain ⟨F, O, r, env, b, st, fr', p⟩ := h
  exact ⟨F, O, r, env, b, st, fr.trans fr', p⟩
theorem PostA.from {H0 F0 H1 F1 : Hp} {O0 O1 : List Addr} {P : A → Env → Prop} (fr : Frm H0 F0 O0 H1 F1 O1) {v : V} (h : PostA Z σ H1 F1 O1 P v H) : PostA Z σ H0 F0 O0 P v H := by
  obtain ⟨F, O, r, env, b, e, st, fr', p⟩ := h
  exact ⟨F, O, r, env, b, e, st, fr.trans fr', p⟩
theorem PostT.from {H0 F0 H1 F1 : Hp} {O0 O1 : List Addr} {P : Bool → Env → Prop} (fr : Frm H0 F0 O0 H1 F1 O1) {v : Bool} (h : PostT Z σ H1 F1 O1 P v H) : PostT Z σ H0 F0 O0 P v H := by
  obtain ⟨F, O, r, b, e, fr', p⟩ := h
  exact ⟨F, O, r, b, e, fr.trans fr', p⟩
theorem WE.imp {P P' : R → Env → Prop} (h : WE Z X e env P) (hp : ∀ r env, P r env → P' r env) : WE Z X e env P' := fun pins s σ H F O I b o => thn (h pins s σ H F O I b o) (EP.imp fun _ _ => Post.imp hp)
theorem WT.imp {P P' : Bool → Env → Prop} (h : WT Z X e env P) (hp : ∀ r env, P r env → P' r env) : WT Z X e env P' := fun pins s σ H F O I b o =>
  thn (h pins s σ H F O I b o) fun _ _ ⟨H', I', F, O, r, b, e, fr, p⟩ => ⟨H', I', F, O, r, b, e, fr, hp _ _ p⟩
theorem WA.run {P : A → Env → Prop} (h : WA Z X e env P) (I : Inv X pins σ H s) (b : Bas Z F H O) (o : OwE F H O σ env) :
    wpAny (model X.prog X.w) X.A (eval e X.env) (EP X pins σ (PostA Z σ H F O P)) X.xe s := thn (h pins s σ H F O I b o) (EP.imp fun _ _ => Post.toA)

/-- readings of the hand layer made of these -/
def tE (Z : Zb) (X : Cx) (e : Expr) : TE := fun σ H Q => ∃ env F O P, Bas Z F H O ∧ OwE F H O σ env ∧ WE Z X e env P ∧ ∀ v H', Post Z σ H F O P v H' → Q v H'
def tA (Z : Zb) (X : Cx) (e : Expr) : TE := fun σ H Q => ∃ env F O P, Bas Z F H O ∧ OwE F H O σ env ∧ WA Z X e env P ∧ ∀ v H', PostA Z σ H F O P v H' → Q v H'
def tT (Z : Zb) (X : Cx) (e : Expr) : TT := fun σ H Q => ∃ env F O P, Bas Z F H O ∧ OwE F H O σ env ∧ WT Z X e env P ∧ ∀ v H', PostT Z σ H F O P v H' → Q v H'
theorem pe_E : PE X e (tE Z X e) := ⟨fun pins s σ H Q I ⟨env, F, O, P, b, o, w, q⟩ => thn (w pins s σ H F O I b o) (EP.imp q)⟩
theorem pe_A : PE X e (tA Z X e) := ⟨fun pins s σ H Q I ⟨env, F, O, P, b, o, w, q⟩ => thn (w.run I b o) (EP.imp q)⟩
theorem pt_T : PT X e (tT Z X e) := ⟨fun pins s σ H Q I ⟨env, F, O, P, b, o, w, q⟩ => thn (w pins s σ H F O I b o) fun _ _ ⟨H', I', p⟩ => ⟨H', I', q _ _ p⟩⟩
/-- from the hand layer -/
theorem we_of {t : TE} {P : R → Env → Prop} (h : PE X e t) (w : ∀ σ H F O, Bas Z F H O → OwE F H O σ env → t σ H (Post Z σ H F O P)) : WE Z X e env P := fun pins s σ H F O I b o => h.run pins s σ H _ I (w σ H F O b o)
theorem wt_of {t : TT} {P : Bool → Env → Prop} (h : PT X e t) (w : ∀ σ H F O, Bas Z F H O → OwE F H O σ env → t σ H (PostT Z σ H F O P)) : WT Z X e env P := fun pins s σ H F O I b o => h.run pins s σ H _ I (w σ H F O b o)

/-! ### arguments -/
def WAs (Z : Zb) (X : Cx) : List Expr → Env → (List A → Env → Prop) → Prop
  | [], env, P => P [] env
  | e :: es, env, P => (starEach (e :: es) X.env = (false, eval e X.env) :: starEach es X.env) ∧ WA Z X e env fun a env1 => WAs Z X es env1 fun as env2 => P (a :: as) env2
def tAs (Z : Zb) (X : Cx) (es : List Expr) : TA := fun σ H Q => ∃ env F O P, Bas Z F H O ∧ OwE F H O σ env ∧ WAs Z X es env P ∧ ∀ v H', PostAs Z σ H F O P v H' → Q v H'
theorem pa_As : ∀ {es : List Expr}, PA X es (tAs Z X es)
  | [] => ⟨fun pos pins s σ H Q I ⟨env, F, O, P, b, o, w, q⟩ => pa_nil.run pos pins s σ H Q I (q [] H ⟨F, O, [], env, b, o, .nil, Frm.refl _ _ _, w⟩)⟩
  | e :: es => ⟨fun pos pins s σ H Q I ⟨env, F, O, P, b, o, w, q⟩ => by
    have hp := pa_cons (X := X) (pe_A (Z := Z) (e := e)) (pa_As (es := es)) w.1
    refine hp.run pos pins s σ H Q I ⟨env, F, O, _, b, o, w.2, ?_⟩
    rintro v1 H1 ⟨F1, O1, a1, env1, b1, o1, st1, fr1, w1⟩
    refine ⟨env1, F1, O1, _, b1, o1, w1, ?_⟩
    rintro vs H2 ⟨F2, O2, as, env2, b2, o2, st2, fr2, w2⟩
    exact q _ _ ⟨F2, O2, a1 :: as, env2, b2, o2, .cons (st1.mono fr2.fz) st2, fr1.trans fr2, w2⟩⟩
/-- the same with named arguments -/
def WKs (Z : Zb) (X : Cx) : List Keyword → Env → (List A → Env → Prop) → Prop
  | [], env, P => P [] env
  | k :: ks, env, P => WA Z X k.value env fun a env1 => WKs Z X ks env1 fun as env2 => P (a :: as) env2
def tKs (Z : Zb) (X : Cx) (es : List Keyword) : TA := fun σ H Q => ∃ env F O P, Bas Z F H O ∧ OwE F H O σ env ∧ WKs Z X es env P ∧ ∀ v H', PostAs Z σ H F O P v H' → Q v H'
theorem pk_Ks : ∀ {es : List Keyword}, PK X es (tKs Z X es)
  | [] => ⟨fun pos pins s σ H Q I ⟨env, F, O, P, b, o, w, q⟩ => pk_nil.run pos pins s σ H Q I (q [] H ⟨F, O, [], env, b, o, .nil, Frm.refl _ _ _, w⟩)⟩
  | ⟨nm, e, kp⟩ :: es => ⟨fun pos pins s σ H Q I ⟨env, F, O, P, b, o, w, q⟩ => by
    have hp := pk_cons (X := X) (nm := nm) (kpos := kp) (pe_A (Z := Z) (e := e)) (pk_Ks (es := es))
    refine hp.run pos pins s σ H Q I ⟨env, F, O, _, b, o, w, ?_⟩
    rintro v1 H1 ⟨F1, O1, a1, env1, b1, o1, st1, fr1, w1⟩
    refine ⟨env1, F1, O1, _, b1, o1, w1, ?_⟩
    rintro vs H2 ⟨F2, O2, as, env2, b2, o2, st2, fr2, w2⟩
    exact q _ _ ⟨F2, O2, a1 :: as, env2, b2, o2, .cons (st1.mono fr2.fz) st2, fr1.trans fr2, w2⟩⟩

/-! ### what an argument is seen as -/
inductive Vw (F H : Hp) : V → D → Prop
  | pure {v : V} {d : D} : Rp F v d → Vw F H v d
  | lst {a : Addr} {xs : List V} {ds : List D} : H a = some (.lst xs) → RpA F xs ds → Vw F H (.ref a) (.list ds)
  | dic {a : Addr} {kvs : List (Key × V)} {ds : List (D × D)} : H a = some (.dK kvs) → RpK F kvs ds → Vw F H (.ref a) (.dict ds)
theorem Vw.rp {v : V} {d : D} (h : Vw F H v d) (s : Same F H) : Rp H v d := by
  cases h with
  | pure r => exact r.mono s
  | lst h r => exact .lst h (r.mono s)
  | dic h r => exact .dic (.inl h) (r.mono s)
def View (a : A) (env : Env) (k : D → Prop) : Prop := match a with
  | .va d => () = () ∧ k d
  | .bor a i p => match getP i p env with
    | some (.lst a' ds) => a' = a ∧ k (.list ds)
    | some (.dic a' kvs) => a' = a ∧ k (.dict (kvs.map fun p => (kD p.1, p.2)))
    | _ => False
theorem View.vw {v : V} {a : A} {k : D → Prop} (h : View a env k) (o : OwE F H O σ env) (st : StA F v a) : ∃ d, Vw F H v d ∧ k d := by
  cases a with
  | va d => exact ⟨d, .pure st, h.2⟩
  | bor a i p =>
    unfold View at h
    simp only at h
    cases hg : getP i p env with
    | none => rw [hg] at h; exact h.elim
    | some u =>
      rw [hg] at h
      obtain ⟨w, ⟨Oj, O', h1, _, _⟩, _⟩ := o.focus hg
      have st : v = .ref a := st
      subst st
      cases h1 with
      | va r => exact h.elim
      | lst h1 r => obtain ⟨rfl, h⟩ := h; exact ⟨_, .lst h1 r, h⟩
      | dic h1 r => obtain ⟨rfl, h⟩ := h; exact ⟨_, .dic h1 r.rpk, h⟩
      | ins h1 h2 r => exact h.elim
      | hole => exact h.elim
      | ob h1 st => exact h.elim

/-! ### something new is made; all that was there stays -/
def NewV (F H : Hp) (k : T → Prop) : VK := fun v H' => ∃ F' O' t, Same F F' ∧ Same H H' ∧ Same F' H' ∧ (∀ a, F' a ≠ none → F a ≠ none ∨ H a = none) ∧ O'.Nodup ∧ (∀ a ∈ O', H a = none ∧ F' a = none) ∧ Ow F' H' O' v t ∧ k t
theorem NewV.val {k : T → Prop} {v : V} {d : D} (b : Same F H) (r : Rp F v d) (h : k (.va d)) : NewV F H k v H :=
  ⟨F, [], _, Same.refl _, Same.refl _, b, fun _ z => .inl z, List.nodup_nil, fun _ z => (nomatch z), .va r, h⟩
theorem same_new {H : Hp} {p : Addr} {o : HO} (h : H p = none) : Same H (upd H p o) := fun b x e => by rw [upd_ne (ne_of_none e h)]; exact e
theorem Same.freeF {F H : Hp} (s : Same F H) {p : Addr} (h : H p = none) : F p = none := s.free h
theorem same_upd2 {F H : Hp} (s : Same F H) {p : Addr} {o : HO} : Same (upd F p o) (upd H p o) := fun b x e => by
  by_cases h : b = p
  · subst h; rw [upd_same] at e ⊢; exact e
  · rw [upd_ne h] at e ⊢; exact s b x e
theorem NewV.lst {k : T → Prop} {p : Addr} {xs : List V} {ds : List D} (b : Same F H) (r : RpA F xs ds) (n : H p = none) (h : k (.lst p ds)) : NewV F H k (.ref p) (upd H p (.lst xs)) := by
  refine ⟨F, [p], .lst p ds, Same.refl _, same_new n, b.trans (same_new n), fun _ z => .inl z, List.nodup_cons.mpr ⟨fun z => (nomatch z), List.nodup_nil⟩, fun a ha => ?_, .lst upd_same r, h⟩
  rw [List.mem_singleton.mp ha]
  exact ⟨n, b.free n⟩
theorem NewV.tup {k : T → Prop} {p : Addr} {xs : List V} {ds : List D} (b : Same F H) (r : RpA F xs ds) (n : H p = none) (h : k (.va (.tuple ds))) : NewV F H k (.ref p) (upd H p (.tup xs)) := by
  have nf : F p = none := b.free n
  refine ⟨upd F p (.tup xs), [], .va (.tuple ds), same_new nf, same_new n, same_upd2 b, fun a z => ?_, List.nodup_nil, fun _ z => (nomatch z), .va (.tup upd_same (r.mono (same_new nf))), h⟩
  by_cases e : a = p
  · subst e; exact .inr n
  · rw [upd_ne e] at z; exact .inl z
theorem NewV.post {k : T → Prop} {v : V} {H' : Hp} {P : R → Env → Prop} (h : NewV F H k v H') (b : Bas Z F H O) (o : OwE F H O σ env) (hp : ∀ t, k t → P (.t t) env) : Post Z σ H F O P v H' := by
  obtain ⟨F', O', t, s1, s2, s3, nf, nd, no, ow, p⟩ := h
  have keep : ∀ a ∈ O, H' a = H a := fun a ha => by
    cases q : H a with
    | none => exact absurd q (o.there a ha)
    | some x => exact s2 a x q
  have fr : Frm H F O H' F' (O ++ O') := ⟨s1, fun a x e _ => s2 a x e, (fun a e => by
      cases q : H a with
      | none => exact absurd q e
      | some x => rw [s2 a x q]; exact fun z => nomatch z), fun a e => (nf a e).imp_right .inl, fun a ha => (List.mem_append.mp ha).imp_right fun z => (no a z).1⟩
  refine ⟨F', O ++ O', .t t, env, ⟨s3, List.nodup_append.mpr ⟨b.nd, nd, fun x hx y hy e => ?_⟩, fun a ha => ?_, b.abs.trans fr⟩, ⟨O, O', rfl, o.stay s1 keep, ow⟩, fr, hp t p⟩
  · subst e; exact o.there x hx (no x hy).1
  · rcases List.mem_append.mp ha with ha | ha
    · cases q : F' a with
      | none => rfl
      | some x =>
        rcases nf a (by rw [q]; exact fun z => nomatch z) with z | z
        · exact absurd (b.dis a ha) z
        · exact absurd z (o.there a ha)
    · exact (no a ha).2
end
end QL

/-! QC: rules of expressions. -/
namespace QL
open PySem PySem.Spec PyProof.Rows L2

/-! ### lists of data -/
section
variable {F H : Hp}
theorem RpA.len : ∀ {vs : List V} {ds : List D}, RpA F vs ds → vs.length = ds.length
  | _, _, .nil => rfl
  | _, _, .cons _ r => congrArg (· + 1) r.len
theorem RpA.app : ∀ {vs us : List V} {ds es : List D}, RpA F vs ds → RpA F us es → RpA F (vs ++ us) (ds ++ es)
  | _, _, _, _, .nil, r => r
  | _, _, _, _, .cons h r, r' => .cons h (r.app r')
theorem RpA.get : ∀ {vs : List V} {ds : List D} {i : Nat} {v : V}, RpA F vs ds → vs[i]? = some v → ∃ d, ds[i]? = some d ∧ Rp F v d
  | _, _, _, _, .nil, e => nomatch e
  | _, _, 0, _, .cons h r, e => by cases e; exact ⟨_, rfl, h⟩
  | _, _, i + 1, _, .cons h r, e => r.get (i := i) e
theorem RpA.get' : ∀ {vs : List V} {ds : List D} {i : Nat} {d : D}, RpA F vs ds → ds[i]? = some d → ∃ v, vs[i]? = some v ∧ Rp F v d
  | _, _, _, _, .nil, e => nomatch e
  | _, _, 0, _, .cons h r, e => by cases e; exact ⟨_, rfl, h⟩
  | _, _, i + 1, _, .cons h r, e => r.get' (i := i) e
theorem RpA.take : ∀ {vs : List V} {ds : List D} (n : Nat), RpA F vs ds → RpA F (vs.take n) (ds.take n)
  | _, _, 0, _ => .nil
  | _, _, _ + 1, .nil => .nil
  | _, _, n + 1, .cons h r => .cons h (r.take n)
theorem RpA.drop : ∀ {vs : List V} {ds : List D} (n : Nat), RpA F vs ds → RpA F (vs.drop n) (ds.drop n)
  | _, _, 0, r => r
  | _, _, _ + 1, .nil => .nil
  | _, _, n + 1, .cons _ r => r.drop n
theorem RpA.set {v : V} {d : D} (h : Rp F v d) : ∀ {vs : List V} {ds : List D} (i : Nat), RpA F vs ds → RpA F (vs.set i v) (ds.set i d)
  | _, _, _, .nil => .nil
  | _, _, 0, .cons _ r => .cons h r
  | _, _, i + 1, .cons q r => .cons q (r.set h i)
theorem RpA.rep {vs : List V} {ds : List D} (r : RpA F vs ds) : ∀ k : Nat, RpA F (List.replicate k vs).flatten (List.replicate k ds).flatten
  | 0 => .nil
  | k + 1 => by rw [List.replicate_succ, List.replicate_succ, List.flatten_cons, List.flatten_cons]; exact r.app (r.rep k)
theorem RpA.rev {vs : List V} {ds : List D} (r : RpA F vs ds) : RpA F vs.reverse ds.reverse := by
  induction vs generalizing ds with
  | nil => cases r; exact .nil
  | cons v vs ih => cases r with
    | cons h r => rw [List.reverse_cons, List.reverse_cons]; exact (ih r).app (.cons h .nil)
theorem RpA.ints : ∀ {ns : List Int} {vs : List V}, RpA F vs (ns.map PyData.int) → vs = ns.map V.int
  | [], _, .nil => rfl
  | n :: ns, _, .cons h r => by cases h; rw [r.ints]; rfl
theorem RpA.of_ints : ∀ (ns : List Int), RpA F (ns.map V.int) (ns.map PyData.int)
  | [] => .nil
  | n :: ns => .cons (.int n) (RpA.of_ints ns)
theorem RpA.bls : ∀ {ns : List Bool} {vs : List V}, RpA F vs (ns.map PyData.bool) → vs = ns.map V.bl
  | [], _, .nil => rfl
  | n :: ns, _, .cons h r => by cases h; rw [r.bls]; rfl
theorem RpA.strs : ∀ {ns : List Str} {vs : List V}, RpA F vs (ns.map PyData.str) → vs = ns.map V.str
  | [], _, .nil => rfl
  | n :: ns, _, .cons h r => by cases h; rw [r.strs]; rfl

theorem Vw.int {v : V} {i : Int} (h : Vw F H v (.int i)) : v = .int i := by cases h with | pure r => cases r; rfl
theorem Vw.str {v : V} {i : Str} (h : Vw F H v (.str i)) : v = .str i := by cases h with | pure r => cases r; rfl
theorem Vw.bl {v : V} {i : Bool} (h : Vw F H v (.bool i)) : v = .bl i := by cases h with | pure r => cases r; rfl
theorem Vw.non {v : V} (h : Vw F H v .none) : v = .non := by cases h with | pure r => cases r; rfl
theorem Vw.tup {v : V} {ds : List D} (h : Vw F H v (.tuple ds)) : ∃ a xs, v = .ref a ∧ F a = some (.tup xs) ∧ RpA F xs ds := by
  cases h with | pure r => cases r with | tup h r => exact ⟨_, _, rfl, h, r⟩
theorem Vw.lst' {v : V} {ds : List D} (h : Vw F H v (.list ds)) (s : Same F H) : ∃ a xs, v = .ref a ∧ H a = some (.lst xs) ∧ RpA F xs ds := by
  cases h with
  | pure r => cases r with | lst h r => exact ⟨_, _, rfl, s _ _ h, r⟩
  | lst h r => exact ⟨_, _, rfl, h, r⟩
end

/-! ### names, constants, displays -/
section
variable {Z : Zb} {X : Cx} {e a b c : Expr} {es : List Expr} {env : Env} {pos : Pos} {P : R → Env → Prop}

def varR (env : Env) (i : Nat) (k : R → Prop) : Prop := match env[i]? with
  | some (some (.va d)) => k (.t (.va d))
  | some (some t) => match t.addr with
    | some a => k (.bor a i [])
    | none => False
  | _ => False
theorem w_var (i : Nat) {x : Str} (h : varR env i fun r => P r env) (hN : X.N[i]? = some x := by rfl) (hv : Vis X.env.scope x := by first | exact Or.inl rfl | exact Or.inr (Or.inl rfl) | exact Or.inr (Or.inr rfl))
    (hd : (x == ("__debug__" : Str)) = false := by decide) (hcd : (x == ("__classdict__" : Str)) = false := by decide) : WE Z X (.Name x pos) env P := we_of (pe_var hN hv hd hcd) fun σ H F O b o => by
  unfold varR at h
  cases hi : env[i]? with
  | none => rw [hi] at h; exact h.elim
  | some q =>
    cases q with
    | none => rw [hi] at h; exact h.elim
    | some t =>
      rw [hi] at h
      obtain ⟨w, hw, Oj, O', h1, h2, h3⟩ := o.focusI hi
      refine ⟨w, hw, ?_⟩
      have owned : ∀ a, t.addr = some a → P (.bor a i []) env → Post Z σ H F O P w H := fun a ha p => ⟨F, O, .bor a i [], env, b, ⟨o, h1.ref ha⟩, Frm.refl _ _ _, p⟩
      cases t with
      | va d =>
        cases h1 with
        | va r => exact ⟨F, O, .t _, env, b, ⟨O, [], (List.append_nil O).symm, o, .va r⟩, Frm.refl _ _ _, h⟩
      | lst a ds => exact owned a rfl h
      | dic a ds => exact owned a rfl h
      | ins a C fs => exact owned a rfl h
      | hole a => exact owned a rfl h
      | ob a φ =>
        cases a with
        | none => exact h.elim
        | some a => exact owned a rfl h
theorem post_val {σ : L2.St} {H F : Hp} {O : List Addr} {v : V} {d : D} (b : Bas Z F H O) (o : OwE F H O σ env) (r : Rp F v d) (h : P (.t (.va d)) env) : Post Z σ H F O P v H :=
  ⟨F, O, .t _, env, b, ⟨O, [], (List.append_nil O).symm, o, .va r⟩, Frm.refl _ _ _, h⟩
theorem w_int {i : Int} {j : Nat} (h : P (.t (.va (.int i))) env) : WE Z X (.Constant (.int i) j pos) env P := we_of pe_int fun σ H F O b o => post_val b o (.int i) h
theorem w_bl {i : Bool} {j : Nat} (h : P (.t (.va (.bool i))) env) : WE Z X (.Constant (.bool i) j pos) env P := we_of pe_bl fun σ H F O b o => post_val b o (.bl i) h
theorem w_str {i : Str} {j : Nat} (h : P (.t (.va (.str i))) env) : WE Z X (.Constant (.str i) j pos) env P := we_of pe_str fun σ H F O b o => post_val b o (.str i) h
theorem w_non {j : Nat} (h : P (.t (.va .none)) env) : WE Z X (.Constant .none j pos) env P := we_of pe_non fun σ H F O b o => post_val b o .non h
/-- a module's constant -/
theorem w_glob {x : Str} {v : V} {u : Value} {d : D} (hm : X.mg x = some u) (r : RelV v u) (q : ∀ F : Hp, Rp F v d) (h : P (.t (.va d)) env) (hg : Gl X x := by rfl) (hd : (x == ("__debug__" : Str)) = false := by decide) : WE Z X (.Name x pos) env P :=
  we_of (pe_glob hg hm r hd) fun σ H F O b o => post_val b o (q F) h

/-- what stands in a display: what a name held is from then on frozen there -/
def absorb : List A → Env → (List D → Env → Prop) → Prop
  | [], env, k => k [] env
  | .va d :: as, env, k => absorb as env fun ds env' => k (d :: ds) env'
  | .bor a i p :: as, env, k => match getP i p env with
    | some t => t.addr = some a ∧ match frzT t with
      | some d => absorb as (setP i p (.va d) env) fun ds env' => k (d :: ds) env'
      | none => False
    | none => False
theorem absorb_ok {Z : Zb} {σ : L2.St} {H : Hp} : ∀ {as : List A} {vs : List V} {F : Hp} {O : List Addr} {env : Env} {k : List D → Env → Prop}, StAs F vs as → Bas Z F H O → OwE F H O σ env → absorb as env k →
    ∃ F' O' ds env', Bas Z F' H O' ∧ OwE F' H O' σ env' ∧ RpA F' vs ds ∧ Frm H F O H F' O' ∧ k ds env'
  | [], _, F, O, env, k, .nil, b, o, h => ⟨F, O, [], env, b, o, .nil, Frm.refl _ _ _, h⟩
  | .va d :: as, _, F, O, env, k, .cons st r, b, o, h => by
    obtain ⟨F', O', ds, env', b', o', r', fr, q⟩ := absorb_ok r b o h
    exact ⟨F', O', d :: ds, env', b', o', .cons (Rp.mono fr.fz st) r', fr, q⟩
  | .bor a i p :: as, _, F, O, env, k, .cons st r, b, o, h => by
    unfold absorb at h
    cases hg : getP i p env with
    | none => rw [hg] at h; exact h.elim
    | some t =>
      rw [hg] at h
      obtain ⟨ha, h⟩ := h
      cases hf : frzT t with
      | none => rw [hf] at h; exact h.elim
      | some d =>
        rw [hf] at h
        obtain ⟨w, ⟨Oj, O', h1, h2, h3⟩, _⟩ := o.focus hg
        have hw := h1.ref ha
        have st : _ = V.ref a := st
        subst st hw
        have b2 : Bas Z F H (O' ++ Oj) := b.perm (h2.trans List.perm_append_comm)
        obtain ⟨b3, s3, k3, fr3⟩ := b2.freeze
        have rp := h1.frz s3 k3 hf
        obtain ⟨O'', q1, q2⟩ := h3 _ H [] (.va d) s3 (fun _ _ => rfl) (.va rp)
        have b4 : Bas Z (frzF F H Oj) H O'' := b3.perm q2.symm
        have fr4 : Frm H F O H (frzF F H Oj) O'' := fr3.perm (fun c => (h2.trans List.perm_append_comm).symm.mem_iff) fun c hc => q2.mem_iff.mp hc
        obtain ⟨F5, O5, ds, env5, b5, o5, r5, fr5, q5⟩ := absorb_ok (r.mono s3) b4 q1 h
        exact ⟨F5, O5, d :: ds, env5, b5, o5, .cons (rp.mono fr5.fz) r5, fr4.trans fr5, q5⟩
theorem w_tup {x1 : _} (h : WAs Z X es env fun as env1 => absorb as env1 fun ds env2 => ds.length ≤ sizeLine ∧ P (.t (.va (.tuple ds))) env2) : WE Z X (.Tuple es x1 pos) env P :=
  we_of (pe_tup pa_As) fun σ H F O b o => ⟨env, F, O, _, b, o, h, fun vs H1 ⟨F1, O1, as, env1, b1, o1, st1, fr1, h1⟩ => by
    obtain ⟨F2, O2, ds, env2, b2, o2, r2, fr2, z, q⟩ := absorb_ok st1 b1 o1 h1
    refine ⟨by rw [r2.len]; exact z, fun p hp => ?_⟩
    exact ((NewV.tup b2.sub r2 hp (k := fun t => t = .va (.tuple ds)) rfl).post b2 o2 (fun t e => by subst e; exact q)).from (fr1.trans fr2)⟩
theorem w_lst (h : WAs Z X es env fun as env1 => absorb as env1 fun ds env2 => ds.length ≤ sizeLine ∧ ∀ p, P (.t (.lst p ds)) env2) : WE Z X (.List es pos) env P :=
  we_of (pe_lst pa_As) fun σ H F O b o => ⟨env, F, O, _, b, o, h, fun vs H1 ⟨F1, O1, as, env1, b1, o1, st1, fr1, h1⟩ => by
    obtain ⟨F2, O2, ds, env2, b2, o2, r2, fr2, z, q⟩ := absorb_ok st1 b1 o1 h1
    refine ⟨by rw [r2.len]; exact z, fun p hp => ?_⟩
    exact ((NewV.lst b2.sub r2 hp (k := fun t => t = .lst p ds) rfl).post b2 o2 (fun t e => by subst e; exact q p)).from (fr1.trans fr2)⟩

/-! ### operators -/
def DOp (X : Cx) (f : Value → Value → Sem Value) (g : D → D → (T → Prop) → Prop) : Prop :=
  ∀ (pins : List (Addr × Obj)) (s : Shared) (σ : L2.St) (H F : Hp) (v1 v2 : V) (u1 u2 : Value) (d1 d2 : D) (k : T → Prop), Inv X pins σ H s → Same F H → Vw F H v1 d1 → Vw F H v2 d2 → RelV v1 u1 → RelV v2 u2 → g d1 d2 k →
    wpAny (model X.prog X.w) X.A (f u1 u2) (EP X pins σ (NewV F H k)) X.xe s
def rD (g : D → D → (T → Prop) → Prop) : R2 := fun x y H Q => ∃ F d1 d2 k, Same F H ∧ Vw F H x d1 ∧ Vw F H y d2 ∧ g d1 d2 k ∧ ∀ v H', NewV F H k v H' → Q v H'
theorem DOp.r {f : Value → Value → Sem Value} {g : D → D → (T → Prop) → Prop} (h : DOp X f g) : OpR X f (rD g) := fun pins s σ H x y v u Q I rx ry ⟨F, d1, d2, k, sF, h1, h2, hg, q⟩ =>
  thn (h pins s σ H F x y v u d1 d2 k I sF h1 h2 rx ry hg) (EP.imp q)
/-- two arguments, then an operation by values -/
def W2 (Z : Zb) (X : Cx) (a b : Expr) (env : Env) (k : D → D → Env → Prop) : Prop := WA Z X a env fun a1 e1 => WA Z X b e1 fun a2 e2 => View a1 e2 fun d1 => View a2 e2 fun d2 => k d1 d2 e2
theorem w2_run {g : D → D → (T → Prop) → Prop} {σ : L2.St} {H F : Hp} {O : List Addr} (b0 : Bas Z F H O) (o : OwE F H O σ env) (h : W2 Z X a b env fun d1 d2 e2 => g d1 d2 fun t => P (.t t) e2) :
    tOp (rD g) (tA Z X a) (tA Z X b) σ H (Post Z σ H F O P) := by
  refine ⟨env, F, O, _, b0, o, h, fun v1 H1 ⟨F1, O1, a1, env1, b1, o1, st1, fr1, h1⟩ => ?_⟩
  refine ⟨env1, F1, O1, _, b1, o1, h1, fun v2 H2 ⟨F2, O2, a2, env2, b2, o2, st2, fr2, h2⟩ => ?_⟩
  obtain ⟨d1, w1, h3⟩ := View.vw h2 o2 (st1.mono fr2.fz)
  obtain ⟨d2, w2, h4⟩ := View.vw h3 o2 st2
  exact ⟨F2, d1, d2, _, b2.sub, w1, w2, h4, fun v H' n => (n.post b2 o2 fun t q => q).from (fr1.trans fr2)⟩
theorem w_bin {op : Operator} {g : D → D → (T → Prop) → Prop} (ho : DOp X (binaryOp op) g) (h : W2 Z X a b env fun d1 d2 e2 => g d1 d2 fun t => P (.t t) e2) : WE Z X (.BinOp a op b pos) env P :=
  we_of (pe_op ho.r pe_A pe_A) fun σ H F O b0 o => w2_run b0 o h
theorem w_cmp {op : CmpOp} {g : D → D → (T → Prop) → Prop} (ho : DOp X (compareOp op) g) (h : W2 Z X a b env fun d1 d2 e2 => g d1 d2 fun t => P (.t t) e2) (hm : behindInMarks op b = false := by first | exact nomark _ | rfl) :
    WE Z X (.Compare a [op] [b] pos) env P := we_of (pe_cmpR ho.r pe_A pe_A hm) fun σ H F O b0 o => w2_run b0 o h
theorem post_bool {σ : L2.St} {H F0 H0 : Hp} {O0 : List Addr} {K : Bool → Env → Prop} {v : V} (h : Post Z σ H0 F0 O0 (fun r e1 => ∃ k, r = .t (.va (.bool k)) ∧ K k e1) v H) : ∃ k F O env, v = .bl k ∧ Bas Z F H O ∧ OwE F H O σ env ∧ Frm H0 F0 O0 H F O ∧ K k env := by
  obtain ⟨F1, O1, r, env1, b1, st, fr1, k, e1, h1⟩ := h
  subst e1
  obtain ⟨O1', O2, rfl, o1, ow⟩ := st
  cases ow with
  | va r =>
    cases r with
    | bl k =>
      rw [List.append_nil] at b1 fr1
      exact ⟨k, F1, O1', env1, rfl, b1, o1, fr1, h1⟩
theorem wt_cmp {op : CmpOp} {g : D → D → (T → Prop) → Prop} {P : Bool → Env → Prop} (ho : DOp X (compareOp op) g) (h : W2 Z X a b env fun d1 d2 e2 => g d1 d2 fun t => ∃ k, t = .va (.bool k) ∧ P k e2) (hm : behindInMarks op b = false := by first | exact nomark _ | rfl) :
    WT Z X (.Compare a [op] [b] pos) env P := wt_of (pt_cmpR ho.r pe_A pe_A hm) fun σ H F O b0 o => by
  refine ⟨env, F, O, _, b0, o, h, fun v1 H1 ⟨F1, O1, a1, env1, b1, o1, st1, fr1, h1⟩ => ?_⟩
  refine ⟨env1, F1, O1, _, b1, o1, h1, fun v2 H2 ⟨F2, O2, a2, env2, b2, o2, st2, fr2, h2⟩ => ?_⟩
  obtain ⟨d1, w1, h3⟩ := View.vw h2 o2 (st1.mono fr2.fz)
  obtain ⟨d2, w2, h4⟩ := View.vw h3 o2 st2
  refine ⟨F2, d1, d2, _, b2.sub, w1, w2, h4, fun v H' n => ?_⟩
  obtain ⟨k, F3, O3, env3, rfl, b3, o3, fr3, p⟩ := post_bool (K := P) (n.post b2 o2 (P := fun r e1 => ∃ k, r = .t (.va (.bool k)) ∧ P k e1) fun t ⟨k, e, q⟩ => ⟨k, by rw [e], q⟩)
  exact ⟨k, rfl, F3, O3, env3, b3, o3, (fr1.trans fr2).trans fr3, p⟩

/-! #### the operations -/
def intD (C : Int → Int → Prop) (f : Int → Int → Int) (d1 d2 : D) (k : T → Prop) : Prop := match d1, d2 with
  | .int i, .int j => C i j ∧ k (.va (.int (f i j)))
  | _, _ => False
theorem dop_int {f : Value → Value → Sem Value} {C : Int → Int → Prop} {g : Int → Int → Int} (h : OpR X f (rI C fun i j => .int (g i j))) : DOp X f (intD C g) := by
  intro pins s σ H F v1 v2 u1 u2 d1 d2 k I sF w1 w2 r1 r2 hg
  cases d1 with
  | int i =>
    cases d2 with
    | int j =>
      cases w1.int
      cases w2.int
      exact h pins s σ H _ _ u1 u2 _ I r1 r2 ⟨i, j, rfl, rfl, hg.1, NewV.val sF (.int _) hg.2⟩
    | _ => exact hg.elim
  | _ => exact hg.elim
def subD : D → D → (T → Prop) → Prop := fun d1 d2 k => match d1, d2 with
  | .int i, .int j => k (.va (.int (i - j)))
  | _, _ => False
theorem dop_sub : DOp X (binaryOp .Sub) subD := by
  intro pins s σ H F v1 v2 u1 u2 d1 d2 k I sF w1 w2 r1 r2 hg
  cases d1 with
  | int i =>
    cases d2 with
    | int j =>
      cases w1.int
      cases w2.int
      exact op_sub pins s σ H _ _ u1 u2 _ I r1 r2 ⟨i, j, rfl, rfl, NewV.val sF (.int _) hg⟩
    | _ => exact hg.elim
  | _ => exact hg.elim
def addD : D → D → (T → Prop) → Prop := fun d1 d2 k => match d1, d2 with
  | .int i, .int j => k (.va (.int (i + j)))
  | .int i, .bool j => k (.va (.int (i + b2i j)))
  | .str x, .str y => x.length + y.length ≤ sizeLine ∧ k (.va (.str (x ++ y)))
  | .tuple xs, .tuple ys => xs.length + ys.length ≤ sizeLine ∧ k (.va (.tuple (xs ++ ys)))
  | .list xs, .list ys => xs.length + ys.length ≤ sizeLine ∧ ∀ p, k (.lst p (xs ++ ys))
  | _, _ => False
theorem dop_add : DOp X (binaryOp .Add) addD := by
  intro pins s σ H F v1 v2 u1 u2 d1 d2 k I sF w1 w2 r1 r2 hg
  cases d1 with
  | int i =>
    cases d2 with
    | int j =>
      cases w1.int
      cases w2.int
      exact op_add pins s σ H _ _ u1 u2 _ I r1 r2 ⟨i, j, rfl, rfl, NewV.val sF (.int _) hg⟩
    | bool j =>
      cases w1.int
      cases w2.bl
      exact op_add_ib pins s σ H _ _ u1 u2 _ I r1 r2 ⟨i, j, rfl, rfl, NewV.val sF (.int _) hg⟩
    | _ => exact hg.elim
  | str i =>
    cases d2 with
    | str j =>
      cases w1.str
      cases w2.str
      exact op_add_str pins s σ H _ _ u1 u2 _ I r1 r2 ⟨i, j, rfl, rfl, hg.1, NewV.val sF (.str _) hg.2⟩
    | _ => exact hg.elim
  | tuple xs =>
    cases d2 with
    | tuple ys =>
      obtain ⟨a, vs, rfl, h1, q1⟩ := w1.tup
      obtain ⟨b, us, rfl, h2, q2⟩ := w2.tup
      refine op_catA pins s σ H _ _ u1 u2 _ I r1 r2 ⟨a, b, vs, us, rfl, rfl, SqT.of (sF _ _ h1), SqT.of (sF _ _ h2), by rw [q1.len, q2.len]; exact hg.1, fun e => ?_, fun _ e => ?_, fun _ _ p hp => ?_⟩
      · subst e
        cases q1
        exact NewV.val sF (.tup h2 q2) hg.2
      · subst e
        cases q2
        refine NewV.val sF (.tup h1 ?_) hg.2
        rw [List.append_nil]
        exact q1
      · exact NewV.tup sF (q1.app q2) hp hg.2
    | _ => exact hg.elim
  | list xs =>
    cases d2 with
    | list ys =>
      obtain ⟨a, vs, rfl, h1, q1⟩ := w1.lst' sF
      obtain ⟨b, us, rfl, h2, q2⟩ := w2.lst' sF
      exact op_cat pins s σ H _ _ u1 u2 _ I r1 r2 ⟨a, b, vs, us, rfl, rfl, h1, h2, by rw [q1.len, q2.len]; exact hg.1, fun p hp => NewV.lst sF (q1.app q2) hp (hg.2 p)⟩
    | _ => exact hg.elim
  | _ => exact hg.elim
/-- * : one factor below 2^64, or both small enough -/
def CMulQ (i j : Int) : Prop := CMul i j ∨ CMulW i j
theorem CMulQ.ok {i j : Int} (h : CMulQ i j) : IntMulOk i j := h.elim CMul.ok CMulW.ok
theorem cmul_l {i j : Int} (h1 : -18446744073709551616 < i) (h2 : i < 18446744073709551616) : CMulQ i j := .inl (.inl ⟨h1, h2⟩)
theorem cmul_r {i j : Int} (h1 : -18446744073709551616 < j) (h2 : j < 18446744073709551616) : CMulQ i j := .inl (.inr ⟨h1, h2⟩)
def mulD : D → D → (T → Prop) → Prop := fun d1 d2 k => match d1, d2 with
  | .int i, .int j => CMulQ i j ∧ k (.va (.int (i * j)))
  | .list xs, .int n => (-(2 ^ 63) ≤ n ∧ n < 2 ^ 63 ∧ xs.length * n.toNat ≤ sizeLine) ∧ ∀ p, k (.lst p (List.replicate n.toNat xs).flatten)
  | _, _ => False
theorem dop_mul : DOp X (binaryOp .Mult) mulD := by
  intro pins s σ H F v1 v2 u1 u2 d1 d2 k I sF w1 w2 r1 r2 hg
  cases d1 with
  | int i =>
    cases d2 with
    | int j =>
      cases w1.int
      cases w2.int
      exact (opI (C := CMulQ) (g := fun i j => i * j) fun _ _ _ _ _ _ _ hc q => mul_int q hc.ok) pins s σ H _ _ u1 u2 _ I r1 r2 ⟨i, j, rfl, rfl, hg.1, NewV.val sF (.int _) hg.2⟩
    | _ => exact hg.elim
  | list xs =>
    cases d2 with
    | int n =>
      cases w2.int
      obtain ⟨a, vs, rfl, h1, q1⟩ := w1.lst' sF
      exact op_rep pins s σ H _ _ u1 u2 _ I r1 r2 ⟨a, n, vs, rfl, rfl, h1, hg.1.1, hg.1.2.1, by rw [q1.len]; exact hg.1.2.2, fun p hp => NewV.lst sF (q1.rep _) hp (hg.2 p)⟩
    | _ => exact hg.elim
  | _ => exact hg.elim
def CPowQ (i j : Int) : Prop := CPow i j ∨ (0 ≤ j ∧ (Builtin.Int.intBits i : Int) * j ≤ 2 ^ 27)
theorem dop_pow : DOp X (binaryOp .Pow) (intD CPowQ fun i j => i ^ j.toNat) := dop_int (opI fun i j _ _ _ _ _ hc q => hc.elim (fun h => pow_int_small h.1 h.2.1 h.2.2 q) fun h => pow_int h.1 h.2 q)
theorem dop_mod : DOp X (binaryOp .Mod) (intD (fun _ j => 0 < j) fun i j => i % j) := dop_int op_mod
def CDivQ (_ j : Int) : Prop := 0 < j ∧ j < 18446744073709551616
theorem cdivq {i j : Int} (h : CDivQ i j) : CDivW i j := wide_div (b := 64) h.1 (by have := h.1; have := h.2; omega) (by decide) (by decide)
theorem dop_fdiv : DOp X (binaryOp .FloorDiv) (intD CDivQ fun i j => i / j) := dop_int (opI fun i j _ _ _ _ _ hc q => by
  have h1 : (0 : Int) < j := hc.1
  exact floordiv_int (by omega) (by rw [Int.fdiv_eq_ediv_of_nonneg i (by omega)]; exact q) (.inl (PyProof.noPylong_of_log2 (cdivq hc).2)))

/-! #### comparisons -/
def cmpI (f : Int → Int → Bool) : D → D → (T → Prop) → Prop := fun d1 d2 k => match d1, d2 with
  | .int i, .int j => k (.va (.bool (f i j)))
  | _, _ => False
theorem dop_cmpI {op : Value → Value → Sem Value} {f : Int → Int → Bool} (h : OpR X op (rI0 fun i j => .bl (f i j))) : DOp X op (cmpI f) := by
  intro pins s σ H F v1 v2 u1 u2 d1 d2 k I sF w1 w2 r1 r2 hg
  cases d1 with
  | int i =>
    cases d2 with
    | int j =>
      cases w1.int
      cases w2.int
      exact h pins s σ H _ _ u1 u2 _ I r1 r2 ⟨i, j, rfl, rfl, NewV.val sF (.bl _) hg⟩
    | _ => exact hg.elim
  | _ => exact hg.elim
theorem dop_lt : DOp X (compareOp .Lt) (cmpI fun i j => decide (i < j)) := dop_cmpI op_lt
theorem dop_le : DOp X (compareOp .LtE) (cmpI fun i j => decide (i ≤ j)) := dop_cmpI op_le
theorem dop_gt : DOp X (compareOp .Gt) (cmpI fun i j => decide (j < i)) := dop_cmpI op_gt
theorem dop_ge : DOp X (compareOp .GtE) (cmpI fun i j => decide (j ≤ i)) := dop_cmpI op_ge
/-- == of data without dicts -/
def eqD : D → D → (T → Prop) → Prop := fun d1 d2 k => match d1, d2 with
  | .int i, .int j => k (.va (.bool (decide (i = j))))
  | .str i, .str j => k (.va (.bool (decide (i = j))))
  | d1, d2 => SeqAt.shaped d1 = true ∧ SeqAt.shaped d2 = true ∧ k (.va (.bool (PyData.eqv d1 d2)))
def neD : D → D → (T → Prop) → Prop := fun d1 d2 k => match d1, d2 with
  | .int i, .int j => k (.va (.bool (!decide (i = j))))
  | .str i, .str j => k (.va (.bool (!decide (i = j))))
  | d1, d2 => SeqAt.shaped d1 = true ∧ SeqAt.shaped d2 = true ∧ k (.va (.bool (!PyData.eqv d1 d2)))
mutual
theorem Rp.reads {pins : List (Addr × Obj)} {σ : L2.St} {H : Hp} {s : Shared} (I : Inv X pins σ H s) : ∀ {v : V} {d : D} {u : Value}, Rp H v d → RelV v u → d.hasDict = false → ∃ as, Reads s.heap u d as
  | _, _, _, .non, r, _ => by cases r; exact ⟨_, .none⟩
  | _, _, _, .bl b, r, _ => by cases r; exact ⟨_, .bool b⟩
  | _, _, _, .int i, r, _ => by obtain ⟨t, rfl⟩ := r; exact ⟨_, .int i t⟩
  | _, _, _, .str i, r, _ => by obtain ⟨t, rfl⟩ := r; exact ⟨_, .str i t⟩
  | _, _, _, .lst h q, r, hd => by
    cases r
    obtain ⟨its, rv, ⟨o, n, ho, hc, _, hs⟩, _⟩ := I.list (SqL.of h)
    obtain ⟨as, hr⟩ := RpA.reads I q rv (by simpa [PyData.hasDict] using hd)
    exact ⟨_, .list ho hc hs hr⟩
  | _, _, _, .tup h q, r, hd => by
    cases r
    obtain ⟨its, rv, ⟨o, ho, hc, n, hs⟩, _⟩ := I.tuple (SqT.of h)
    obtain ⟨as, hr⟩ := RpA.reads I q rv (by simpa [PyData.hasDict] using hd)
    exact ⟨_, .tuple ho hc hs hr⟩
  | _, _, _, .dic h q, r, hd => by simp [PyData.hasDict] at hd
theorem RpA.reads {pins : List (Addr × Obj)} {σ : L2.St} {H : Hp} {s : Shared} (I : Inv X pins σ H s) : ∀ {vs : List V} {ds : List D} {us : List Value}, RpA H vs ds → Vals vs us → PyData.hasDictAll ds = false → ∃ as, ReadsAll s.heap us ds as
  | _, _, _, .nil, r, _ => by cases r; exact ⟨_, .nil⟩
  | _, _, _, .cons h q, r, hd => by
    cases r with
    | cons r1 r2 =>
      rw [PyData.hasDictAll, Bool.or_eq_false_iff] at hd
      obtain ⟨as, q1⟩ := Rp.reads I h r1 hd.1
      obtain ⟨bs, q2⟩ := RpA.reads I q r2 hd.2
      exact ⟨_, .cons q1 q2⟩
end
theorem shaped_noDict {d : D} (h : SeqAt.shaped d = true) : d.hasDict = false := by
  unfold SeqAt.shaped at h
  rw [Bool.and_eq_true] at h
  exact PyData.hasDict_of_canLay d h.1
theorem eqD_gen {F : Hp} (hu : X.A.units + 64 < cLine) {pins : List (Addr × Obj)} {s : Shared} {σ : L2.St} {H : Hp} {v1 v2 : V} {u1 u2 : Value} {d1 d2 : D} {k : T → Prop} (I : Inv X pins σ H s) (sF : Same F H) (w1 : Vw F H v1 d1) (w2 : Vw F H v2 d2)
    (r1 : RelV v1 u1) (r2 : RelV v2 u2) (h1 : SeqAt.shaped d1 = true) (h2 : SeqAt.shaped d2 = true) (q : k (.va (.bool (PyData.eqv d1 d2)))) : wpAny (model X.prog X.w) X.A (compareOp .Eq u1 u2) (EP X pins σ (NewV F H k)) X.xe s := by
  obtain ⟨as, q1⟩ := (w1.rp sF).reads I r1 (shaped_noDict h1)
  obtain ⟨bs, q2⟩ := (w2.rp sF).reads I r2 (shaped_noDict h2)
  exact SeqAt.compareEq_shaped q1 q2 h1 h2 hu ⟨.bl _, H, I, rfl, NewV.val sF (.bl _) q⟩
theorem neD_gen {F : Hp} (hu : X.A.units + 64 < cLine) {pins : List (Addr × Obj)} {s : Shared} {σ : L2.St} {H : Hp} {v1 v2 : V} {u1 u2 : Value} {d1 d2 : D} {k : T → Prop} (I : Inv X pins σ H s) (sF : Same F H) (w1 : Vw F H v1 d1) (w2 : Vw F H v2 d2)
    (r1 : RelV v1 u1) (r2 : RelV v2 u2) (h1 : SeqAt.shaped d1 = true) (h2 : SeqAt.shaped d2 = true) (q : k (.va (.bool (!PyData.eqv d1 d2)))) : wpAny (model X.prog X.w) X.A (compareOp .NotEq u1 u2) (EP X pins σ (NewV F H k)) X.xe s := by
  obtain ⟨as, q1⟩ := (w1.rp sF).reads I r1 (shaped_noDict h1)
  obtain ⟨bs, q2⟩ := (w2.rp sF).reads I r2 (shaped_noDict h2)
  exact SeqAt.compareNe_shaped q1 q2 h1 h2 hu ⟨.bl _, H, I, rfl, NewV.val sF (.bl _) q⟩
theorem scal_ii {i j : Int} : scal (.int i) (.int j) = true := rfl
theorem scal_ss {i j : Str} : scal (.str i) (.str j) = true := rfl
theorem dop_eq (hu : X.A.units + 64 < cLine) : DOp X (compareOp .Eq) eqD := by
  intro pins s σ H F v1 v2 u1 u2 d1 d2 k I sF w1 w2 r1 r2 hg
  unfold eqD at hg
  split at hg
  · cases w1.int
    cases w2.int
    refine op_eq pins s σ H _ _ u1 u2 _ I r1 r2 ⟨rfl, NewV.val sF (.bl _) ?_⟩
    rw [dec_int, ← Bool.beq_eq_decide_eq] at *
    exact hg
  · cases w1.str
    cases w2.str
    refine op_eq pins s σ H _ _ u1 u2 _ I r1 r2 ⟨rfl, NewV.val sF (.bl _) ?_⟩
    rw [dec_str, ← Bool.beq_eq_decide_eq] at *
    exact hg
  · exact eqD_gen hu I sF w1 w2 r1 r2 hg.1 hg.2.1 hg.2.2
theorem dop_ne (hu : X.A.units + 64 < cLine) : DOp X (compareOp .NotEq) neD := by
  intro pins s σ H F v1 v2 u1 u2 d1 d2 k I sF w1 w2 r1 r2 hg
  unfold neD at hg
  split at hg
  · cases w1.int
    cases w2.int
    refine op_ne pins s σ H _ _ u1 u2 _ I r1 r2 ⟨rfl, NewV.val sF (.bl _) ?_⟩
    rw [dec_int, ← Bool.beq_eq_decide_eq] at *
    exact hg
  · cases w1.str
    cases w2.str
    refine op_ne pins s σ H _ _ u1 u2 _ I r1 r2 ⟨rfl, NewV.val sF (.bl _) ?_⟩
    rw [dec_str, ← Bool.beq_eq_decide_eq] at *
    exact hg
  · exact neD_gen hu I sF w1 w2 r1 r2 hg.1 hg.2.1 hg.2.2
/-- is None, is not None -/
def isN (neg : Bool) : D → D → (T → Prop) → Prop := fun d1 d2 k => match d2 with
  | .none => k (.va (.bool (match d1 with | .none => !neg | _ => neg)))
  | _ => False
theorem vnon {F H : Hp} {v : V} {d : D} (w : Vw F H v d) : decide (v = V.non) = (match d with | .none => true | _ => false) := by
  cases w with
  | pure r => cases r <;> rfl
  | lst h r => rfl
  | dic h r => rfl
theorem dop_isN : DOp X (compareOp .Is) (isN false) := by
  intro pins s σ H F v1 v2 u1 u2 d1 d2 k I sF w1 w2 r1 r2 hg
  cases d2 with
  | none =>
    cases w2.non
    refine op_isN pins s σ H _ _ u1 u2 _ I r1 r2 ⟨rfl, NewV.val sF (.bl _) ?_⟩
    rw [vnon w1]
    cases d1 <;> exact hg
  | _ => exact hg.elim
theorem dop_notN : DOp X (compareOp .IsNot) (isN true) := by
  intro pins s σ H F v1 v2 u1 u2 d1 d2 k I sF w1 w2 r1 r2 hg
  cases d2 with
  | none =>
    cases w2.non
    refine op_notN pins s σ H _ _ u1 u2 _ I r1 r2 ⟨rfl, NewV.val sF (.bl _) ?_⟩
    rw [vnon w1]
    cases d1 <;> exact hg
  | _ => exact hg.elim
/-- -a -/
def W1 (Z : Zb) (X : Cx) (a : Expr) (env : Env) (k : D → Env → Prop) : Prop := WA Z X a env fun a1 e1 => View a1 e1 fun d1 => k d1 e1
def negD (d : D) (k : T → Prop) : Prop := match d with
  | .int i => k (.va (.int (-i)))
  | _ => False
theorem w_neg (h : W1 Z X a env fun d e => negD d fun t => P (.t t) e) : WE Z X (.UnaryOp .USub a pos) env P :=
  we_of (pe_un un_neg pe_A) fun σ H F O b0 o => ⟨env, F, O, _, b0, o, h, fun v1 H1 ⟨F1, O1, a1, env1, b1, o1, st1, fr1, h1⟩ => by
    obtain ⟨d1, w1, h3⟩ := View.vw h1 o1 st1
    cases d1 with
    | int i =>
      cases w1.int
      exact ⟨i, rfl, (post_val b1 o1 (.int _) h3).from fr1⟩
    | _ => exact h3.elim⟩

/-! ### tests: and, or, not; conditional expressions -/
variable {PT : Bool → Env → Prop} {rest : List Expr}
theorem ww_and1 (h : WT Z X a env PT) : WW Z X (.BoolOp .And [a] pos) env PT := fun wh pins s σ H F O I b0 o => (pw_and1 (pt_T (e := a))).run wh pins s σ H _ I ⟨env, F, O, _, b0, o, h, fun _ _ q => q⟩
theorem ww_or1 (h : WT Z X a env PT) : WW Z X (.BoolOp .Or [a] pos) env PT := fun wh pins s σ H F O I b0 o => (pw_or1 (pt_T (e := a))).run wh pins s σ H _ I ⟨env, F, O, _, b0, o, h, fun _ _ q => q⟩
theorem pw_W {e : Expr} : PW X e (fun σ H Q => ∃ env F O P, Bas Z F H O ∧ OwE F H O σ env ∧ WW Z X e env P ∧ ∀ v H', PostT Z σ H F O P v H' → Q v H') :=
  ⟨fun wh pins s σ H Q I ⟨env, F, O, P, b, o, w, q⟩ => thn (w wh pins s σ H F O I b o) fun _ _ ⟨H', I', p⟩ => ⟨H', I', q _ _ p⟩⟩
theorem ww_and (h : WT Z X a env fun k e1 => (k = true → WW Z X (.BoolOp .And (b :: rest) pos) e1 PT) ∧ (k = false → PT false e1)) : WW Z X (.BoolOp .And (a :: b :: rest) pos) env PT := fun wh pins s σ H F O I b0 o =>
  (pw_and (pt_T (e := a)) pw_W).run wh pins s σ H _ I ⟨env, F, O, _, b0, o, h, fun k H1 ⟨F1, O1, env1, b1, o1, fr1, h1⟩ => by
    cases k with
    | true => exact iteT ⟨env1, F1, O1, _, b1, o1, h1.1 rfl, fun _ _ q => q.from fr1⟩
    | false => exact iteF ⟨F1, O1, env1, b1, o1, fr1, h1.2 rfl⟩⟩
theorem ww_or (h : WT Z X a env fun k e1 => (k = false → WW Z X (.BoolOp .Or (b :: rest) pos) e1 PT) ∧ (k = true → PT true e1)) : WW Z X (.BoolOp .Or (a :: b :: rest) pos) env PT := fun wh pins s σ H F O I b0 o =>
  (pw_or (pt_T (e := a)) pw_W).run wh pins s σ H _ I ⟨env, F, O, _, b0, o, h, fun k H1 ⟨F1, O1, env1, b1, o1, fr1, h1⟩ => by
    cases k with
    | false => exact iteF ⟨env1, F1, O1, _, b1, o1, h1.1 rfl, fun _ _ q => q.from fr1⟩
    | true => exact iteT ⟨F1, O1, env1, b1, o1, fr1, h1.2 rfl⟩⟩
theorem wt_not (h : WT Z X a env fun k e1 => PT (!k) e1) : WT Z X (.UnaryOp .Not a pos) env PT := wt_of (pt_not (pt_T (e := a))) fun σ H F O b0 o => ⟨env, F, O, _, b0, o, h, fun _ _ q => q⟩
/-- a value that is a bool, as a test -/
theorem wt_val (h : WE Z X e env fun r e1 => ∃ k, r = .t (.va (.bool k)) ∧ PT k e1) (he : ∀ whole, isTrue e X.env whole = (do let v ← whole; standAt e.pos; holding [v] (truthy v)) := by intro _; rfl) : WT Z X e env PT :=
  wt_of (pt_val (pe_E (e := e)) he) fun σ H F O b0 o => ⟨env, F, O, _, b0, o, h, fun v H1 ⟨F1, O1, r, env1, b1, st, fr1, k, e1, h1⟩ => by
    subst e1
    obtain ⟨O1', O2, rfl, o1, ow⟩ := st
    cases ow with
    | va r =>
      cases r with
      | bl k =>
        rw [List.append_nil] at b1 fr1
        exact ⟨k, rfl, F1, O1', env1, b1, o1, fr1, h1⟩⟩
theorem w_ifExp (h : WT Z X c env fun k e1 => (k = true → WE Z X a e1 P) ∧ (k = false → WE Z X b e1 P)) : WE Z X (.IfExp c a b pos) env P :=
  we_of (pe_ifExp (pt_T (e := c)) (pe_E (e := a)) (pe_E (e := b))) fun σ H F O b0 o => ⟨env, F, O, _, b0, o, h, fun k H1 ⟨F1, O1, env1, b1, o1, fr1, h1⟩ => by
    cases k with
    | true => exact iteT ⟨env1, F1, O1, _, b1, o1, h1.1 rfl, fun _ _ q => q.from fr1⟩
    | false => exact iteF ⟨env1, F1, O1, _, b1, o1, h1.2 rfl, fun _ _ q => q.from fr1⟩⟩
/-- and, or, not of bools as values -/
theorem w_one {op : _} (h : WE Z X a env P) : WE Z X (.BoolOp op [a] pos) env P := we_of (pe_one (pe_E (e := a))) fun σ H F O b0 o => ⟨env, F, O, _, b0, o, h, fun _ _ q => q⟩
theorem w_and (h : WE Z X a env fun r e1 => ∃ k, r = .t (.va (.bool k)) ∧ (k = true → WE Z X (.BoolOp .And (b :: rest) pos) e1 P) ∧ (k = false → P (.t (.va (.bool false))) e1)) : WE Z X (.BoolOp .And (a :: b :: rest) pos) env P :=
  we_of (pe_and (pe_E (e := a)) (pe_E (e := .BoolOp .And (b :: rest) pos))) fun σ H F O b0 o => ⟨env, F, O, _, b0, o, h, fun v H1 q => by
    obtain ⟨k, F1, O1, env1, rfl, b1, o1, fr1, h1⟩ := post_bool q
    refine ⟨k, rfl, ?_⟩
    cases k with
    | true => exact iteT ⟨env1, F1, O1, _, b1, o1, h1.1 rfl, fun _ _ q => q.from fr1⟩
    | false => exact iteF ((post_val b1 o1 (.bl _) (h1.2 rfl)).from fr1)⟩
theorem w_or (h : WE Z X a env fun r e1 => ∃ k, r = .t (.va (.bool k)) ∧ (k = false → WE Z X (.BoolOp .Or (b :: rest) pos) e1 P) ∧ (k = true → P (.t (.va (.bool true))) e1)) : WE Z X (.BoolOp .Or (a :: b :: rest) pos) env P :=
  we_of (pe_or (pe_E (e := a)) (pe_E (e := .BoolOp .Or (b :: rest) pos))) fun σ H F O b0 o => ⟨env, F, O, _, b0, o, h, fun v H1 q => by
    obtain ⟨k, F1, O1, env1, rfl, b1, o1, fr1, h1⟩ := post_bool q
    refine ⟨k, rfl, ?_⟩
    cases k with
    | false => exact iteF ⟨env1, F1, O1, _, b1, o1, h1.1 rfl, fun _ _ q => q.from fr1⟩
    | true => exact iteT ((post_val b1 o1 (.bl _) (h1.2 rfl)).from fr1)⟩
theorem w_not (h : WE Z X a env fun r e1 => ∃ k, r = .t (.va (.bool k)) ∧ P (.t (.va (.bool (!k)))) e1) : WE Z X (.UnaryOp .Not a pos) env P :=
  we_of (pe_not (pe_E (e := a))) fun σ H F O b0 o => ⟨env, F, O, _, b0, o, h, fun v H1 q => by
    obtain ⟨k, F1, O1, env1, rfl, b1, o1, fr1, h1⟩ := post_bool q
    exact ⟨k, rfl, (post_val b1 o1 (.bl _) h1).from fr1⟩⟩

end
end QL

/-! QD: statements; defs. -/
namespace QL
open PySem PySem.Spec PyProof.Rows L2

/-! ### slots stored -/
theorem OwE.set {F H : Hp} : ∀ {O : List Addr} {σ : L2.St} {e : Env} {O2 : List Addr} {v : V} {t : T} (i : Nat), OwE F H O σ e → Ow F H O2 v t → i < e.length →
    ∃ O' Od, OwE F H O' (σ.set i (some v)) (e.set i (some t)) ∧ (O2 ++ O).Perm (O' ++ Od)
  | _, _, _, _, _, _, _, .nil, _, h => nomatch h
  | _, _, _, O2, v, t, 0, .un (O := O) r, w, _ => ⟨O2 ++ O, [], .so w r, by rw [List.append_nil]⟩
  | _, _, _, O2, v, t, i + 1, .un (O := O) r, w, h => by
    obtain ⟨O', Od, h1, h2⟩ := OwE.set i r w (Nat.lt_of_succ_lt_succ h)
    exact ⟨O', Od, .un h1, h2⟩
  | _, _, _, O2, v, t, 0, .so (O1 := Oa) (O2 := Ob) _ r, w, _ => ⟨O2 ++ Ob, Oa, .so w r, by rw [List.append_assoc]; exact (List.perm_append_comm (l₁ := Oa) (l₂ := Ob)).append_left O2⟩
  | _, _, _, O2, v, t, i + 1, .so (O1 := Oa) (O2 := Ob) q r, w, h => by
    obtain ⟨O', Od, h1, h2⟩ := OwE.set i r w (Nat.lt_of_succ_lt_succ h)
    refine ⟨Oa ++ O', Od, .so q h1, ?_⟩
    rw [List.append_assoc]
    refine List.Perm.trans ?_ (h2.append_left Oa)
    rw [← List.append_assoc, ← List.append_assoc]
    exact List.perm_append_comm.append_right Ob
theorem OwE.drop {F H : Hp} : ∀ {O : List Addr} {σ : L2.St} {e : Env} (i : Nat), OwE F H O σ e → ∃ O' Od, OwE F H O' σ (e.set i none) ∧ O.Perm (O' ++ Od)
  | _, _, _, _, .nil => ⟨[], [], .nil, List.Perm.refl _⟩
  | _, _, _, 0, .un (O := O) r => ⟨O, [], .un r, by rw [List.append_nil]⟩
  | _, _, _, i + 1, .un r => by
    obtain ⟨O', Od, h1, h2⟩ := OwE.drop i r
    exact ⟨O', Od, .un h1, h2⟩
  | _, _, _, 0, .so (O1 := Oa) (O2 := Ob) _ r => ⟨Ob, Oa, .un r, List.perm_append_comm⟩
  | _, _, _, i + 1, .so (O1 := Oa) (O2 := Ob) q r => by
    obtain ⟨O', Od, h1, h2⟩ := OwE.drop i r
    exact ⟨Oa ++ O', Od, .so q h1, by rw [List.append_assoc]; exact h2.append_left Oa⟩
theorem Bas.dropP {Z : Zb} {F H : Hp} {O O' Od : List Addr} (b : Bas Z F H O) (p : O.Perm (O' ++ Od)) : Bas Z F H O' ∧ Frm H F O H F O' :=
  ⟨(b.perm p).left, (Frm.refl H F O).perm (fun _ => Iff.rfl) fun c hc => p.mem_iff.mpr (List.mem_append_left _ hc)⟩

/-! ### statements -/
inductive Out
  | nx (e : Env)
  | ret (t : T) (e : Env)
  | bk (e : Env)
  | ct (e : Env)
def endsOf (Z : Zb) (H0 F0 : Hp) (O0 : List Addr) (P : Out → Prop) : Ends where
  nx := fun σ H => ∃ F O env, Bas Z F H O ∧ OwE F H O σ env ∧ Frm H0 F0 O0 H F O ∧ P (.nx env)
  rt := fun v H => ∃ F O1 O2 σ t env, Bas Z F H (O1 ++ O2) ∧ OwE F H O1 σ env ∧ Ow F H O2 v t ∧ Frm H0 F0 O0 H F (O1 ++ O2) ∧ P (.ret t env)
  bk := fun σ H => ∃ F O env, Bas Z F H O ∧ OwE F H O σ env ∧ Frm H0 F0 O0 H F O ∧ P (.bk env)
  ct := fun σ H => ∃ F O env, Bas Z F H O ∧ OwE F H O σ env ∧ Frm H0 F0 O0 H F O ∧ P (.ct env)
def WS (Z : Zb) (X : Cx) (st : Stmt) (env : Env) (P : Out → Prop) : Prop :=
  ∀ (pins : List (Addr × Obj)) (s : Shared) (σ : L2.St) (H F : Hp) (O : List Addr), Inv X pins σ H s → Bas Z F H O → OwE F H O σ env →
    wpAny (model X.prog X.w) X.A (exec st X.env) (SP X pins (endsOf Z H F O P)) X.xe s
def WSs (Z : Zb) (X : Cx) (st : List Stmt) (env : Env) (P : Out → Prop) : Prop :=
  ∀ (pins : List (Addr × Obj)) (s : Shared) (σ : L2.St) (H F : Hp) (O : List Addr), Inv X pins σ H s → Bas Z F H O → OwE F H O σ env →
    wpAny (model X.prog X.w) X.A (execs st X.env) (SP X pins (endsOf Z H F O P)) X.xe s
/-- what is wanted, weaker -/
structure EndsLe (D D' : Ends) : Prop where
  nx : ∀ σ H, D.nx σ H → D'.nx σ H
  rt : ∀ v H, D.rt v H → D'.rt v H
  bk : ∀ σ H, D.bk σ H → D'.bk σ H
  ct : ∀ σ H, D.ct σ H → D'.ct σ H
theorem EndsLe.refl (D : Ends) : EndsLe D D := ⟨fun _ _ h => h, fun _ _ h => h, fun _ _ h => h, fun _ _ h => h⟩
theorem SP.le {X : Cx} {pins : List (Addr × Obj)} {D D' : Ends} (l : EndsLe D D') : ∀ f s', SP X pins D f s' → SP X pins D' f s'
  | .next, _, ⟨σ, H, I, q⟩ => ⟨σ, H, I, l.nx _ _ q⟩
  | .brk, _, ⟨σ, H, I, q⟩ => ⟨σ, H, I, l.bk _ _ q⟩
  | .cont, _, ⟨σ, H, I, q⟩ => ⟨σ, H, I, l.ct _ _ q⟩
  | .ret _, _, ⟨v, σ, H, I, r, q⟩ => ⟨v, σ, H, I, r, l.rt _ _ q⟩
theorem endsOf.from {Z : Zb} {H0 F0 H1 F1 : Hp} {O0 O1 : List Addr} {P P' : Out → Prop} (fr : Frm H0 F0 O0 H1 F1 O1) (hp : ∀ o, P o → P' o) : EndsLe (endsOf Z H1 F1 O1 P) (endsOf Z H0 F0 O0 P') :=
  ⟨fun _ _ ⟨F, O, env, b, o, f, p⟩ => ⟨F, O, env, b, o, fr.trans f, hp _ p⟩, fun _ _ ⟨F, O, O2, σ, t, env, b, o, w, f, p⟩ => ⟨F, O, O2, σ, t, env, b, o, w, fr.trans f, hp _ p⟩,
    fun _ _ ⟨F, O, env, b, o, f, p⟩ => ⟨F, O, env, b, o, fr.trans f, hp _ p⟩, fun _ _ ⟨F, O, env, b, o, f, p⟩ => ⟨F, O, env, b, o, fr.trans f, hp _ p⟩⟩
def tS (Z : Zb) (X : Cx) (st : Stmt) : TS := fun D σ H => ∃ env F O P, Bas Z F H O ∧ OwE F H O σ env ∧ WS Z X st env P ∧ EndsLe (endsOf Z H F O P) D
def tSs (Z : Zb) (X : Cx) (st : List Stmt) : TS := fun D σ H => ∃ env F O P, Bas Z F H O ∧ OwE F H O σ env ∧ WSs Z X st env P ∧ EndsLe (endsOf Z H F O P) D
section
variable {Z : Zb} {X : Cx} {e a b c : Expr} {es : List Expr} {env : Env} {pos : Pos} {P : Out → Prop} {st : Stmt} {rest body els : List Stmt}
theorem ps_S : PS X st (tS Z X st) := ⟨fun pins s σ H D I ⟨env, F, O, P, b, o, w, l⟩ => thn (w pins s σ H F O I b o) (SP.le l)⟩
theorem pss_S : PSs X rest (tSs Z X rest) := ⟨fun pins s σ H D I ⟨env, F, O, P, b, o, w, l⟩ => thn (w pins s σ H F O I b o) (SP.le l)⟩
theorem ws_of {t : TS} (h : PS X st t) (w : ∀ σ H F O, Bas Z F H O → OwE F H O σ env → t (endsOf Z H F O P) σ H) : WS Z X st env P := fun pins s σ H F O I b o => h.run pins s σ H _ I (w σ H F O b o)
theorem WS.imp {P' : Out → Prop} (h : WS Z X st env P) (hp : ∀ o, P o → P' o) : WS Z X st env P' := fun pins s σ H F O I b o => thn (h pins s σ H F O I b o) (SP.le (endsOf.from (Frm.refl _ _ _) hp))
theorem WSs.imp {P' : Out → Prop} (h : WSs Z X rest env P) (hp : ∀ o, P o → P' o) : WSs Z X rest env P' := fun pins s σ H F O I b o => thn (h pins s σ H F O I b o) (SP.le (endsOf.from (Frm.refl _ _ _) hp))
theorem wss_nil (h : P (.nx env)) : WSs Z X [] env P := fun pins s σ H F O I b o => pss_nil.run pins s σ H _ I ⟨F, O, env, b, o, Frm.refl _ _ _, h⟩
/-- a statement, then the rest -/
def seqP (Z : Zb) (X : Cx) (rest : List Stmt) (P : Out → Prop) : Out → Prop
  | .nx e => WSs Z X rest e P
  | .ret t e => P (.ret t e)
  | .bk e => P (.bk e)
  | .ct e => P (.ct e)
theorem wss_cons (h : WS Z X st env (seqP Z X rest P)) : WSs Z X (st :: rest) env P := fun pins s σ H F O I b o =>
  (pss_cons (ps_S (Z := Z)) (pss_S (Z := Z))).run pins s σ H _ I ⟨env, F, O, _, b, o, h, ⟨fun σ' H' ⟨F', O', e', b', o', f', p⟩ => ⟨e', F', O', P, b', o', p, endsOf.from f' fun _ q => q⟩, fun _ _ q => q, fun _ _ q => q, fun _ _ q => q⟩⟩
theorem wss_one (h : WS Z X st env P) : WSs Z X [st] env P := fun pins s σ H F O I b o => (pss_one (ps_S (Z := Z))).run pins s σ H _ I ⟨env, F, O, _, b, o, h, EndsLe.refl _⟩
theorem ws_pass (h : P (.nx env)) : WS Z X (.Pass pos) env P := ws_of ps_pass fun σ H F O b o => ⟨F, O, env, b, o, Frm.refl _ _ _, h⟩
theorem ws_break (h : P (.bk env)) : WS Z X (.Break pos) env P := ws_of ps_break fun σ H F O b o => ⟨F, O, env, b, o, Frm.refl _ _ _, h⟩
theorem ws_continue (h : P (.ct env)) : WS Z X (.Continue pos) env P := ws_of ps_continue fun σ H F O b o => ⟨F, O, env, b, o, Frm.refl _ _ _, h⟩
theorem ws_expr (h : WE Z X e env fun _ e1 => P (.nx e1)) (hs : swapsWith e none pos.line X.env = pure false := by rfl) : WS Z X (.Expr e pos) env P := ws_of (ps_expr (pe_E (Z := Z)) hs) fun σ H F O b o =>
  ⟨env, F, O, _, b, o, h, fun v H1 ⟨F1, O1, r, e1, b1, st, fr, p⟩ => by
    cases r with
    | bor a i q => exact ⟨F1, O1, e1, b1, st.1, fr, p⟩
    | t t =>
      obtain ⟨O2, O3, rfl, o2, _⟩ := st
      exact ⟨F1, O2, e1, b1.left, o2, fr.perm (fun _ => Iff.rfl) fun c hc => List.mem_append_left _ hc, p⟩⟩
/-- what is handed back: a thing of its own; what a name alone holds goes away with it -/
def retR (r : R) (env : Env) (k : T → Env → Prop) : Prop := match r with
  | .t t => k t env
  | .bor a i [] => match env[i]? with
    | some (some t) => t.addr = some a ∧ k t (env.set i none)
    | _ => False
  | .bor a i p => match getP i p env with
    | some t => t.addr = some a ∧ match frzT t with
      | some d => k (.va d) (setP i p (.va d) env)
      | none => False
    | none => False
theorem OwE.takeI {F H : Hp} : ∀ {O : List Addr} {σ : L2.St} {e : Env} {i : Nat} {t : T}, OwE F H O σ e → e[i]? = some (some t) → ∃ w O1 O2, OwE F H O1 σ (e.set i none) ∧ Ow F H O2 w t ∧ O.Perm (O1 ++ O2)
  | _, _, _, _, _, .nil, h => nomatch h
  | _, _, _, 0, t, .un r, h => by cases h
  | _, _, _, i + 1, t, .un (O := O) r, h => by
    obtain ⟨w, O1, O2, h1, h2, h3⟩ := OwE.takeI (i := i) r h
    exact ⟨w, O1, O2, .un h1, h2, h3⟩
  | _, _, _, 0, t, .so (O1 := Oa) (O2 := Ob) q r, h => by
    cases h
    exact ⟨_, Ob, Oa, .un r, q, List.perm_append_comm⟩
  | _, _, _, i + 1, t, .so (O1 := Oa) (O2 := Ob) q r, h => by
    obtain ⟨w, O1, O2, h1, h2, h3⟩ := OwE.takeI (i := i) r h
    exact ⟨w, Oa ++ O1, O2, .so q h1, h2, by rw [List.append_assoc]; exact h3.append_left Oa⟩
theorem retR_ok {σ : L2.St} {F H : Hp} {O : List Addr} {v : V} {r : R} {k : T → Env → Prop} (b : Bas Z F H O) (s : StR F H O σ env v r) (h : retR r env k) :
    ∃ F' O1 O2 t e', Bas Z F' H (O1 ++ O2) ∧ OwE F' H O1 σ e' ∧ Ow F' H O2 v t ∧ Frm H F O H F' (O1 ++ O2) ∧ k t e' := by
  cases r with
  | t t =>
    obtain ⟨O1, O2, rfl, o, w⟩ := s
    exact ⟨F, O1, O2, t, env, b, o, w, Frm.refl _ _ _, h⟩
  | bor a i p =>
    obtain ⟨o, rfl⟩ := s
    cases p with
    | nil =>
      unfold retR at h
      simp only at h
      split at h
      · rename_i t e
        obtain ⟨w, O1, O2, h1, h2, h3⟩ := o.takeI e
        have hw := h2.ref h.1
        subst hw
        exact ⟨F, O1, O2, t, _, b.perm h3, h1, h2, (Frm.refl H F O).perm (fun _ => Iff.rfl) fun c hc => h3.mem_iff.mpr hc, h.2⟩
      · exact h.elim
    | cons f p =>
      unfold retR at h
      simp only at h
      cases hg : getP i (f :: p) env with
      | none => rw [hg] at h; exact h.elim
      | some t =>
        rw [hg] at h
        obtain ⟨ha, h⟩ := h
        cases hf : frzT t with
        | none => rw [hf] at h; exact h.elim
        | some d =>
          rw [hf] at h
          obtain ⟨F', O', ds, e', b', o', r', fr, q⟩ := absorb_ok (k := fun ds e' => ∃ d, ds = [d] ∧ k (.va d) e') (.cons (a := .bor a i (f :: p)) rfl .nil) b o (by
            unfold absorb; simp only [hg, hf]; exact ⟨ha, d, rfl, h⟩)
          obtain ⟨d, rfl, q⟩ := q
          cases r' with
          | cons r1 _ => exact ⟨F', O', [], .va d, e', by rw [List.append_nil]; exact b', o', .va r1, by rw [List.append_nil]; exact fr, q⟩
theorem ws_ret (h : WE Z X e env fun r e1 => retR r e1 fun t e2 => P (.ret t e2)) : WS Z X (.Return (some e) pos) env P := ws_of (ps_ret (pe_E (Z := Z))) fun σ H F O b o =>
  ⟨env, F, O, _, b, o, h, fun v H1 ⟨F1, O1, r, e1, b1, st, fr, p⟩ => by
    obtain ⟨F2, O2, O3, t, e2, b2, o2, w2, fr2, q⟩ := retR_ok b1 st p
    exact ⟨F2, O2, O3, σ, t, e2, b2, o2, w2, fr.trans fr2, q⟩⟩
theorem ws_retN (h : P (.ret (.va .none) env)) : WS Z X (.Return none pos) env P := ws_of ps_retN fun σ H F O b o => ⟨F, O, [], σ, _, env, by rw [List.append_nil]; exact b, o, .va .non, by rw [List.append_nil]; exact Frm.refl _ _ _, h⟩
theorem ws_if (h : WT Z X c env fun k e1 => (k = true → WSs Z X body e1 P) ∧ (k = false → WSs Z X els e1 P)) : WS Z X (.If c body els pos) env P :=
  ws_of (ps_if (pt_T (Z := Z)) (pss_S (Z := Z)) (pss_S (Z := Z))) fun σ H F O b o => ⟨env, F, O, _, b, o, h, fun k H1 ⟨F1, O1, e1, b1, o1, fr, p⟩ => by
    cases k with
    | true => exact iteT ⟨e1, F1, O1, P, b1, o1, p.1 rfl, endsOf.from fr fun _ q => q⟩
    | false => exact iteF ⟨e1, F1, O1, P, b1, o1, p.2 rfl, endsOf.from fr fun _ q => q⟩⟩
/-- x = e: a thing of its own, or what is frozen from then on -/
def storeR (r : R) (i : Nat) (env : Env) (k : Env → Prop) : Prop := i < env.length ∧ match r with
  | .t t => k (env.set i (some t))
  | .bor a j p => absorb [.bor a j p] env fun ds e => match ds with
    | [d] => i < e.length ∧ k (e.set i (some (.va d)))
    | _ => False
theorem storeR_ok {σ : L2.St} {F H : Hp} {O : List Addr} {v : V} {r : R} {i : Nat} {k : Env → Prop} (b : Bas Z F H O) (s : StR F H O σ env v r) (h : storeR r i env k) :
    ∃ F' O' e', Bas Z F' H O' ∧ OwE F' H O' (σ.set i (some v)) e' ∧ Frm H F O H F' O' ∧ k e' := by
  obtain ⟨hi, h⟩ := h
  cases r with
  | t t =>
    obtain ⟨O1, O2, rfl, o, w⟩ := s
    obtain ⟨O', Od, h1, h2⟩ := o.set i w hi
    obtain ⟨b', fr⟩ := b.dropP (List.perm_append_comm.trans h2)
    exact ⟨F, O', _, b', h1, fr, h⟩
  | bor a j p =>
    obtain ⟨o, rfl⟩ := s
    obtain ⟨F', O1, ds, e1, b1, o1, r1, fr1, q⟩ := absorb_ok (.cons (a := .bor a j p) rfl .nil) b o h
    cases r1 with
    | cons r1 r2 =>
      cases r2
      obtain ⟨hi', q⟩ := q
      obtain ⟨O', Od, h1, h2⟩ := o1.set i (.va r1) hi'
      obtain ⟨b', fr⟩ := b1.dropP h2
      exact ⟨F', O', _, b', h1, fr1.trans fr, q⟩
theorem ws_set (i : Nat) {x : Str} {pos' : Pos} (h : WE Z X e env fun r e1 => storeR r i e1 fun e2 => P (.nx e2)) (hN : X.N.Nodup) (hi : X.N[i]? = some x := by rfl) (hx : Loc X.env.scope x := by first | exact Or.inl rfl | exact Or.inr rfl) (hs : swapsWith e (some (.Name x pos')) pos.line X.env = pure false := by rfl)
    (hf : X.fn x = true ∨ X.env.scope.names.lookup x = some .local := by first | exact .inl rfl | exact .inr rfl) : WS Z X (.Assign [.Name x pos'] e pos) env P :=
  ws_of (ps_set hN hi hx (pe_E (Z := Z)) hs hf) fun σ H F O b o => ⟨env, F, O, _, b, o, h, fun v H1 ⟨F1, O1, r, e1, b1, st, fr, p⟩ => by
    obtain ⟨F2, O2, e2, b2, o2, fr2, q⟩ := storeR_ok b1 st p
    exact ⟨F2, O2, e2, b2, o2, fr.trans fr2, q⟩⟩
/-- x op= e -/
theorem ws_aug (i : Nat) {x : Str} {pos' : Pos} {op : Operator} {g : D → D → (T → Prop) → Prop} (ho : DOp X (inplaceOp op) g)
    (h : ∃ d0, env[i]? = some (some (.va d0)) ∧ WA Z X e env fun a2 e2 => View a2 e2 fun d2 => i < e2.length ∧ g d0 d2 fun t => P (.nx (e2.set i (some t)))) (hN : X.N.Nodup) (hi : X.N[i]? = some x := by rfl) (hx : Loc X.env.scope x := by first | exact Or.inl rfl | exact Or.inr rfl)
    (hf : X.fn x = true ∨ X.env.scope.names.lookup x = some .local := by first | exact .inl rfl | exact .inr rfl) : WS Z X (.AugAssign (.Name x pos') op e pos) env P := by
  obtain ⟨d0, e0, h⟩ := h
  have hp : PIp X op (rD g) := fun pins s σ H x y v u Q I r1 r2 q => ho.r pins s σ H x y v u Q I r1 r2 q
  refine ws_of (ps_aug hN hi hx (pe_A (Z := Z)) hp hf) fun σ H F O b o => ?_
  obtain ⟨w, hw, Oj, O', h1, h2, h3⟩ := o.focusI e0
  cases h1 with
  | va r0 =>
    refine ⟨w, hw, env, F, O, _, b, o, h, fun v2 H2 ⟨F2, O2, a2, e2, b2, o2, st2, fr2, p⟩ => ?_⟩
    obtain ⟨d2, w2, hl, hg⟩ := View.vw p o2 st2
    refine ⟨F2, d0, d2, _, b2.sub, .pure (r0.mono fr2.fz), w2, hg, fun v3 H3 n => ?_⟩
    obtain ⟨F3, O3, r3, e3, b3, st3, fr3, t, er, e3e, q⟩ := n.post b2 o2 (P := fun r e => ∃ t, r = .t t ∧ e = e2 ∧ P (.nx (e2.set i (some t)))) fun t q => ⟨t, rfl, rfl, q⟩
    subst er e3e
    obtain ⟨F4, O4, e4, b4, o4, fr4, q4⟩ := storeR_ok (i := i) (k := fun e => P (.nx e)) b3 st3 ⟨hl, q⟩
    exact ⟨F4, O4, e4, b4, o4, (fr2.trans fr3).trans fr4, q4⟩

/-! ### while -/
def loopP (P : Out → Prop) (N : Env → Prop) : Out → Prop
  | .nx e => N e
  | .ct e => N e
  | .bk e => P (.nx e)
  | .ret t e => P (.ret t e)
theorem loop_le {H0 F0 H1 F1 : Hp} {O0 O1 : List Addr} (fr : Frm H0 F0 O0 H1 F1 O1) {N : Env → Prop} {Nh : L2.St → Hp → Prop} (hn : ∀ σ H F O env, Bas Z F H O → OwE F H O σ env → Frm H1 F1 O1 H F O → N env → Nh σ H) :
    EndsLe (endsOf Z H1 F1 O1 (loopP P N)) { endsOf Z H0 F0 O0 P with nx := Nh, ct := Nh, bk := (endsOf Z H0 F0 O0 P).nx } :=
  ⟨fun _ _ ⟨F, O, env, b, o, f, p⟩ => hn _ _ F O env b o f p, fun _ _ ⟨F, O, O2, σ, t, env, b, o, w, f, p⟩ => ⟨F, O, O2, σ, t, env, b, o, w, fr.trans f, p⟩,
    fun _ _ ⟨F, O, env, b, o, f, p⟩ => ⟨F, O, env, b, o, fr.trans f, p⟩, fun _ _ ⟨F, O, env, b, o, f, p⟩ => hn _ _ F O env b o f p⟩
theorem ws_while (I : Nat → Env → Prop) (m : Nat) (h0 : I m env) (hs : ∀ m env, I m env → WT Z X c env fun k e1 => (k = true → WSs Z X body e1 (loopP P fun e => ∃ m', m' < m ∧ I m' e)) ∧ (k = false → P (.nx e1)))
    (hp : PassesOwn (model X.prog X.w) X.A X.env X.xe) : WS Z X (.While c body [] pos) env P :=
  ws_of (ps_while hp (pt_T (Z := Z)) (pss_S (Z := Z))) fun σ0 H0 F0 O0 b0 o0 => by
    refine ⟨fun m σ H => ∃ F O env, Bas Z F H O ∧ OwE F H O σ env ∧ Frm H0 F0 O0 H F O ∧ I m env, ⟨m, F0, O0, env, b0, o0, Frm.refl _ _ _, h0⟩, ?_⟩
    rintro m σ H ⟨F, O, env, b, o, fr, hI⟩
    refine ⟨env, F, O, _, b, o, hs m env hI, fun k H1 ⟨F1, O1, e1, b1, o1, fr1, p⟩ => ?_⟩
    cases k with
    | true =>
      refine iteT ⟨fun σ' H' => ∃ m', m' < m ∧ ∃ F O env, Bas Z F H' O ∧ OwE F H' O σ' env ∧ Frm H0 F0 O0 H' F O ∧ I m' env, fun σ' H' ⟨m', hm, q⟩ => ⟨m', hm, q⟩, e1, F1, O1, _, b1, o1, p.1 rfl, ?_⟩
      refine loop_le (fr.trans fr1) ?_
      rintro σ2 H2 F2 O2 e2 b2 o2 f2 ⟨m', hm, q⟩
      exact ⟨m', hm, F2, O2, e2, b2, o2, (fr.trans fr1).trans f2, q⟩
    | false => exact iteF ⟨F1, O1, e1, b1, o1, fr.trans fr1, p.2 rfl⟩
end
end QL

/-! QE: targets, for, comprehensions. -/
namespace QL
open PySem PySem.Spec PyProof.Rows L2

theorem Bas.grow {Z : Zb} {F H F' H' : Hp} {O : List Addr} {σ : L2.St} {env : Env} (b : Bas Z F H O) (o : OwE F H O σ env) (s1 : Same F F') (s2 : Same H H') (s3 : Same F' H') (nf : ∀ a, F' a ≠ none → F a ≠ none ∨ H a = none) :
    Bas Z F' H' O ∧ OwE F' H' O σ env ∧ Frm H F O H' F' O := by
  have keep : ∀ a ∈ O, H' a = H a := fun a ha => by
    cases q : H a with
    | none => exact absurd q (o.there a ha)
    | some x => exact s2 a x q
  have fr : Frm H F O H' F' O := ⟨s1, fun a x e _ => s2 a x e, (fun a e => by
      cases q : H a with
      | none => exact absurd q e
      | some x => rw [s2 a x q]; exact fun z => nomatch z), fun a e => (nf a e).imp_right .inl, fun a ha => .inl ha⟩
  refine ⟨⟨s3, b.nd, fun a ha => ?_, b.abs.trans fr⟩, o.stay s1 keep, fr⟩
  cases q : F' a with
  | none => rfl
  | some x =>
    rcases nf a (by rw [q]; exact fun z => nomatch z) with z | z
    · exact absurd (b.dis a ha) z
    · exact absurd z (o.there a ha)

/-! ### targets -/
theorem wipe_get {σ : L2.St} {i : Nat} : ∀ {vs : List Nat}, (wipe σ vs)[i]? = if i ∈ vs then (if i < σ.length then some none else none) else σ[i]?
  | [] => by simp [wipe]
  | v :: vs => by
    unfold wipe
    rw [List.getElem?_set, wipe_length, wipe_get (vs := vs)]
    by_cases e : v = i
    · subst e; simp
    · rw [if_neg e]
      have : (i ∈ v :: vs) ↔ i ∈ vs := by simp [Ne.symm e]
      simp only [this]
theorem wipe_set {σ : L2.St} {i : Nat} {x : Option V} {vs : List Nat} (h : i ∈ vs) : wipe (σ.set i x) vs = wipe σ vs := by
  apply List.ext_getElem?
  intro j
  rw [wipe_get, wipe_get, List.length_set]
  by_cases e : j ∈ vs
  · rw [if_pos e, if_pos e]
  · rw [if_neg e, if_neg e, List.getElem?_set_ne (fun z => e (by rw [← z]; exact h))]
theorem wipe_wipe {σ : L2.St} {vs : List Nat} : wipe (wipe σ vs) vs = wipe σ vs := by
  apply List.ext_getElem?
  intro j
  rw [wipe_get, wipe_get, wipe_length]
  by_cases e : j ∈ vs
  · rw [if_pos e, if_pos e]
  · rw [if_neg e, if_neg e]
def wipeE (env : Env) : List Nat → Env
  | [] => env
  | v :: vs => (wipeE env vs).set v none
theorem OwE.none_any {F H : Hp} : ∀ {O : List Addr} {σ σ' : L2.St} {e : Env}, OwE F H O σ e → σ'.length = σ.length → (∀ i : Nat, e[i]? ≠ some none → σ'[i]? = σ[i]?) → OwE F H O σ' e
  | _, _, [], _, .nil, _, _ => .nil
  | _, _, _ :: _, _, .nil, l, _ => nomatch l
  | _, _, [], _, .un r, l, _ => nomatch l
  | _, _, x :: σ', _, .un r, l, h => .un (r.none_any (Nat.succ.inj l) fun i hi => h (i + 1) hi)
  | _, _, [], _, .so q r, l, _ => nomatch l
  | _, _, x :: σ', _, .so q r, l, h => by
    have e : x = some _ := Option.some.inj (h 0 fun z => nomatch z)
    subst e
    exact .so q (r.none_any (Nat.succ.inj l) fun i hi => h (i + 1) hi)
theorem OwE.wipeO {F H : Hp} {O : List Addr} {σ : L2.St} {e : Env} (o : OwE F H O σ e) : ∀ vs : List Nat, ∃ O' Od, OwE F H O' σ (wipeE e vs) ∧ O.Perm (O' ++ Od)
  | [] => ⟨O, [], o, by rw [List.append_nil]⟩
  | v :: vs => by
    obtain ⟨O1, Od1, h1, h2⟩ := o.wipeO vs
    obtain ⟨O2, Od2, h3, h4⟩ := h1.drop v
    exact ⟨O2, Od2 ++ Od1, h3, by rw [← List.append_assoc]; exact h2.trans (h4.append_right Od1)⟩
theorem wipeE_get {env : Env} {i : Nat} : ∀ {vs : List Nat}, (wipeE env vs)[i]? = if i ∈ vs then (if i < env.length then some none else none) else env[i]?
  | [] => by simp [wipeE]
  | v :: vs => by
    have hl : ∀ ws : List Nat, (wipeE env ws).length = env.length := fun ws => by
      induction ws with
      | nil => rfl
      | cons w ws ih => unfold wipeE; rw [List.length_set, ih]
    unfold wipeE
    rw [List.getElem?_set, hl, wipeE_get (vs := vs)]
    by_cases e : v = i
    · subst e; simp
    · rw [if_neg e]
      have : (i ∈ v :: vs) ↔ i ∈ vs := by simp [Ne.symm e]
      simp only [this]
/-- the slots of a block's names: what stands there does not matter -/
theorem OwE.wiped {F H : Hp} {O : List Addr} {σ σ' : L2.St} {e : Env} {vs : List Nat} (o : OwE F H O σ (wipeE e vs)) (h : wipe σ' vs = wipe σ vs) : OwE F H O σ' (wipeE e vs) := by
  have hl : σ'.length = σ.length := by have := congrArg List.length h; rw [wipe_length, wipe_length] at this; exact this
  have hw : (wipeE e vs).length = e.length := by
    clear o h hl
    induction vs with
    | nil => rfl
    | cons w ws ih => unfold wipeE; rw [List.length_set, ih]
  refine o.none_any hl fun i hi => ?_
  have g := congrArg (fun l => l[i]?) h
  simp only [wipe_get] at g
  by_cases z : i ∈ vs
  · rw [wipeE_get, if_pos z] at hi
    by_cases y : i < e.length
    · rw [if_pos y] at hi; exact absurd rfl hi
    · have q := o.len
      rw [hw] at q
      rw [List.getElem?_eq_none (by omega), List.getElem?_eq_none (by omega)]
  · rw [if_neg z, if_neg z] at g
    exact g

abbrev TF := D → Env → (Env → Prop) → Prop
abbrev TFs := List D → Env → (Env → Prop) → Prop
/-- a target's store, over data; ix: its names' slots -/
def GOk (Z : Zb) (g : TG) (f : TF) (ix : List Nat) : Prop := ∀ (v : V) (d : D) (σ : L2.St) (H F : Hp) (O : List Addr) (env : Env) (k : Env → Prop) (Q : L2.St → Hp → Prop), Bas Z F H O → OwE F H O σ env → Rp F v d → f d env k →
  (∀ σ' O' e', Bas Z F H O' → OwE F H O' σ' e' → (∀ a ∈ O', a ∈ O) → (∀ vs : List Nat, (∀ i ∈ ix, i ∈ vs) → wipe σ' vs = wipe σ vs) → k e' → Q σ' H) → g v σ H Q
def GsOk (Z : Zb) (g : TGs) (f : TFs) (ix : List Nat) : Prop := ∀ (v : List V) (d : List D) (σ : L2.St) (H F : Hp) (O : List Addr) (env : Env) (k : Env → Prop) (Q : L2.St → Hp → Prop), Bas Z F H O → OwE F H O σ env → RpA F v d → f d env k →
  (∀ σ' O' e', Bas Z F H O' → OwE F H O' σ' e' → (∀ a ∈ O', a ∈ O) → (∀ vs : List Nat, (∀ i ∈ ix, i ∈ vs) → wipe σ' vs = wipe σ vs) → k e' → Q σ' H) → g v σ H Q
def fName (i : Nat) : TF := fun d env k => i < env.length ∧ k (env.set i (some (.va d)))
def fNil : TFs := fun ds env k => ds = [] ∧ k env
def fCons (f : TF) (fs : TFs) : TFs := fun ds env k => match ds with
  | d :: r => f d env fun e => fs r e k
  | [] => False
def fTup (n : Nat) (fs : TFs) : TF := fun d env k => match d with
  | .tuple ds => ds.length = n ∧ fs ds env k
  | _ => False
theorem gok_name {Z : Zb} (i : Nat) : GOk Z (gName i) (fName i) [i] := fun v d σ H F O env k Q b o r h q => by
  obtain ⟨O', Od, h1, h2⟩ := o.set i (.va r) h.1
  obtain ⟨b', fr⟩ := b.dropP h2
  exact q _ O' _ b' h1 (fun a ha => h2.mem_iff.mpr (List.mem_append_left _ ha)) (fun vs hv => wipe_set (hv i (List.mem_singleton.mpr rfl))) h.2
theorem gsok_nil {Z : Zb} : GsOk Z gNil fNil [] := fun v d σ H F O env k Q b o r h q => by
  obtain ⟨rfl, h⟩ := h
  cases r
  exact ⟨rfl, q σ O env b o (fun _ z => z) (fun _ _ => rfl) h⟩
theorem gsok_cons {Z : Zb} {g : TG} {gs : TGs} {f : TF} {fs : TFs} {ix ixs : List Nat} (h1 : GOk Z g f ix) (h2 : GsOk Z gs fs ixs) : GsOk Z (gCons g gs) (fCons f fs) (ix ++ ixs) := fun v d σ H F O env k Q b o r h q => by
  cases r with
  | nil => exact h.elim
  | cons r1 r2 =>
    refine ⟨_, _, rfl, h1 _ _ σ H F O env _ _ b o r1 h fun σ1 O1 e1 b1 o1 s1 w1 h => ?_⟩
    refine h2 _ _ σ1 H F O1 e1 k _ b1 o1 r2 h fun σ2 O2 e2 b2 o2 s2 w2 h => ?_
    exact q σ2 O2 e2 b2 o2 (fun a ha => s1 a (s2 a ha)) (fun vs hv => (w2 vs fun i hi => hv i (List.mem_append_right _ hi)).trans (w1 vs fun i hi => hv i (List.mem_append_left _ hi))) h
theorem gok_tup {Z : Zb} {K : PySem.W.Frag} {n : Nat} {gs : TGs} {fs : TFs} {ix : List Nat} (h1 : GsOk Z gs fs ix) : GOk Z (gTup K n gs) (fTup n fs) ix := fun v d σ H F O env k Q b o r h q => by
  cases d with
  | tuple ds =>
    cases r with
    | tup hF r =>
      exact ⟨_, _, rfl, SqT.of (b.sub _ _ hF), by rw [r.len]; exact h.1, h1 _ _ σ H F O env k Q b o r h.2 q⟩
  | _ => exact h.elim

section
variable {Z : Zb} {X : Cx} {e a b c tg iter elt : Expr} {es : List Expr} {env : Env} {pos : Pos} {P : Out → Prop} {PR : R → Env → Prop} {body : List Stmt}

/-- target = e, e a tuple -/
theorem ws_asg {g : TG} {f : TF} {ix : List Nat} (hg : PG X tg g) (gk : GOk Z g f ix) (h : WE Z X e env fun r e1 => ∃ d, r = .t (.va d) ∧ f d e1 fun e2 => P (.nx e2)) (hs : swapsWithSole [tg] e pos.line X.env = pure false := by rfl) (hw : swappedStores [tg] e X.env = pure none := by rfl)
    (h1 : (assignEach [tg] X.env).map (·.2) = [assign tg X.env] := by rfl) : WS Z X (.Assign [tg] e pos) env P :=
  ws_of (ps_asg (pe_E (Z := Z)) hg hs hw h1) fun σ H F O b o => ⟨env, F, O, _, b, o, h, fun v H1 ⟨F1, O1, r, e1, b1, st, fr, d, er, p⟩ => by
    subst er
    obtain ⟨O2, O3, rfl, o1, w⟩ := st
    cases w with
    | va r =>
      rw [List.append_nil] at b1 fr
      refine gk v d σ H1 F1 O2 e1 _ _ b1 o1 r p fun σ2 O4 e2 b2 o2 s2 _ q => ⟨F1, O4, e2, b2, o2, fr.perm (fun _ => Iff.rfl) s2, q⟩⟩

/-! ### what is walked -/
def Gives (J : It) (ds : List D) (F1 : Hp) : Prop := ∀ (F' H' : Hp), Same F1 F' → Same F' H' → ∀ i : Nat,
  (∀ d, ds[i]? = some d → J.go i H' ∧ ∀ x H'', J.yld i H' x H'' → ∃ F'', Rp F'' x d ∧ Same F' F'' ∧ Same H' H'' ∧ Same F'' H'' ∧ ∀ a, F'' a ≠ none → F' a ≠ none ∨ H' a = none) ∧ (ds[i]? = none → J.stop i H')
def WI (Z : Zb) (X : Cx) (tg iter : Expr) (env : Env) (P : List D → Env → Prop) : Prop :=
  ∀ (pins : List (Addr × Obj)) (s : Shared) (σ : L2.St) (H F : Hp) (O : List Addr), Inv X pins σ H s → Bas Z F H O → OwE F H O σ env →
    wpAny (model X.prog X.w) X.A (eval iter X.env) (fun v s1 => wpAny (model X.prog X.w) X.A (pyIter v) (PIE X pins σ tg fun J H1 => ∃ F1 O1 ds e1, Bas Z F1 H1 O1 ∧ OwE F1 H1 O1 σ e1 ∧ Frm H F O H1 F1 O1 ∧ Gives J ds F1 ∧ P ds e1) X.xe s1) X.xe s
def tI (Z : Zb) (X : Cx) (tg iter : Expr) : TI := fun σ H Rr => ∃ env F O P, Bas Z F H O ∧ OwE F H O σ env ∧ WI Z X tg iter env P ∧
  ∀ J H1 F1 O1 ds e1, Bas Z F1 H1 O1 → OwE F1 H1 O1 σ e1 → Frm H F O H1 F1 O1 → Gives J ds F1 → P ds e1 → Rr J H1
theorem PIE.imp {pins : List (Addr × Obj)} {σ : L2.St} {R1 R2 : It → Hp → Prop} (h : ∀ J H1, R1 J H1 → R2 J H1) : ∀ v s, PIE X pins σ tg R1 v s → PIE X pins σ tg R2 v s := fun _ _ ⟨it, fp, tn, J, H', e, I, T, t0, f, q⟩ => ⟨it, fp, tn, J, H', e, I, T, t0, f, h _ _ q⟩
theorem pi_I : PI X tg iter (tI Z X tg iter) := ⟨fun pins s σ H Rr I ⟨env, F, O, P, b, o, w, q⟩ =>
  thn (w pins s σ H F O I b o) fun v s1 h => thn h (PIE.imp fun J H1 ⟨F1, O1, ds, e1, b1, o1, fr, g, p⟩ => q J H1 F1 O1 ds e1 b1 o1 fr g p)⟩
theorem wi_of {wi : TI} {P : List D → Env → Prop} (h : PI X tg iter wi) (w : ∀ σ H F O, Bas Z F H O → OwE F H O σ env → wi σ H fun J H1 => ∃ F1 O1 ds e1, Bas Z F1 H1 O1 ∧ OwE F1 H1 O1 σ e1 ∧ Frm H F O H1 F1 O1 ∧ Gives J ds F1 ∧ P ds e1) : WI Z X tg iter env P :=
  fun pins s σ H F O I b o => h.run pins s σ H _ I (w σ H F O b o)
theorem gives_list {K : PySem.W.Frag} {a : Addr} {xs : List V} {ds : List D} {F : Hp} (h : F a = some (.lst xs)) (r : RpA F xs ds) : Gives (Itl K a) ds F := fun F' H' s1 s2 i => by
  have hq : SqL K H' a xs := SqL.of (s2 _ _ (s1 _ _ h))
  refine ⟨fun d hd => ?_, fun hn => ?_⟩
  · obtain ⟨v, hv, rv⟩ := r.get' hd
    refine ⟨⟨xs, v, hq, hv⟩, fun x H'' ⟨e, q⟩ => ?_⟩
    subst e
    have := (q xs hq).symm.trans hv
    cases this
    exact ⟨F', rv.mono s1, Same.refl _, Same.refl _, s2, fun _ z => .inl z⟩
  · exact ⟨xs, hq, by rw [r.len]; exact List.getElem?_eq_none_iff.mp hn⟩
theorem gives_tup {K : PySem.W.Frag} {a : Addr} {xs : List V} {ds : List D} {F : Hp} (h : F a = some (.tup xs)) (r : RpA F xs ds) : Gives (Itt K a) ds F := fun F' H' s1 s2 i => by
  have hq : SqT K H' a xs := SqT.of (s2 _ _ (s1 _ _ h))
  refine ⟨fun d hd => ?_, fun hn => ?_⟩
  · obtain ⟨v, hv, rv⟩ := r.get' hd
    refine ⟨⟨xs, v, hq, hv⟩, fun x H'' ⟨e, q⟩ => ?_⟩
    subst e
    have := (q xs hq).symm.trans hv
    cases this
    exact ⟨F', rv.mono s1, Same.refl _, Same.refl _, s2, fun _ z => .inl z⟩
  · exact ⟨xs, hq, by rw [r.len]; exact List.getElem?_eq_none_iff.mp hn⟩
def tupOf (ds : List D) (k : List D → Prop) : Prop := match ds with
  | [.tuple xs] => k xs
  | _ => False
def lstOf (ds : List D) (k : List D → Prop) : Prop := match ds with
  | [.list xs] => k xs
  | _ => False
/-- for x in a tuple -/
theorem wi_tup {P : List D → Env → Prop} (h : WA Z X iter env fun a e1 => absorb [a] e1 fun ds e2 => tupOf ds fun xs => P xs e2) : WI Z X tg iter env P :=
  wi_of (pi_tup (pe_A (Z := Z))) fun σ H F O b o => ⟨env, F, O, _, b, o, h, fun v H1 ⟨F1, O1, a, e1, b1, o1, st, fr, p⟩ => by
    obtain ⟨F2, O2, ds, e2, b2, o2, r2, fr2, q⟩ := absorb_ok (.cons st .nil) b1 o1 p
    cases r2 with
    | cons r rr =>
      cases rr
      unfold tupOf at q
      split at q
      · rename_i xs e
        cases e
        cases r with
        | tup h1 r1 => exact ⟨_, rfl, ⟨_, SqT.of (b2.sub _ _ h1)⟩, F2, O2, xs, e2, b2, o2, fr.trans fr2, gives_tup h1 r1, q⟩
      · exact q.elim⟩
/-- for x in a list -/
theorem wi_list {P : List D → Env → Prop} (h : WA Z X iter env fun a e1 => absorb [a] e1 fun ds e2 => lstOf ds fun xs => P xs e2) : WI Z X tg iter env P :=
  wi_of (pi_list (pe_A (Z := Z))) fun σ H F O b o => ⟨env, F, O, _, b, o, h, fun v H1 ⟨F1, O1, a, e1, b1, o1, st, fr, p⟩ => by
    obtain ⟨F2, O2, ds, e2, b2, o2, r2, fr2, q⟩ := absorb_ok (.cons st .nil) b1 o1 p
    cases r2 with
    | cons r rr =>
      cases rr
      unfold lstOf at q
      split at q
      · rename_i xs e
        cases e
        cases r with
        | lst h1 r1 => exact ⟨_, rfl, ⟨_, SqL.of (b2.sub _ _ h1)⟩, F2, O2, xs, e2, b2, o2, fr.trans fr2, gives_list h1 r1, q⟩
      · exact q.elim⟩
/-- range -/
def rangeD (lo : Int) (n : Nat) : List D := (List.range n).map fun (k : Nat) => PyData.int (lo + (k : Int))
theorem gives_range {lo : Int} {n : Nat} {F : Hp} : Gives (Itr lo n) (rangeD lo n) F := fun F' H' s1 s2 i => by
  refine ⟨fun d hd => ?_, fun hn => ?_⟩
  · unfold rangeD at hd
    rw [List.getElem?_map] at hd
    by_cases hi : i < n
    · rw [List.getElem?_range hi] at hd
      cases hd
      refine ⟨hi, fun x H'' ⟨e, q⟩ => ?_⟩
      subst e q
      exact ⟨F', .int _, Same.refl _, Same.refl _, s2, fun _ z => .inl z⟩
    · rw [List.getElem?_eq_none (by simpa using hi)] at hd
      cases hd
  · unfold rangeD at hn
    rw [List.getElem?_eq_none_iff, List.length_map, List.length_range] at hn
    exact hn
/-- several arguments, as they are seen at the end -/
def Views (as : List A) (env : Env) (k : List D → Prop) : Prop := match as with
  | [] => k []
  | a :: as => View a env fun d => Views as env fun ds => k (d :: ds)
inductive Vws (F H : Hp) : List V → List D → Prop
  | nil : Vws F H [] []
  | cons {v : V} {vs : List V} {d : D} {ds : List D} : Vw F H v d → Vws F H vs ds → Vws F H (v :: vs) (d :: ds)
theorem Views.vws {σ : L2.St} {F H : Hp} {O : List Addr} (o : OwE F H O σ env) : ∀ {as : List A} {vs : List V} {k : List D → Prop}, StAs F vs as → Views as env k → ∃ ds, Vws F H vs ds ∧ k ds
  | [], _, k, .nil, h => ⟨[], .nil, h⟩
  | a :: as, _, k, .cons st r, h => by
    obtain ⟨d, w, h⟩ := View.vw h o st
    obtain ⟨ds, ws, h⟩ := Views.vws o r h
    exact ⟨d :: ds, .cons w ws, h⟩
def rng1 (ds : List D) (k : List D → Prop) : Prop := match ds with
  | [.int j] => (-4611686018427387904 ≤ j ∧ j < 4611686018427387904) ∧ k (rangeD 0 j.toNat)
  | _ => False
theorem wi_range1 {P : List D → Env → Prop} {p : Pos} (hm : X.mg "range" = none) (h : WAs Z X [a] env fun as e1 => Views as e1 fun ds => rng1 ds fun xs => P xs e1) (hg : Gl X "range" := by rfl) : WI Z X tg (.Call (.Name "range" p) [a] [] pos) env P :=
  wi_of (pi_range1 hg hm (pa_As (Z := Z)) h.1) fun σ H F O b o => ⟨env, F, O, _, b, o, h, fun vs H1 ⟨F1, O1, as, e1, b1, o1, st, fr, p⟩ => by
    obtain ⟨ds, ws, q⟩ := Views.vws o1 st p
    unfold rng1 at q
    split at q
    · cases ws with
      | cons w ws =>
        cases ws
        cases w.int
        exact ⟨_, rfl, q.1.1, q.1.2, F1, O1, _, e1, b1, o1, fr, gives_range, q.2⟩
    · exact q.elim⟩
def rng2 (ds : List D) (k : List D → Prop) : Prop := match ds with
  | [.int i, .int j] => (-4611686018427387904 ≤ i ∧ i < 4611686018427387904 ∧ -4611686018427387904 ≤ j ∧ j < 4611686018427387904) ∧ k (rangeD i (j - i).toNat)
  | _ => False
theorem wi_range2 {P : List D → Env → Prop} {p : Pos} (hm : X.mg "range" = none) (h : WAs Z X [a, b] env fun as e1 => Views as e1 fun ds => rng2 ds fun xs => P xs e1) (hg : Gl X "range" := by rfl) (hs : starEach [a, b] X.env = [(false, eval a X.env), (false, eval b X.env)] := by rfl) (hs2 : starEach [b] X.env = [(false, eval b X.env)] := by rfl) : WI Z X tg (.Call (.Name "range" p) [a, b] [] pos) env P :=
  wi_of (pi_range2 hg hm (pa_As (Z := Z)) hs hs2) fun σ H F O b o => ⟨env, F, O, _, b, o, h, fun vs H1 ⟨F1, O1, as, e1, b1, o1, st, fr, p⟩ => by
    obtain ⟨ds, ws, q⟩ := Views.vws o1 st p
    unfold rng2 at q
    split at q
    · cases ws with
      | cons w ws =>
        cases ws with
        | cons w' ws =>
          cases ws
          cases w.int
          cases w'.int
          exact ⟨_, _, rfl, q.1, F1, O1, _, e1, b1, o1, fr, gives_range, q.2⟩
    · exact q.elim⟩

/-! ### for -/
def ForI (Z : Zb) (X : Cx) (f : TF) (body : List Stmt) (P : Out → Prop) (ds : List D) (e1 : Env) : Prop :=
  ∃ I : Nat → Env → Prop, I 0 e1 ∧ (∀ k d e, ds[k]? = some d → I k e → f d e fun e' => WSs Z X body e' (loopP P (I (k + 1)))) ∧ ∀ e, I ds.length e → P (.nx e)
theorem ws_for {g : TG} {f : TF} {ix : List Nat} (hp : PassesOwn (model X.prog X.w) X.A X.env X.xe) (hc : X.calm = true) (hg : PG X tg g) (gk : GOk Z g f ix) (h : WI Z X tg iter env (ForI Z X f body P)) (hs : ∀ x, foldedSetIterable iter X.env x = pure x := by intro _; rfl) :
    WS Z X (.For tg iter body [] pos) env P :=
  ws_of (ps_for hp hc (pi_I (Z := Z)) hg (pss_S (Z := Z)) hs) fun σ0 H0 F0 O0 b0 o0 => ⟨env, F0, O0, _, b0, o0, h, fun J H1 F1 O1 ds e1 b1 o1 fr1 gv ⟨I, i0, step, done⟩ => by
    refine ⟨fun i m σ H => m = ds.length - i ∧ i ≤ ds.length ∧ ∃ F O e, Bas Z F H O ∧ OwE F H O σ e ∧ Frm H1 F1 O1 H F O ∧ I i e, ⟨_, rfl, Nat.zero_le _, F1, O1, e1, b1, o1, Frm.refl _ _ _, i0⟩, ?_⟩
    rintro i m σ H ⟨rfl, hi, F, O, e, b, o, fr, hI⟩
    obtain ⟨g1, g2⟩ := gv F H fr.fz b.sub i
    by_cases hlt : i < ds.length
    · obtain ⟨go, yl⟩ := g1 ds[i] (List.getElem?_eq_getElem hlt)
      refine .inr ⟨go, fun σ' H' => ∃ F O e, Bas Z F H' O ∧ OwE F H' O σ' e ∧ Frm H1 F1 O1 H' F O ∧ I (i + 1) e, fun σ' H' q => ⟨ds.length - (i + 1), by omega, rfl, hlt, q⟩, fun x H' y => ?_⟩
      obtain ⟨F', rx, s1, s2, s3, nf⟩ := yl x H' y
      obtain ⟨b2, o2, fr2⟩ := b.grow o s1 s2 s3 nf
      refine gk x _ σ H' F' O e _ _ b2 o2 rx (step i _ e (List.getElem?_eq_getElem hlt) hI) fun σ3 O3 e3 b3 o3 s3 _ h3 => ?_
      have fr3 : Frm H1 F1 O1 H' F' O3 := (fr.trans fr2).perm (fun _ => Iff.rfl) s3
      refine ⟨e3, F', O3, _, b3, o3, h3, loop_le (fr1.trans fr3) ?_⟩
      exact fun σ4 H4 F4 O4 e4 b4 o4 f4 q => ⟨F4, O4, e4, b4, o4, fr3.trans f4, q⟩
    · have e' : i = ds.length := by omega
      subst e'
      exact .inl ⟨g2 (List.getElem?_eq_none (Nat.le_refl _)), F, O, e, b, o, fr1.trans fr, done e hI⟩⟩

/-! ### comprehensions -/
/-- the contexts in which a comprehension's block may run -/
abbrev Blk (X : Cx) (scope : Scope) (k : Cx → Prop) : Prop := ∀ (s : Shared) (H : Hp) (C : Addr) (cl : List (Str × Addr)) (fp : List Addr), k (X.blk s H scope (compEnvC scope cl C X.env) fp)
def tAB (Z : Zb) (X : Cx) (scope : Scope) (e : Expr) : TE := fun σ H Q => ∃ env F O P, Bas Z F H O ∧ OwE F H O σ env ∧ (Blk X scope fun X' => WA Z X' e env P) ∧ ∀ v H', PostA Z σ H F O P v H' → Q v H'
def tTB (Z : Zb) (X : Cx) (scope : Scope) (e : Expr) : TT := fun σ H Q => ∃ env F O P, Bas Z F H O ∧ OwE F H O σ env ∧ (Blk X scope fun X' => WT Z X' e env P) ∧ ∀ v H', PostT Z σ H F O P v H' → Q v H'
theorem pe_AB {scope : Scope} (s : Shared) (H : Hp) (C : Addr) (cl : List (Str × Addr)) (fp : List Addr) : PE (X.blk s H scope (compEnvC scope cl C X.env) fp) elt (tAB Z X scope elt) :=
  ⟨fun pins s' σ H' Q I ⟨env, F, O, P, b, o, w, q⟩ => thn ((w s H C cl fp).run I b o) (EP.imp q)⟩
theorem pt_TB {scope : Scope} (s : Shared) (H : Hp) (C : Addr) (cl : List (Str × Addr)) (fp : List Addr) : PT (X.blk s H scope (compEnvC scope cl C X.env) fp) c (tTB Z X scope c) :=
  ⟨fun pins s' σ H' Q I ⟨env, F, O, P, b, o, w, q⟩ => thn (w s H C cl fp pins s' σ H' F O I b o) fun _ _ ⟨H2, I2, p⟩ => ⟨H2, I2, q _ _ p⟩⟩
/-- one turn's element -/
def ElI (Z : Zb) (X : Cx) (scope : Scope) (elt : Expr) (vs : List Nat) (I : List D → Env → Prop) (acc : List D) (e2 : Env) : Prop :=
  Blk X scope fun X' => WA Z X' elt e2 fun a e3 => absorb [a] e3 fun ds e4 => match ds with
    | [y] => acc.length < sizeLine ∧ I (acc ++ [y]) (wipeE e4 vs)
    | _ => False
def LcI (Z : Zb) (X : Cx) (scope : Scope) (f : TF) (elt : Expr) (vs : List Nat) (T : Env → (Bool → Env → Prop) → Prop) (P : R → Env → Prop) (ds : List D) (e1 : Env) : Prop :=
  ∃ I : Nat → List D → Env → Prop, I 0 [] (wipeE e1 vs) ∧ (∀ k d acc e, ds[k]? = some d → I k acc e → f d e fun e' => T e' fun bb e2 => (bb = true → ElI Z X scope elt vs (I (k + 1)) acc e2) ∧ (bb = false → I (k + 1) acc (wipeE e2 vs))) ∧
    ∀ acc e, I ds.length acc e → ∀ p, P (.t (.lst p acc)) e
theorem lc_read {g : TG} {f : TF} {ix : List Nat} {scope : Scope} {vs : List Nat} {tt : TT} {T : Env → (Bool → Env → Prop) → Prop} (gk : GOk Z g f ix) (hix : ∀ i ∈ ix, i ∈ vs)
    (tk : ∀ σ H F O env k (Q : Bool → Hp → Prop), Bas Z F H O → OwE F H O σ env → T env k → (∀ bb H' F' O' e', Bas Z F' H' O' → OwE F' H' O' σ e' → Frm H F O H' F' O' → k bb e' → Q bb H') → tt σ H Q)
    {σ0 : L2.St} {H0 F0 : Hp} {O0 : List Addr} (b0 : Bas Z F0 H0 O0) (o0 : OwE F0 H0 O0 σ0 env) (h : WI Z X tg iter env (LcI Z X scope f elt vs T PR)) :
    tLc (tI Z X tg iter) g tt (tAB Z X scope elt) vs σ0 H0 (Post Z σ0 H0 F0 O0 PR) := by
  refine ⟨env, F0, O0, _, b0, o0, h, fun J H1 F1 O1 ds e1 b1 o1 fr1 gv ⟨I, i0, step, done⟩ D hD => ?_⟩
  have fD : F1 D = none := b1.sub.free hD
  refine ⟨fun i m H => m = ds.length - i ∧ i ≤ ds.length ∧ ∃ F O e e0 acc accV, Bas Z F H (O ++ [D]) ∧ OwE F H O (wipe σ0 vs) e ∧ e = wipeE e0 vs ∧ H D = some (.lst accV) ∧ RpA F accV acc ∧ Frm H1 F1 O1 H F (O ++ [D]) ∧ I i acc e, ⟨_, rfl, Nat.zero_le _, ?_⟩, ?_⟩
  · -- the start
    obtain ⟨O2, Od, h2, h3⟩ := o1.wipeO vs
    have hn : ∀ a ∈ O1, a ≠ D := fun a ha z => by subst z; exact o1.there a ha hD
    have fr : Frm H1 F1 O1 (upd H1 D (.lst [])) F1 (O2 ++ [D]) := ⟨Same.refl _, fun a o e _ => same_new hD a o e, fun a e => by
      by_cases z : a = D
      · subst z; rw [upd_same]; exact fun z => nomatch z
      · rw [upd_ne z]; exact e, fun a e => .inl e, fun a ha => (List.mem_append.mp ha).elim (fun z => .inl (h3.mem_iff.mpr (List.mem_append_left _ z))) fun z => .inr (by rw [List.mem_singleton.mp z]; exact hD)⟩
    have b2 := (b1.dropP h3).1
    refine ⟨F1, O2, wipeE e1 vs, e1, [], [], ⟨b1.sub.trans (same_new hD), List.nodup_append.mpr ⟨b2.nd, List.nodup_cons.mpr ⟨fun z => (nomatch z), List.nodup_nil⟩, fun a ha c hc z => ?_⟩, fun a ha => ?_, b1.abs.trans fr⟩, ?_, rfl, upd_same, .nil, fr, i0⟩
    · rw [List.mem_singleton.mp hc] at z
      exact hn a (h3.mem_iff.mpr (List.mem_append_left _ ha)) z
    · rcases List.mem_append.mp ha with ha | ha
      · exact b2.dis a ha
      · rw [List.mem_singleton.mp ha]; exact fD
    · have o3 : OwE F1 (upd H1 D (.lst [])) O2 σ0 (wipeE e1 vs) := h2.stay (Same.refl _) fun a ha => upd_ne (hn a (h3.mem_iff.mpr (List.mem_append_left _ ha)))
      exact o3.wiped wipe_wipe
  · rintro i m H ⟨rfl, hi, F, O, e, e0, acc, accV, b, o, he0, hDl, rA, fr, hI⟩
    obtain ⟨g1, g2⟩ := gv F H fr.fz b.sub i
    by_cases hlt : i < ds.length
    · obtain ⟨go, yl⟩ := g1 ds[i] (List.getElem?_eq_getElem hlt)
      refine .inr ⟨go, fun H' => ∃ F O e e0 acc accV, Bas Z F H' (O ++ [D]) ∧ OwE F H' O (wipe σ0 vs) e ∧ e = wipeE e0 vs ∧ H' D = some (.lst accV) ∧ RpA F accV acc ∧ Frm H1 F1 O1 H' F (O ++ [D]) ∧ I (i + 1) acc e, fun H' q => ⟨ds.length - (i + 1), by omega, rfl, hlt, q⟩, fun x H' y => ?_⟩
      obtain ⟨F', rx, s1, s2, s3, nf⟩ := yl x H' y
      have dD : ∀ a ∈ [D], H a ≠ none := fun a ha => by rw [List.mem_singleton.mp ha, hDl]; exact fun z => nomatch z
      have bL := b.left
      obtain ⟨b2, o2, fr2⟩ := bL.grow o s1 s2 s3 nf
      have b2D : Bas Z F' H' (O ++ [D]) := Bas.frame fr2 b b2 dD
      refine gk x _ (wipe σ0 vs) H' F' O e _ _ b2 o2 rx (step i _ acc e (List.getElem?_eq_getElem hlt) hI) fun σ3 O3 e3 b3 o3 s3' w3 h3 => ?_
      have hw : wipe σ3 vs = wipe (wipe σ0 vs) vs := w3 vs hix
      rw [wipe_wipe] at hw
      refine ⟨hw, ?_⟩
      have hD3 : H' D = some (.lst accV) := s2 _ _ hDl
      have dD3 : ∀ a ∈ [D], H' a ≠ none := fun a ha => by rw [List.mem_singleton.mp ha, hD3]; exact fun z => nomatch z
      have fr23 : Frm H F O H' F' O3 := fr2.perm (fun _ => Iff.rfl) s3'
      have b3D : Bas Z F' H' (O3 ++ [D]) := Bas.frame fr23 b b3 dD
      have frD : Frm H1 F1 O1 H' F' (O3 ++ [D]) := fr.trans fr23.frame
      refine tk σ3 H' F' O3 e3 _ _ b3 o3 h3 fun bb H4 F4 O4 e4 b4 o4 fr4 h4 => ?_
      have hD4 : H4 D = some (.lst accV) := fr4.out D _ hD3 fun z => (List.nodup_append.mp b3D.nd).2.2 D z D (List.mem_singleton.mpr rfl) rfl
      have b4D : Bas Z F4 H4 (O4 ++ [D]) := Bas.frame fr4 b3D b4 dD3
      have frD4 : Frm H1 F1 O1 H4 F4 (O4 ++ [D]) := frD.trans fr4.frame
      have dD4 : ∀ a ∈ [D], H4 a ≠ none := fun a ha => by rw [List.mem_singleton.mp ha, hD4]; exact fun z => nomatch z
      -- a turn's end
      have fin : ∀ {H5 F5 : Hp} {O5 : List Addr} {e5 : Env} {acc5 : List PyData} {accV5 : List V}, Bas Z F5 H5 (O5 ++ [D]) → OwE F5 H5 O5 σ3 e5 → H5 D = some (.lst accV5) → RpA F5 accV5 acc5 → Frm H1 F1 O1 H5 F5 (O5 ++ [D]) → I (i + 1) acc5 (wipeE e5 vs) →
          ∃ F O e e0 acc accV, Bas Z F H5 (O ++ [D]) ∧ OwE F H5 O (wipe σ0 vs) e ∧ e = wipeE e0 vs ∧ H5 D = some (.lst accV) ∧ RpA F accV acc ∧ Frm H1 F1 O1 H5 F (O ++ [D]) ∧ I (i + 1) acc e := fun {H5 F5 O5 e5 acc5 accV5} b5 o5 hD5 r5 fr5 hI5 => by
        obtain ⟨O6, Od6, h6, p6⟩ := o5.wipeO vs
        have p6' : (O5 ++ [D]).Perm ((O6 ++ [D]) ++ Od6) := (p6.append_right [D]).trans (by
          rw [List.append_assoc, List.append_assoc]
          exact List.perm_append_comm.append_left O6)
        refine ⟨F5, O6, wipeE e5 vs, e5, acc5, accV5, (b5.perm p6').left, h6.wiped ?_, rfl, hD5, r5, fr5.perm (fun _ => Iff.rfl) fun c hc => p6'.mem_iff.mpr (List.mem_append_left _ hc), hI5⟩
        rw [wipe_wipe]
        exact hw.symm
      cases bb with
      | false => exact iteF (fin b4D o4 hD4 (rA.mono (s1.trans fr4.fz)) frD4 (h4.2 rfl))
      | true =>
        refine iteT ⟨e4, F4, O4, _, b4, o4, h4.1 rfl, fun y H5 ⟨F5, O5, a5, e5, b5, o5, st5, fr5, p5⟩ => ?_⟩
        obtain ⟨F6, O6, ds6, e6, b6, o6, r6, fr6, q6⟩ := absorb_ok (.cons st5 .nil) b5 o5 p5
        have fr56 := fr5.trans fr6
        cases r6 with
        | cons r7 rr =>
          cases rr
          obtain ⟨hz, q7⟩ := q6
          have hD5 : H5 D = some (.lst accV) := fr5.out D _ hD4 fun z => (List.nodup_append.mp b4D.nd).2.2 D z D (List.mem_singleton.mpr rfl) rfl
          have b6D : Bas Z F6 H5 (O6 ++ [D]) := Bas.frame fr56 b4D b6 dD4
          have frD6 : Frm H1 F1 O1 H5 F6 (O6 ++ [D]) := frD4.trans fr56.frame
          have nD : ∀ a ∈ O6, a ≠ D := fun a ha z => (List.nodup_append.mp b6D.nd).2.2 a ha D (List.mem_singleton.mpr rfl) z
          have fD6 : F6 D = none := b6D.dis D (List.mem_append_right _ (List.mem_singleton.mpr rfl))
          have rA6 : RpA F6 accV acc := rA.mono (s1.trans (fr4.fz.trans fr56.fz))
          refine ⟨accV, hD5, by rw [rA6.len]; exact hz, ?_⟩
          have hs : Same F6 (upd H5 D (.lst (accV ++ [y]))) := fun a x ha => by
            have z : a ≠ D := fun z => by subst z; rw [fD6] at ha; cases ha
            rw [upd_ne z]; exact b6D.sub a x ha
          have fr7 : Frm H5 F6 (O6 ++ [D]) (upd H5 D (.lst (accV ++ [y]))) F6 (O6 ++ [D]) := ⟨Same.refl _, fun a x ha hn => by
            rw [upd_ne fun z => hn (by rw [z]; exact List.mem_append_right _ (List.mem_singleton.mpr rfl))]; exact ha, fun a ha => by
            by_cases z : a = D
            · subst z; rw [upd_same]; exact fun z => nomatch z
            · rw [upd_ne z]; exact ha, fun a ha => .inl ha, fun a ha => .inl ha⟩
          exact fin ⟨hs, b6D.nd, b6D.dis, b6D.abs.trans fr7⟩ (o6.stay (Same.refl _) fun a ha => upd_ne (nD a ha)) upd_same (rA6.app (.cons r7 .nil)) (frD6.trans fr7) q7
    · have e' : i = ds.length := by omega
      subst e'
      refine .inl ⟨g2 (List.getElem?_eq_none (Nat.le_refl _)), F, O ++ [D], .t (.lst D acc), e, b, ⟨O, [D], rfl, ?_, .lst hDl rA⟩, fr1.trans fr, done acc e hI D⟩
      subst he0
      exact o.wiped wipe_wipe.symm
theorem w_lc {g : TG} {f : TF} {ix : List Nat} {scope : Scope} {own : List (Str × Nat)} (hc : X.calm = true) (hN : X.N.Nodup) (ok : BlkOk X.N X.env.scope scope own) (hg : Blk X scope fun X' => PG X' tg g) (gk : GOk Z g f ix) (hix : ∀ i ∈ ix, i ∈ own.map (·.2))
    (h : WI Z X tg iter env (LcI Z X scope f elt (own.map (·.2)) (fun e k => k true e) PR)) (hs : ∀ x, foldedSetIterable iter X.env x = pure x := by intro _; rfl) : WE Z X (.ListComp elt [⟨tg, iter, [], 0⟩] scope pos) env PR :=
  we_of (pe_lc (own := own) hc hN (pi_I (Z := Z)) ok hg (fun _ _ _ _ _ => pts_nil) (pe_AB (Z := Z)) hs) fun σ H F O b o => lc_read gk hix (fun σ H F O env k Q b o t q => q true H F O env b o (Frm.refl _ _ _) t) b o h
theorem w_lcIf {g : TG} {f : TF} {ix : List Nat} {scope : Scope} {own : List (Str × Nat)} (hc : X.calm = true) (hN : X.N.Nodup) (ok : BlkOk X.N X.env.scope scope own) (hg : Blk X scope fun X' => PG X' tg g) (gk : GOk Z g f ix) (hix : ∀ i ∈ ix, i ∈ own.map (·.2))
    (h : WI Z X tg iter env (LcI Z X scope f elt (own.map (·.2)) (fun e k => Blk X scope fun X' => WT Z X' c e k) PR)) (hs : ∀ x, foldedSetIterable iter X.env x = pure x := by intro _; rfl) : WE Z X (.ListComp elt [⟨tg, iter, [c], 0⟩] scope pos) env PR :=
  we_of (pe_lc (own := own) hc hN (pi_I (Z := Z)) ok hg (fun s H C cl fp => pts_one (pt_TB (Z := Z) s H C cl fp)) (pe_AB (Z := Z)) hs) fun σ H F O b o =>
    lc_read gk hix (fun σ H F O env k Q b o t q => ⟨env, F, O, k, b, o, t, fun v H' ⟨F1, O1, e1, b1, o1, fr1, p⟩ => q v H' F1 O1 e1 b1 o1 fr1 p⟩) b o h
end
end QL

/-! QF: what a def promises, over data; its body; its calls. -/
namespace QL
open PySem PySem.Spec PyProof.Rows L2

inductive StV (F H : Hp) : List Addr → List V → List T → Prop
  | nil : StV F H [] [] []
  | cons {O1 O2 : List Addr} {v : V} {t : T} {vs : List V} {ts : List T} : Ow F H O1 v t → StV F H O2 vs ts → StV F H (O1 ++ O2) (v :: vs) (t :: ts)
inductive StVO (F H : Hp) : List Addr → List V → List (Option T) → Prop
  | nil : StVO F H [] [] []
  | un {O2 : List Addr} {v : V} {vs : List V} {ts : List (Option T)} : StVO F H O2 vs ts → StVO F H O2 (v :: vs) (none :: ts)
  | cons {O1 O2 : List Addr} {v : V} {t : T} {vs : List V} {ts : List (Option T)} : Ow F H O1 v t → StVO F H O2 vs ts → StVO F H (O1 ++ O2) (v :: vs) (some t :: ts)
theorem StV.len {F H : Hp} : ∀ {O : List Addr} {vs : List V} {ts : List T}, StV F H O vs ts → vs.length = ts.length
  | _, _, _, .nil => rfl
  | _, _, _, .cons _ r => congrArg (· + 1) r.len

/-- an error: its class, its fields -/
structure Ex where
  C : Addr
  fs : List (Str × D)
inductive RpF (F : Hp) : List (Str × V) → List (Str × D) → Prop
  | nil : RpF F [] []
  | cons {n : Str} {v : V} {d : D} {vs : List (Str × V)} {ds : List (Str × D)} : Rp F v d → RpF F vs ds → RpF F ((n, v) :: vs) ((n, d) :: ds)
theorem RpF.mono {F F' : Hp} (s : Same F F') : ∀ {v : List (Str × V)} {d : List (Str × D)}, RpF F v d → RpF F' v d
  | _, _, .nil => .nil
  | _, _, .cons h r => .cons (h.mono s) (RpF.mono s r)
def ExAt (F : Hp) (ex : Ex) (cls : Value) (d : Option Addr) : Prop := cls = .ref ex.C ∧ ∃ dd vfs, d = some dd ∧ F dd = some (.xd vfs) ∧ RpF F vfs ex.fs

/-- what a def promises: its arguments; what is wanted of its answer and of what the arguments hold then; of an error -/
abbrev Spc := List T → (T → List (Option T) → Prop) → (Ex → List (Option T) → Prop) → Prop
structure FnG (P : Program) (w : World) (K : PySem.W.Frag) (mg : Str → Option Value) (base : Heap) (k : Nat) (f : Addr) (fd : FuncData) (ps : List Str) (sp : Spc) : Prop where
  len : ∀ ts Q E, sp ts Q E → ts.length = ps.length
  run : ∀ (A : Around) (outer : List PySem.Env) (s : Shared) (H : Hp) (args : Args) (us : List Value) (vs : List V) (F : Hp) (O : List Addr) (ts : List T) (QT : T → List (Option T) → Prop) (ET : Ex → List (Option T) → Prop) (E : XK),
    Room k A → A.guards = some [] → Env0 P w K mg base A outer s H → BindsTo s fd args (ps.zip us) → Vals vs us → Bas ⟨H, F, O⟩ F H O → StV F H O vs ts → sp ts QT ET →
    (∀ ex ts' cls d H' F' O', Bas ⟨H, F, O⟩ F' H' O' → StVO F' H' O' vs ts' → ExAt F' ex cls d → ET ex ts' → E cls d H') →
    codeAny (model P w) A (.call (.ref f) args) (CR (L2.CX P w) outer P w H s (fun v H' => ∃ F' O1 O2 t ts', Bas ⟨H, F, O⟩ F' H' (O1 ++ O2) ∧ StVO F' H' O1 vs ts' ∧ Ow F' H' O2 v t ∧ QT t ts') E) s
theorem FnG.mono {P : Program} {w : World} {K : PySem.W.Frag} {mg : Str → Option Value} {base : Heap} {j k : Nat} {f : Addr} {fd : FuncData} {ps : List Str} {sp : Spc} (G : FnG P w K mg base j f fd ps sp) (h : j ≤ k) : FnG P w K mg base k f fd ps sp :=
  ⟨G.len, fun A outer s H args us vs F O ts QT ET E hr => G.run A outer s H args us vs F O ts QT ET E (hr.mono h)⟩

/-! ### the arguments taken, and put back -/
def deref : List A → Env → (List T → Env → Prop) → Prop
  | [], env, k => k [] env
  | .va d :: as, env, k => deref as env fun ts e => k (.va d :: ts) e
  | .bor a i p :: as, env, k => match getP i p env with
    | some t => t.addr = some a ∧ deref as (setP i p (.hole a) env) fun ts e => k (t :: ts) e
    | none => False
def putb : List A → List (Option T) → Env → (Env → Prop) → Prop
  | [], _, env, k => k env
  | .va _ :: as, _ :: ts, env, k => putb as ts env k
  | .bor a i p :: as, some t :: ts, env, k => getP i p env = some (.hole a) ∧ t.addr = some a ∧ putb as ts (setP i p t env) k
  | _, _, _, _ => False
theorem deref_ok {σ : L2.St} {F H : Hp} : ∀ {as : List A} {vs : List V} {O : List Addr} {env : Env} {k : List T → Env → Prop}, StAs F vs as → OwE F H O σ env → deref as env k →
    ∃ ts e Oc Or, O.Perm (Oc ++ Or) ∧ StV F H Oc vs ts ∧ OwE F H Or σ e ∧ k ts e
  | [], _, O, env, k, .nil, o, h => ⟨[], env, [], O, List.Perm.refl _, .nil, o, h⟩
  | .va d :: as, _, O, env, k, .cons st r, o, h => by
    obtain ⟨ts, e, Oc, Or, p, s, o', q⟩ := deref_ok r o h
    exact ⟨.va d :: ts, e, [] ++ Oc, Or, p, .cons (.va st) s, o', q⟩
  | .bor a i p :: as, _, O, env, k, .cons st r, o, h => by
    unfold deref at h
    cases hg : getP i p env with
    | none => rw [hg] at h; exact h.elim
    | some t =>
      rw [hg] at h
      obtain ⟨w, ⟨Oj, O', h1, h2, h3⟩, _⟩ := o.focus hg
      have hw := h1.ref h.1
      have st : _ = V.ref a := st
      subst st hw
      obtain ⟨O'', q1, q2⟩ := h3 F H [] (.hole a) (Same.refl _) (fun _ _ => rfl) .hole
      obtain ⟨ts, e, Oc, Or, p', s, o', q⟩ := deref_ok r q1 h.2
      refine ⟨t :: ts, e, Oj ++ Oc, Or, ?_, .cons h1 s, o', q⟩
      rw [List.append_assoc]
      exact h2.trans ((q2.symm.trans p').append_left Oj)
theorem putb_ok {σ : L2.St} {F F0 H : Hp} : ∀ {as : List A} {vs : List V} {ts : List (Option T)} {Oc Or : List Addr} {env : Env} {k : Env → Prop}, StAs F0 vs as → StVO F H Oc vs ts → OwE F H Or σ env → putb as ts env k →
    ∃ e O3 Od, OwE F H O3 σ e ∧ (Oc ++ Or).Perm (O3 ++ Od) ∧ k e
  | [], _, _, _, Or, env, k, .nil, .nil, o, h => ⟨env, Or, [], o, by rw [List.append_nil]; exact List.Perm.refl _, h⟩
  | .va d :: as, _, _, _, Or, env, k, .cons _ r, .un s, o, h => by
    obtain ⟨e, O3, Od, o', p, q⟩ := putb_ok r s o h
    exact ⟨e, O3, Od, o', p, q⟩
  | .va d :: as, _, _, _, Or, env, k, .cons _ r, .cons (O1 := O1) (O2 := O2) _ s, o, h => by
    obtain ⟨e, O3, Od, o', p, q⟩ := putb_ok r s o h
    refine ⟨e, O3, O1 ++ Od, o', ?_, q⟩
    rw [List.append_assoc, ← List.append_assoc O3]
    exact (p.append_left O1).trans (by rw [← List.append_assoc]; exact List.perm_append_comm.append_right Od)
  | .bor a i p :: as, _, _, _, Or, env, k, .cons st r, .un s, o, h => h.elim
  | .bor a i p :: as, _, _, _, Or, env, k, .cons st r, .cons (O1 := O1) (O2 := O2) w s, o, h => by
    obtain ⟨hg, ha, h⟩ := h
    obtain ⟨w', ⟨Oj, O', h1, h2, h3⟩, _⟩ := o.focus hg
    have st : _ = V.ref a := st
    subst st
    cases h1
    obtain ⟨O'', q1, q2⟩ := h3 F H O1 _ (Same.refl _) (fun _ _ => rfl) w
    obtain ⟨e, O3, Od, o', p', q⟩ := putb_ok r s q1 h
    refine ⟨e, O3, Od, o', ?_, q⟩
    refine List.Perm.trans ?_ p'
    have e1 : (O2 ++ O'').Perm (O2 ++ (O1 ++ Or)) := (q2.trans (h2.symm.append_left O1 |>.trans (List.Perm.refl _))).append_left O2
    refine List.Perm.trans ?_ e1.symm
    rw [← List.append_assoc]
    exact List.perm_append_comm.append_right Or
def callD (sp : Spc) (as : List A) (env : Env) (PT : T → Env → Prop) (ET : Ex → Env → Prop) : Prop :=
  deref as env fun ts e2 => sp ts (fun t ts' => putb as ts' e2 fun e3 => PT t e3) (fun ex ts' => putb as ts' e2 fun e3 => ET ex e3)
/-- what is wanted of an error, with the slots -/
def wxOf (Z : Zb) (ET : Ex → Env → Prop) : WX := fun cls d σ H => ∃ F O env ex, Bas Z F H O ∧ OwE F H O σ env ∧ ExAt F ex cls d ∧ ET ex env

section
variable {Z : Zb} {X : Cx} {env : Env} {P : R → Env → Prop} {ET : Ex → Env → Prop}
theorem call_g {k : Nat} {f : Addr} {fd : FuncData} {ps : List Str} {sp : Spc} {as : List A} {vs : List V} {us us0 : List Value} {kw : List (Str × Value)} {pins : List (Addr × Obj)} {s : Shared} {σ : L2.St} {H F : Hp} {O : List Addr}
    (G : FnG X.prog X.w X.K X.mg X.base k f fd ps sp) (hr : Room k X.A) (hg : X.A.guards = some []) (tk : Takes X (wxOf Z ET)) (hb : BindsTo s fd ⟨us0, kw⟩ (ps.zip us)) (I : Inv X pins σ H s) (b : Bas Z F H O) (o : OwE F H O σ env)
    (st : StAs F vs as) (r : Vals vs us) (h : callD sp as env (fun t e => P (.t t) e) ET) : wpAny (model X.prog X.w) X.A (call (.ref f) us0 kw) (EP X pins σ (Post Z σ H F O P)) X.xe s := by
  obtain ⟨ts, e2, Oc, Or, pm, sv, o2, h⟩ := deref_ok st o h
  have bc := (b.perm pm).left.entry
  have ex : ∀ c ∈ Or, H c ≠ none := o2.there
  refine wpAny_call (codeAny_mono (G.run X.A X.stack s H ⟨us0, kw⟩ us vs F Oc ts _ _ (fun cls d H' => ∃ e ts' F' O', Bas ⟨H, F, Oc⟩ F' H' O' ∧ StVO F' H' O' vs ts' ∧ ExAt F' e cls d ∧ putb as ts' e2 fun e3 => ET e e3) hr hg I.env0 hb r bc sv h
    fun e ts' cls d H' F' O' b' s' x' q => ⟨e, ts', F', O', b', s', x', q⟩) fun rs s' hq => ?_)
  have back : ∀ {F' H' : Hp} {O1 O2 : List Addr} {ts' : List (Option T)} {kk : Env → Prop}, Bas ⟨H, F, Oc⟩ F' H' (O1 ++ O2) → StVO F' H' O1 vs ts' → putb as ts' e2 kk →
      ∃ e3 O3, OwE F' H' O3 σ e3 ∧ Bas Z F' H' (O3 ++ O2) ∧ Frm H F O H' F' (O3 ++ O2) ∧ kk e3 := fun {F' H' O1 O2 ts' kk} b' s' q => by
    have fr := b'.abs
    have b3 := Bas.frame fr (b.perm pm) b' ex
    have keep := fr.rest (R := Or) (pm.nodup b.nd) ex
    obtain ⟨e3, O3, Od, o3, p3, q3⟩ := putb_ok st s' (o2.stay fr.fz keep) q
    have p4 : ((O1 ++ O2) ++ Or).Perm ((O3 ++ O2) ++ Od) := by
      have e1 : ((O1 ++ O2) ++ Or).Perm ((O1 ++ Or) ++ O2) := by
        rw [List.append_assoc, List.append_assoc]
        exact List.perm_append_comm.append_left O1
      have e2 : ((O3 ++ O2) ++ Od).Perm ((O3 ++ Od) ++ O2) := by
        rw [List.append_assoc, List.append_assoc]
        exact List.perm_append_comm.append_left O3
      exact e1.trans ((p3.append_right O2).trans e2.symm)
    exact ⟨e3, O3, o3, (b3.perm p4).left, (fr.frame (R := Or)).perm (fun c => pm.symm.mem_iff) (fun c hc => p4.mem_iff.mpr (List.mem_append_left _ hc)), q3⟩
  cases rs with
  | error e =>
    refine tk e s' (XE.of_call I (fun cls d H' hE => ?_) hq)
    obtain ⟨x, ts', F', O', b', sv', xa, q⟩ := hE
    obtain ⟨e3, O3, o3, b3, fr3, q3⟩ := back (O2 := []) (by rw [List.append_nil]; exact b') sv' q
    rw [List.append_nil] at b3 fr3
    exact ⟨F', O3, e3, x, b3, o3, xa, q3⟩
  | ok fl =>
    cases fl with
    | ret u =>
      refine EP.imp (fun v H' q => ?_) u s' (I.after hq)
      obtain ⟨F', O1, O2, t, ts', b', sv', w', q⟩ := q
      obtain ⟨e3, O3, o3, b3, fr3, q3⟩ := back b' sv' q
      exact ⟨F', O3 ++ O2, .t t, e3, b3, ⟨O3, O2, rfl, o3, w'⟩, fr3, q3⟩
    | next => exact hq.elim
    | brk => exact hq.elim
    | cont => exact hq.elim

/-! ### f(a, ..), f(a, .., k = b, ..) -/
/-- the parameters in their order, from what is written by place (us) and by name (ws, names ks): g and its twins over data -/
structure KwB (K : PySem.W.Frag) (fd : FuncData) (ps ks : List Str) (n m : Nat) (g : {α : Type} → List α → List α → (List α)) (ds : List Value) (dds : List D) : Prop where
  to : ∀ (s : Shared) (us ws : List Value), K.In s.heap → us.length = n → ws.length = m → BindsTo s fd ⟨us, ks.zip ws⟩ (ps.zip (g us ws ++ ds))
variable {x : Str} {p pos : Pos} {e : Expr} {es : List Expr}
def vaAll (ds : List D) : List A := ds.map A.va
theorem w_call {k : Nat} {f : Addr} {fd : FuncData} {ps : List Str} {sp : Spc} {ds : List Value} {vds : List V} {dds : List D} (G : FnG X.prog X.w X.K X.mg X.base k f fd ps sp) (hr : Room k X.A) (hgd : X.A.guards = some []) (tk : Takes X (wxOf Z ET))
    (hm : X.mg x = some (.ref f)) (hk : PySem.W.keepIn X.K (.ref f) = true) (hb : Binds X.K fd ps ds) (hd : Vals vds ds) (hdd : ∀ F : Hp, StAs F vds (vaAll dds)) (h : WAs Z X (e :: es) env fun as e1 => callD sp (as ++ vaAll dds) e1 (fun t e => P (.t t) e) ET)
    (hg : Gl X x := by rfl) (hdb : (x == ("__debug__" : Str)) = false := by decide) (he : starEach (e :: es) X.env = (false, eval e X.env) :: starEach es X.env := by rfl) (hpl : (backTo pos (starEach es X.env)).any (·.1) = false := by rfl) :
    WE Z X (.Call (.Name x p) (e :: es) [] pos) env P := fun pins s σ H F O I b o => by
  refine wpAny_Call_Name_kw (ld_glob I hg hm ?_ hdb)
  refine PySem.W.callWith_K (h₀ := X.base) I.ok.mod.kin hk (thn ((pa_As (Z := Z)).run pos pins s σ H (PostAs Z σ H F O _) I ⟨env, F, O, _, b, o, h, fun _ _ q => q⟩) fun us s1 ⟨vs, H1, I1, r, F1, O1, as, e1, b1, o1, st, fr, q⟩ => ⟨I1.kIn, ?_⟩) he hpl
  have sapp : ∀ {vs : List V} {as : List A}, StAs F1 vs as → StAs F1 (vs ++ vds) (as ++ vaAll dds) := fun {vs as} z => by
    induction z with
    | nil => exact hdd F1
    | cons a _ ih => exact .cons a ih
  have r2 : Vals (vs ++ vds) (us ++ ds) := r.append hd
  have hl : (us ++ ds).length = ps.length := by
    obtain ⟨ts, e2, Oc, Or, pm, sv, o2, hh⟩ := deref_ok (sapp st) o1 q
    rw [← r2.length, sv.len, G.len _ _ _ hh]
  exact thn (call_g (us0 := us) (kw := []) (us := us ++ ds) G hr hgd tk (hb s1 us I1.kIn hl) I1 b1 o1 (sapp st) r2 q) (EP.imp fun v H' q => q.from fr)
theorem w_call0 {k : Nat} {f : Addr} {fd : FuncData} {ps : List Str} {sp : Spc} {ds : List Value} {vds : List V} {dds : List D} (G : FnG X.prog X.w X.K X.mg X.base k f fd ps sp) (hr : Room k X.A) (hgd : X.A.guards = some []) (tk : Takes X (wxOf Z ET))
    (hm : X.mg x = some (.ref f)) (hk : PySem.W.keepIn X.K (.ref f) = true) (hb : Binds X.K fd ps ds) (hd : Vals vds ds) (hdd : ∀ F : Hp, StAs F vds (vaAll dds)) (h : callD sp (vaAll dds) env (fun t e => P (.t t) e) ET)
    (hg : Gl X x := by rfl) (hdb : (x == ("__debug__" : Str)) = false := by decide) : WE Z X (.Call (.Name x p) [] [] pos) env P := fun pins s σ H F O I b o => by
  refine wpAny_Call_Name_kw (ld_glob I hg hm ?_ hdb)
  have hl : ds.length = ps.length := by
    obtain ⟨ts, e2, Oc, Or, pm, sv, o2, hh⟩ := deref_ok (hdd F) o h
    rw [← hd.length, sv.len, G.len _ _ _ hh]
  exact PySem.W.callWith_K0 I.kIn hk (call_g (us0 := []) (kw := []) (us := ds) G hr hgd tk (hb s [] I.kIn hl) I b o (hdd F) hd h)
end

/-! ### a def's body -/
def startE (N : List Str) (ts : List T) : Env := ts.map some ++ List.replicate (N.length - ts.length) none
theorem StV.start {F H : Hp} {N : List Str} : ∀ {O : List Addr} {vs : List V} {ts : List T}, StV F H O vs ts → ∀ m, OwE F H O (vs.map some ++ List.replicate m none) (ts.map some ++ List.replicate m none)
  | _, _, _, .nil, m => by
    induction m with
    | zero => exact .nil
    | succ m ih => exact .un ih
  | _, _, _, .cons w r, m => .so w (r.start (N := N) m)
/-- what the parameters' slots hold at the end: what was handed in, as it is now -/
def back (ts : List T) (e : Env) (k : List (Option T) → Prop) : Prop := match ts, e with
  | t :: ts, u :: e => match t.addr with
    | none => back ts e fun r => k (none :: r)
    | some a => match u with
      | some u => u.addr = some a ∧ back ts e fun r => k (some u :: r)
      | none => False
  | _ :: _, [] => False
  | [], _ => k []
theorem back_ok {F F0 H0 H : Hp} : ∀ {O0 O : List Addr} {vs : List V} {ts : List T} {σ : L2.St} {e : Env} {k : List (Option T) → Prop}, StV F0 H0 O0 vs ts → OwE F H O σ e → back ts e k → ∃ O' Od ts', O.Perm (O' ++ Od) ∧ StVO F H O' vs ts' ∧ k ts'
  | _, O, _, _, _, _, k, .nil, o, h => ⟨[], O, [], List.Perm.refl _, .nil, by unfold back at h; exact h⟩
  | _, _, _, _, _, _, k, .cons w0 r0, .nil, h => h.elim
  | _, _, _, _, _, _, k, .cons (t := t0) w0 r0, .un r, h => by
    unfold back at h
    cases h0 : t0.addr with
    | none =>
      rw [h0] at h
      obtain ⟨O', Od, ts', p, s, q⟩ := back_ok r0 r h
      exact ⟨O', Od, _, p, .un s, q⟩
    | some a => rw [h0] at h; exact h.elim
  | _, _, _, _, _, _, k, .cons (t := t0) w0 r0, .so (O1 := O1) (t := t) w r, h => by
    unfold back at h
    cases h0 : t0.addr with
    | none =>
      rw [h0] at h
      obtain ⟨O', Od, ts', p, s, q⟩ := back_ok r0 r h
      refine ⟨O', O1 ++ Od, _, ?_, .un s, q⟩
      exact (p.append_left O1).trans (by rw [← List.append_assoc, ← List.append_assoc]; exact List.perm_append_comm.append_right Od)
    | some a =>
      rw [h0] at h
      obtain ⟨O', Od, ts', p, s, q⟩ := back_ok r0 r h.2
      have e1 := w0.ref h0
      have e2 := w.ref h.1
      subst e1 e2
      exact ⟨O1 ++ O', Od, _, by rw [List.append_assoc]; exact p.append_left O1, .cons w s, q⟩
def finP (QT : T → List (Option T) → Prop) (ts : List T) : Out → Prop
  | .ret t e => back ts e (QT t)
  | .nx e => back ts e (QT (.va .none))
  | _ => False
/-- the context of a def's body -/
abbrev BX (P : Program) (w : World) (K : PySem.W.Frag) (mg : Str → Option Value) (base : Heap) (N : List Str) (qual : Str) (st : Stmt) (f : Addr) (cdv : Value) (A : Around) (outer : List PySem.Env) (s : Shared) (H : Hp) (E : XK) : Cx :=
  cxOf (L2.CX P w) P w K mg base N qual (defScope st) f cdv A outer s H E
theorem fn_g {P : Program} {w : World} {K : PySem.W.Frag} {mg : Str → Option Value} {base : Heap} {x qual : Str} {st : Stmt} {f : Addr} {fd : FuncData} {N ps : List Str} {k : Nat} {sp : Spc} (Fn : Fun K x qual st f fd) (S : FnScope N ps (defScope st)) (len : ∀ ts Q E, sp ts Q E → ts.length = ps.length)
    (hbody : ∀ (cdv : Value) (A : Around) (outer : List PySem.Env) (s : Shared) (H : Hp) (E : XK) (Z : Zb) (ts : List T) (QT : T → List (Option T) → Prop) (ET : Ex → List (Option T) → Prop), Room k (BX P w K mg base N qual st f cdv A outer s H E).A → (BX P w K mg base N qual st f cdv A outer s H E).A.guards = some [] →
      PassesOwn (model P w) (BX P w K mg base N qual st f cdv A outer s H E).A (BX P w K mg base N qual st f cdv A outer s H E).env (BX P w K mg base N qual st f cdv A outer s H E).xe →
      Takes (BX P w K mg base N qual st f cdv A outer s H E) (wxOf Z fun ex e => back ts e (ET ex)) → sp ts QT ET → WSs Z (BX P w K mg base N qual st f cdv A outer s H E) (defBody st) (startE N ts) (finP QT ts)) : FnG P w K mg base (k + 1) f fd ps sp := by
  obtain ⟨oc, od, kV, doc, pm, an, cdv, ct, osl, rfl, lk, hcd⟩ := Fn.ex
  refine ⟨len, fun A outer s H args us vs F O ts QT ET E hr hg e0 hb r b sv hsp hE => ?_⟩
  have hl : vs.length = ps.length := sv.len.trans (len _ _ _ hsp)
  refine Att.call_fn (e0.mod.kin.keeps fun b o e => (e0.bs b o e).1) (e0.mod.nolimit.keeps fun b o e => (e0.bs b o e).1) lk hcd hr.depth hb ?_ (fun s1 ic => ?_) S.co S.gen S.kind
  · refine List.all_eq_true.mpr fun y hy => ?_
    rcases S.par y.1 (List.of_mem_zip hy).1 with q | q <;> rw [q] <;> rfl
  · have I : Inv (BX P w K mg base N qual st f cdv A outer s H E) [] (L2.start N vs) H s1 := inv_start S hr.hd e0 hl r ic
    have tk : Takes (BX P w K mg base N qual st f cdv A outer s H E) (wxOf ⟨H, F, O⟩ fun ex e => back ts e (ET ex)) := by
      refine (takes_of (X := BX P w K mg base N qual st f cdv A outer s H E) (E := E) rfl rfl rfl rfl).imp fun cls d σ H' ⟨F', O', env, ex, b', o', xa, q⟩ => ?_
      obtain ⟨O1, Od, ts', p1, s1, q⟩ := back_ok sv o' q
      exact hE ex _ cls d H' F' O1 (b'.perm p1).left s1 xa q
    have hgd : (BX P w K mg base N qual st f cdv A outer s H E).A.guards = some [] := hg
    have body := hbody cdv A outer s H E ⟨H, F, O⟩ ts QT ET (hr.deeper _) hgd (passes_of (X := BX P w K mg base N qual st f cdv A outer s H E) rfl) tk hsp
    have o0 : OwE F H O (L2.start N vs) (startE N ts) := by
      unfold L2.start startE
      rw [sv.len]
      exact sv.start (N := N) _
    refine wpAny_mono (body [] s1 (L2.start N vs) H F O I b o0) (fun fl s' hs => ?_) fun e s' hs => hs
    have fin : ∀ {σ' : L2.St} {H' F' : Hp} {O1 O2 : List Addr} {t : T} {e : Env} {v : V} {u : Value}, Inv (BX P w K mg base N qual st f cdv A outer s H E) [] σ' H' s' → RelV v u → Bas ⟨H, F, O⟩ F' H' (O1 ++ O2) → (∃ σ'', OwE F' H' O1 σ'' e) → Ow F' H' O2 v t → back ts e (QT t) →
        CE outer P w H s (fun v H' => ∃ F' O1 O2 t ts', Bas ⟨H, F, O⟩ F' H' (O1 ++ O2) ∧ StVO F' H' O1 vs ts' ∧ Ow F' H' O2 v t ∧ QT t ts') u s' := fun {σ' H' F' O1 O2 t e v u} J rv b' ⟨σ'', o'⟩ w' q => by
      obtain ⟨O3, Od, ts', p3, s3, q⟩ := back_ok sv o' q
      refine ⟨v, H', J.os, J.bare, J.base, J.hok, rv, F', O3, O2, t, _, ?_, s3, w', q⟩
      have p4 : (O1 ++ O2).Perm ((O3 ++ O2) ++ Od) := (p3.append_right O2).trans (by
        rw [List.append_assoc, List.append_assoc]
        exact List.perm_append_comm.append_left O3)
      exact (b'.perm p4).left
    cases fl with
    | ret u =>
      obtain ⟨v, σ', H', J, rv, F', O1, O2, σ'', t, e, b', o', w', _, q⟩ := hs
      exact fin J rv b' ⟨σ'', o'⟩ w' q
    | next =>
      obtain ⟨σ', H', J, F', O1, e, b', o', _, q⟩ := hs
      exact fin (v := V.non) (u := Value.none) (t := .va .none) (O2 := []) J rfl (by rw [List.append_nil]; exact b') ⟨_, o'⟩ (.va .non) q
    | brk =>
      obtain ⟨_, _, _, _, _, _, _, _, _, q⟩ := hs
      exact q.elim
    | cont =>
      obtain ⟨_, _, _, _, _, _, _, _, _, q⟩ := hs
      exact q.elim
end QL

/-! QG: subscripts, slices, items stored, pairs stored, calls of built-ins. -/
namespace QL
open PySem PySem.Spec PyProof.Rows L2

theorem mutL {Z : Zb} {F H : Hp} {O : List Addr} {σ : L2.St} {env : Env} {i : Nat} {p : List Str} {a : Addr} {ds : List D} (b : Bas Z F H O) (o : OwE F H O σ env) (hg : getP i p env = some (.lst a ds)) :
    ∃ xs, H a = some (.lst xs) ∧ RpA F xs ds ∧ ∀ ys es, RpA F ys es → ∃ O', Bas Z F (upd H a (.lst ys)) O' ∧ OwE F (upd H a (.lst ys)) O' σ (setP i p (.lst a es) env) ∧ Frm H F O (upd H a (.lst ys)) F O' := by
  obtain ⟨w, ⟨Oj, O', h1, h2, h3⟩, _⟩ := o.focus hg
  cases h1 with
  | lst hH r =>
    refine ⟨_, hH, r, fun ys es r' => ?_⟩
    have nd := h2.nodup b.nd
    have ha : a ∈ O := h2.mem_iff.mpr (List.mem_append_left _ (List.mem_singleton.mpr rfl))
    have hn : ∀ c ∈ O', c ≠ a := fun c hc z => (List.nodup_append.mp nd).2.2 a (List.mem_singleton.mpr rfl) c hc z.symm
    obtain ⟨O'', q1, q2⟩ := h3 F (upd H a (.lst ys)) [a] (.lst a es) (Same.refl _) (fun c hc => upd_ne (hn c hc)) (.lst upd_same r')
    have pm : O.Perm O'' := h2.trans q2.symm
    have fr : Frm H F O (upd H a (.lst ys)) F O'' := ⟨Same.refl _, fun c x e n => by rw [upd_ne fun z => n (by rw [z]; exact ha)]; exact e, fun c e => by
      by_cases z : c = a
      · subst z; rw [upd_same]; exact fun z => nomatch z
      · rw [upd_ne z]; exact e, fun c e => .inl e, fun c hc => .inl (pm.mem_iff.mpr hc)⟩
    have da := b.dis a ha
    refine ⟨O'', ⟨fun c x e => ?_, pm.nodup b.nd, fun c hc => b.dis c (pm.mem_iff.mpr hc), b.abs.trans fr⟩, q1, fr⟩
    rw [upd_ne fun z => by rw [z, da] at e; cases e]
    exact b.sub c x e

/-! ### subscripts -/
theorem RpA.at {F : Hp} {xs : List V} {ds : List D} {i : Int} {d : D} (r : RpA F xs ds) (h : atI ds i = some d) : ∃ v, atI xs i = some v ∧ Rp F v d := by
  unfold atI at h ⊢
  rw [r.len]
  cases hn : ixN ds.length i with
  | none => rw [hn] at h; cases h
  | some j => rw [hn] at h; exact r.get' h
def ixD (d1 d2 : D) (k : T → Prop) : Prop := match d1, d2 with
  | .list xs, .int i => ∃ d, atI xs i = some d ∧ k (.va d)
  | .tuple xs, .int i => ∃ d, atI xs i = some d ∧ k (.va d)
  | _, _ => False
section
variable {Z : Zb} {X : Cx} {e a b c o ix : Expr} {es : List Expr} {env : Env} {pos : Pos} {P : R → Env → Prop} {PO : Out → Prop}
theorem ixr : IxR X (rD ixD) := fun value slice pins s σ H x y v u Q I rx ry ⟨F, d1, d2, k, sF, w1, w2, hg, q⟩ hs => by
  refine ix_seq value slice pins s σ H x y v u Q I rx ry ?_ hs
  cases d1 with
  | list xs =>
    cases d2 with
    | int i =>
      obtain ⟨p, vs, rfl, h1, r1⟩ := w1.lst' sF
      cases w2.int
      obtain ⟨d, h3, h4⟩ := hg
      obtain ⟨z, h5, h6⟩ := r1.at h3
      exact .inl ⟨p, vs, i, z, rfl, rfl, SqL.of h1, h5, q _ _ (NewV.val sF h6 h4)⟩
    | _ => exact hg.elim
  | tuple xs =>
    cases d2 with
    | int i =>
      obtain ⟨p, vs, rfl, h1, r1⟩ := w1.tup
      cases w2.int
      obtain ⟨d, h3, h4⟩ := hg
      obtain ⟨z, h5, h6⟩ := r1.at h3
      exact .inr (.inl ⟨p, vs, i, z, rfl, rfl, SqT.of (sF _ _ h1), h5, q _ _ (NewV.val sF h6 h4)⟩)
    | _ => exact hg.elim
  | _ => exact hg.elim
theorem w_ix (h : W2 Z X a b env fun d1 d2 e2 => ixD d1 d2 fun t => P (.t t) e2) (hs : PlainIx b := by intro _ _; rfl) : WE Z X (.Subscript a b pos) env P :=
  we_of (pe_ix ixr pe_A pe_A hs) fun σ H F O b0 o => w2_run b0 o h
/-- a slice's part -/
def PostO (Z : Zb) (σ : L2.St) (H0 F0 : Hp) (O0 : List Addr) (P : Option Int → Env → Prop) : Option Int → Hp → Prop := fun k H => ∃ F O env, Bas Z F H O ∧ OwE F H O σ env ∧ Frm H0 F0 O0 H F O ∧ P k env
def WO (Z : Zb) (X : Cx) : Option Expr → Env → (Option Int → Env → Prop) → Prop
  | none, env, k => k none env
  | some e, env, k => WE Z X e env fun r e1 => ∃ i, r = .t (.va (.int i)) ∧ k (some i) e1
def tO (Z : Zb) (X : Cx) (e : Option Expr) : TO := fun σ H Q => ∃ env F O P, Bas Z F H O ∧ OwE F H O σ env ∧ WO Z X e env P ∧ ∀ v H', PostO Z σ H F O P v H' → Q v H'
theorem post_int {σ : L2.St} {H F0 H0 : Hp} {O0 : List Addr} {K : Int → Env → Prop} {v : V} (h : Post Z σ H0 F0 O0 (fun r e1 => ∃ k, r = .t (.va (.int k)) ∧ K k e1) v H) :
    ∃ k F O env, v = .int k ∧ Bas Z F H O ∧ OwE F H O σ env ∧ Frm H0 F0 O0 H F O ∧ K k env := by
  obtain ⟨F1, O1, r, env1, b1, st, fr1, k, e1, h1⟩ := h
  subst e1
  obtain ⟨O1', O2, rfl, o1, ow⟩ := st
  cases ow with
  | va r =>
    cases r with
    | int k =>
      rw [List.append_nil] at b1 fr1
      exact ⟨k, F1, O1', env1, rfl, b1, o1, fr1, h1⟩
theorem po_O : ∀ {e : Option Expr}, L2.PO X e (tO Z X e)
  | none => ⟨fun pins s σ H Q I ⟨env, F, O, P, b, o, w, q⟩ => po_none.run pins s σ H Q I (q _ _ ⟨F, O, env, b, o, Frm.refl _ _ _, w⟩)⟩
  | some e => ⟨fun pins s σ H Q I ⟨env, F, O, P, b, o, w, q⟩ => (po_some (pe_E (Z := Z))).run pins s σ H Q I ⟨env, F, O, _, b, o, w, fun v H1 h => by
      obtain ⟨k, F1, O1, e1, rfl, b1, o1, fr, p⟩ := post_int h
      exact ⟨k, rfl, q _ _ ⟨F1, O1, e1, b1, o1, fr, p⟩⟩⟩⟩
def cutD (xs : List D) (lo hi : Option Int) : List D := (xs.drop (HT.sIx xs.length 0 lo)).take (HT.sIx xs.length xs.length hi - HT.sIx xs.length 0 lo)
theorem RpA.cut {F : Hp} {vs : List V} {ds : List D} (r : RpA F vs ds) (lo hi : Option Int) : RpA F (cutV vs lo hi) (cutD ds lo hi) := by
  unfold cutV cutD
  rw [r.len]
  exact (r.drop _).take _
def slD (d : D) (lo hi : Option Int) (k : T → Prop) : Prop := match d with
  | .list xs => ∀ p, k (.lst p (cutD xs lo hi))
  | .tuple xs => k (.va (.tuple (cutD xs lo hi)))
  | _ => False
def rSlD : V → Option Int → Option Int → Hp → VK → Prop := fun x lo hi H Q => ∃ F d k, Same F H ∧ Vw F H x d ∧ slD d lo hi k ∧ ∀ v H', NewV F H k v H' → Q v H'
theorem slr : SlR X rSlD := fun pins s σ H x v vl vu lo hi sl Q I rx hs pl pu ⟨F, d, k, sF, w, hg, q⟩ => by
  cases d with
  | list xs =>
    obtain ⟨p, vs, rfl, h1, r1⟩ := w.lst' sF
    exact sl_list pins s σ H _ v vl vu lo hi sl Q I rx hs pl pu ⟨p, vs, rfl, SqL.of h1, fun p' hp' => q _ _ (NewV.lst sF (r1.cut lo hi) hp' (hg p'))⟩
  | tuple xs =>
    obtain ⟨p, vs, rfl, h1, r1⟩ := w.tup
    refine sl_tupA pins s σ H _ v vl vu lo hi sl Q I rx hs pl pu ⟨p, vs, rfl, SqT.of (sF _ _ h1), fun hw => ?_, fun _ p' hp' => q _ _ (NewV.tup sF (r1.cut lo hi) hp' hg)⟩
    have hx : cutD xs lo hi = xs := by
      unfold cutD
      rw [← r1.len, hw.1, hw.2, List.drop_zero, r1.len, Nat.sub_zero, List.take_length]
    unfold slD at hg
    simp only [hx] at hg
    exact q _ _ (NewV.val sF (.tup h1 r1) hg)
  | _ => exact hg.elim
theorem w_sl {lo hi : Option Expr} {p2 : Pos} (h : WA Z X a env fun a1 e1 => WO Z X lo e1 fun l e2 => WO Z X hi e2 fun u e3 => View a1 e3 fun d => slD d l u fun t => P (.t t) e3) : WE Z X (.Subscript a (.Slice lo hi none p2) pos) env P :=
  we_of (pe_slice slr pe_A po_O po_O) fun σ H F O b0 o => ⟨env, F, O, _, b0, o, h, fun v1 H1 ⟨F1, O1, a1, e1, b1, o1, st1, fr1, h1⟩ => ⟨e1, F1, O1, _, b1, o1, h1, fun l H2 ⟨F2, O2, e2, b2, o2, fr2, h2⟩ =>
    ⟨e2, F2, O2, _, b2, o2, h2, fun u H3 ⟨F3, O3, e3, b3, o3, fr3, h3⟩ => by
      obtain ⟨d, w, h4⟩ := View.vw h3 o3 (st1.mono (fr2.fz.trans fr3.fz))
      exact ⟨F3, d, _, b3.sub, w, h4, fun v H' n => (n.post b3 o3 fun t q => q).from ((fr1.trans fr2).trans fr3)⟩⟩⟩⟩

/-! ### an item stored -/
theorem ws_setix {sp : Pos} (h : WA Z X e env fun a1 e1 => WE Z X o e1 fun r e2 => ∃ a i p, r = .bor a i p ∧ WE Z X ix e2 fun r3 e3 => ∃ n, r3 = .t (.va (.int n)) ∧
      absorb [a1] e3 fun ds e4 => ∃ d ds0 j, ds = [d] ∧ getP i p e4 = some (.lst a ds0) ∧ ixN ds0.length n = some j ∧ PO (.nx (setP i p (.lst a (ds0.set j d)) e4)))
    (hs : swapsWithSole [.Subscript o ix sp] e pos.line X.env = pure false := by rfl) (hw : swappedStores [.Subscript o ix sp] e X.env = pure none := by rfl)
    (h1 : (assignEach [.Subscript o ix sp] X.env).map (·.2) = [assign (.Subscript o ix sp) X.env] := by rfl)
    (ha : ∀ v, assign (.Subscript o ix sp) X.env v = (do
      let ov ← holding [v] (eval o X.env)
      let iv ← holding [v, ov] (eval ix X.env)
      standAt sp
      holding [v, ov, iv] (setItem ov iv v)
      release [v, ov, iv] []) := by intro _; rfl) : WS Z X (.Assign [.Subscript o ix sp] e pos) env PO :=
  ws_of (ps_asg (pe_A (Z := Z)) (pg_sub (pe_E (Z := Z)) (pe_E (Z := Z)) set_list ha) hs hw h1) fun σ H F O b o => ⟨env, F, O, _, b, o, h, fun v H1 ⟨F1, O1, a1, e1, b1, o1, st1, fr1, p⟩ =>
    ⟨e1, F1, O1, _, b1, o1, p, fun ov H2 ⟨F2, O2, r, e2, b2, st2, fr2, a, i, q, er, p⟩ => by
      subst er
      obtain ⟨o2, eov⟩ := st2
      subst eov
      refine ⟨e2, F2, O2, _, b2, o2, p, fun iv H3 h3 => ?_⟩
      obtain ⟨n, F3, O3, e3, rfl, b3, o3, fr3, p⟩ := post_int h3
      obtain ⟨F4, O4, ds, e4, b4, o4, r4, fr4, d, ds0, j, hds, hg, hj, p⟩ := absorb_ok (.cons (st1.mono (fr2.fz.trans fr3.fz)) .nil) b3 o3 p
      subst hds
      cases r4 with
      | cons r4 rn =>
        obtain ⟨xs, hH, rx, upd'⟩ := mutL b4 o4 hg
        obtain ⟨O5, b5, o5, fr5⟩ := upd' (xs.set j v) (ds0.set j d) (rx.set r4 j)
        refine ⟨a, xs, n, j, rfl, rfl, hH, by rw [rx.len]; exact hj, ?_⟩
        exact ⟨F4, O5, _, b5, o5, (((fr1.trans fr2).trans fr3).trans fr4).trans fr5, p⟩⟩⟩

/-! ### x, y = e1, e2 -/
/-- two results, one after the other -/
def parP (Z : Zb) (X : Cx) (b : Expr) (i j : Nat) (k : Env → Prop) (r1 : R) (e1 : Env) : Prop := ∃ t1, r1 = .t t1 ∧ WE Z X b e1 fun r2 e2 => ∃ t2, r2 = .t t2 ∧ i < e2.length ∧ j < e2.length ∧ k ((e2.set i (some t1)).set j (some t2))
theorem ws_par (i j : Nat) {x y : Str} {px py pt : Pos} {kt k2 pt2} (hc : X.calm = true) (hN : X.N.Nodup) (h : WE Z X a env (parP Z X b i j fun e => PO (.nx e)))
    (hi : X.N[i]? = some x := by rfl) (hj : X.N[j]? = some y := by rfl) (hij : i ≠ j := by decide) (hx : X.env.scope.names.lookup x = some .local := by rfl) (hy : X.env.scope.names.lookup y = some .local := by rfl)
    (hw : swappedStores [.Tuple [.Name x px, .Name y py] kt pt] (.Tuple [a, b] k2 pt2) X.env = pure (some [x, y]) := by rfl)
    (hs : swapsWithSole [.Tuple [.Name x px, .Name y py] kt pt] (.Tuple [a, b] k2 pt2) pos.line X.env = pure false := by rfl) (hs1 : starEach [a, b] X.env = (false, eval a X.env) :: starEach [b] X.env := by rfl) (hs2 : starEach [b] X.env = (false, eval b X.env) :: starEach [] X.env := by rfl) :
    WS Z X (.Assign [.Tuple [.Name x px, .Name y py] kt pt] (.Tuple [a, b] k2 pt2) pos) env PO :=
  ws_of (ps_par hc hN hi hj hij hx hy (pa_cons (pe_E (Z := Z)) (pa_cons (pe_E (Z := Z)) pa_nil hs2) hs1) hw hs) fun σ H F O b0 o => by
    refine ⟨env, F, O, _, b0, o, h, fun v1 H1 ⟨F1, O1, r1, e1, b1, st1, fr1, t1, er1, p⟩ => ?_⟩
    subst er1
    obtain ⟨Oa, Ob, rfl, o1, w1⟩ := st1
    refine ⟨e1, F1, Oa, _, b1.left, o1, p, fun v2 H2 ⟨F2, O2, r2, e2, b2, st2, fr2, t2, er2, li, lj, p⟩ => ?_⟩
    subst er2
    obtain ⟨Oc, Od, rfl, o2, w2⟩ := st2
    have ex : ∀ c ∈ Ob, H1 c ≠ none := w1.there
    have b3 := Bas.frame fr2 b1 b2 ex
    have w3 : Ow F2 H2 Ob v1 t1 := w1.stay fr2.fz (fr2.rest b1.nd ex)
    obtain ⟨O5, Oe, o5, p5⟩ := o2.set i w3 li
    obtain ⟨O6, Of, o6, p6⟩ := o5.set j w2 (by rw [List.length_set]; exact lj)
    have pm : ((Oc ++ Od) ++ Ob).Perm (O6 ++ (Of ++ Oe)) := by
      have z1 : ((Oc ++ Od) ++ Ob).Perm (Od ++ (Ob ++ Oc)) := by
        rw [List.append_assoc]
        refine (List.perm_append_comm (l₁ := Oc)).trans ?_
        rw [List.append_assoc]
      refine z1.trans ((p5.append_left Od).trans ?_)
      rw [← List.append_assoc, ← List.append_assoc]
      exact p6.append_right Oe
    have fr3 : Frm H F O H2 F2 ((Oc ++ Od) ++ Ob) := fr1.trans fr2.frame
    refine ⟨v1, v2, rfl, F2, O6, _, (b3.perm pm).left, o6, fr3.perm (fun _ => Iff.rfl) fun c hc => pm.mem_iff.mpr (List.mem_append_left _ hc), p⟩

/-! ### built-in functions -/
def DCall (X : Cx) (f : Value) (g : List D → (T → Prop) → Prop) : Prop :=
  ∀ (pins : List (Addr × Obj)) (s : Shared) (σ : L2.St) (H F : Hp) (vs : List V) (us : List Value) (ds : List D) (k : T → Prop), Inv X pins σ H s → Same F H → Vws F H vs ds → Vals vs us → g ds k →
    wpAny (model X.prog X.w) X.A (call f us) (EP X pins σ (NewV F H k)) X.xe s
def rC (g : List D → (T → Prop) → Prop) : List V → Hp → VK → Prop := fun vs H Q => ∃ F ds k, Same F H ∧ Vws F H vs ds ∧ g ds k ∧ ∀ v H', NewV F H k v H' → Q v H'
theorem DCall.r {f : Value} {g : List D → (T → Prop) → Prop} (h : DCall X f g) : CallR X f (rC g) := fun pins s σ H vs us Q I r ⟨F, ds, k, sF, ws, hg, q⟩ => thn (h pins s σ H F vs us ds k I sF ws r hg) (EP.imp q)
theorem DCall.of {f : Value} {g : List D → (T → Prop) → Prop} {r : List V → Hp → VK → Prop} (hc : CallR X f r) (q : ∀ H F vs ds k, Same F H → Vws F H vs ds → g ds k → r vs H (NewV F H k)) : DCall X f g :=
  fun pins s σ H F vs us ds k I sF ws rv hg => hc pins s σ H vs us _ I rv (q H F vs ds k sF ws hg)
theorem callD_post {g : List D → (T → Prop) → Prop} {σ : L2.St} {H F : Hp} {O : List Addr} {t : TA} (b0 : Bas Z F H O) (o : OwE F H O σ env)
    (h : WAs Z X es env fun as e1 => Views as e1 fun ds => g ds fun t => P (.t t) e1) : tCB (rC g) (tAs Z X es) σ H (Post Z σ H F O P) :=
  ⟨env, F, O, _, b0, o, h, fun vs H1 ⟨F1, O1, as, e1, b1, o1, st, fr, p⟩ => by
    obtain ⟨ds, ws, q⟩ := Views.vws o1 st p
    exact ⟨F1, ds, _, b1.sub, ws, q, fun v H' n => (n.post b1 o1 fun t q => q).from fr⟩⟩
theorem w_callB {g : List D → (T → Prop) → Prop} {x : Str} {id : String} {p : Pos} (hc : DCall X (.builtin id) g) (hm : X.mg x = none) (hv : bootBuiltins x = some (.builtin id)) (h : WAs Z X (e :: es) env fun as e1 => Views as e1 fun ds => g ds fun t => P (.t t) e1)
    (hg : Gl X x := by rfl) (hn : x ≠ "__name__" := by decide) (hdb : (x == ("__debug__" : Str)) = false := by decide)
    (he : starEach (e :: es) X.env = (false, eval e X.env) :: starEach es X.env := by rfl) (hpl : (backTo pos (starEach es X.env)).any (·.1) = false := by rfl) : WE Z X (.Call (.Name x p) (e :: es) [] pos) env P :=
  we_of (pe_callB hc.r hg hm hv pa_As hn hdb he hpl) fun σ H F O b0 o => callD_post (t := tNil) b0 o h
theorem w_callTy {g : List D → (T → Prop) → Prop} {x : Str} {id : String} {p : Pos} (hc : DCall X (.type id) g) (hm : X.mg x = none) (hv : bootBuiltins x = some (.type id)) (h : WAs Z X (e :: es) env fun as e1 => Views as e1 fun ds => g ds fun t => P (.t t) e1)
    (hg : Gl X x := by rfl) (hn : x ≠ "__name__" := by decide) (hdb : (x == ("__debug__" : Str)) = false := by decide)
    (he : starEach (e :: es) X.env = (false, eval e X.env) :: starEach es X.env := by rfl) (hpl : (backTo pos (starEach es X.env)).any (·.1) = false := by rfl) : WE Z X (.Call (.Name x p) (e :: es) [] pos) env P :=
  we_of (pe_callTy hc.r hg hm hv pa_As hn hdb he hpl) fun σ H F O b0 o => callD_post (t := tNil) b0 o h

theorem Vws.one {F H : Hp} {vs : List V} {d : D} (h : Vws F H vs [d]) : ∃ v, vs = [v] ∧ Vw F H v d := by
  cases h with | cons w r => cases r; exact ⟨_, rfl, w⟩
theorem Vws.two {F H : Hp} {vs : List V} {d d' : D} (h : Vws F H vs [d, d']) : ∃ v v', vs = [v, v'] ∧ Vw F H v d ∧ Vw F H v' d' := by
  cases h with | cons w r => cases r with | cons w' r => cases r; exact ⟨_, _, rfl, w, w'⟩
def lenG (ds : List D) (k : T → Prop) : Prop := match ds with
  | [.list xs] => k (.va (.int xs.length))
  | [.tuple xs] => k (.va (.int xs.length))
  | _ => False
theorem dc_len : DCall X (.builtin "len") lenG := .of call_len_seq fun H F vs ds k sF ws h => by
  unfold lenG at h
  split at h
  · obtain ⟨v, rfl, w⟩ := ws.one
    obtain ⟨p, xs, rfl, h1, r1⟩ := w.lst' sF
    exact ⟨p, xs, rfl, .inl (SqL.of h1), NewV.val sF (.int _) (by rw [r1.len]; exact h)⟩
  · obtain ⟨v, rfl, w⟩ := ws.one
    obtain ⟨p, xs, rfl, h1, r1⟩ := w.tup
    exact ⟨p, xs, rfl, .inr (SqT.of (sF _ _ h1)), NewV.val sF (.int _) (by rw [r1.len]; exact h)⟩
  · exact h.elim
def absG (ds : List D) (k : T → Prop) : Prop := match ds with
  | [.int i] => k (.va (.int i.natAbs))
  | _ => False
theorem dc_abs : DCall X (.builtin "abs") absG := .of call_abs fun H F vs ds k sF ws h => by
  unfold absG at h
  split at h
  · rename_i i
    obtain ⟨v, rfl, w⟩ := ws.one
    cases w.int
    have e : (if i < 0 then -i else i) = (i.natAbs : Int) := by split <;> omega
    exact ⟨i, rfl, NewV.val sF (.int _) (by rw [e]; exact h)⟩
  · exact h.elim
def int1G (ds : List D) (k : T → Prop) : Prop := match ds with
  | [.int i] => k (.va (.int i))
  | [.bool b] => k (.va (.int (if b then 1 else 0)))
  | _ => False
theorem dc_int : DCall X (.type "int") int1G := .of call_int1 fun H F vs ds k sF ws h => by
  unfold int1G at h
  split at h
  · obtain ⟨v, rfl, w⟩ := ws.one
    cases w.int
    exact .inl ⟨_, rfl, NewV.val sF (.int _) h⟩
  · obtain ⟨v, rfl, w⟩ := ws.one
    cases w.bl
    exact .inr ⟨_, rfl, NewV.val sF (.int _) h⟩
  · exact h.elim
def minG (ds : List D) (k : T → Prop) : Prop := match ds with
  | [.int i, .int j] => k (.va (.int (min i j)))
  | _ => False
theorem dc_min2 (hc : X.calm = true) : DCall X (.builtin "min") minG := .of (call_min2 hc) fun H F vs ds k sF ws h => by
  unfold minG at h
  split at h
  · rename_i i j
    obtain ⟨v, v', rfl, w, w'⟩ := ws.two
    cases w.int
    cases w'.int
    have e : (if j < i then j else i) = min i j := by split <;> omega
    exact ⟨i, j, rfl, NewV.val sF (.int _) (by rw [e]; exact h)⟩
  · exact h.elim
def maxG (ds : List D) (k : T → Prop) : Prop := match ds with
  | [.int i, .int j] => k (.va (.int (max i j)))
  | _ => False
theorem dc_max2 (hc : X.calm = true) : DCall X (.builtin "max") maxG := .of (call_max2 hc) fun H F vs ds k sF ws h => by
  unfold maxG at h
  split at h
  · rename_i i j
    obtain ⟨v, v', rfl, w, w'⟩ := ws.two
    cases w.int
    cases w'.int
    have e : (if j > i then j else i) = max i j := by split <;> omega
    exact ⟨i, j, rfl, NewV.val sF (.int _) (by rw [e]; exact h)⟩
  · exact h.elim
def tupG (ds : List D) (k : T → Prop) : Prop := match ds with
  | [.list xs] => k (.va (.tuple xs))
  | [.tuple xs] => k (.va (.tuple xs))
  | _ => False
theorem dc_tuple : DCall X (.type "tuple") tupG := .of call_tuple_of fun H F vs ds k sF ws h => by
  unfold tupG at h
  split at h
  · obtain ⟨v, rfl, w⟩ := ws.one
    obtain ⟨p, xs, rfl, h1, r1⟩ := w.lst' sF
    exact ⟨p, xs, rfl, .inl ⟨SqL.of h1, fun l hl => NewV.tup sF r1 hl h⟩⟩
  · obtain ⟨v, rfl, w⟩ := ws.one
    obtain ⟨p, xs, rfl, h1, r1⟩ := w.tup
    exact ⟨p, xs, rfl, .inr ⟨SqT.of (sF _ _ h1), NewV.val sF (.tup h1 r1) h⟩⟩
  · exact h.elim
theorem Vw.rpa {F H : Hp} {v : V} {xs : List D} (w : Vw F H v (.list xs)) (sF : Same F H) : ∃ a vs, v = .ref a ∧ H a = some (.lst vs) ∧ RpA F vs xs := w.lst' sF
def listG (ds : List D) (k : T → Prop) : Prop := match ds with
  | [.list xs] => ∀ p, k (.lst p xs)
  | [.tuple xs] => ∀ p, k (.lst p xs)
  | _ => False
theorem dc_list : DCall X (.type "list") listG := .of call_list_of fun H F vs ds k sF ws h => by
  unfold listG at h
  split at h
  · obtain ⟨v, rfl, w⟩ := ws.one
    obtain ⟨p, xs, rfl, h1, r1⟩ := w.lst' sF
    exact ⟨p, xs, rfl, .inl (SqL.of h1), fun l hl => NewV.lst sF r1 hl (h l)⟩
  · obtain ⟨v, rfl, w⟩ := ws.one
    obtain ⟨p, xs, rfl, h1, r1⟩ := w.tup
    exact ⟨p, xs, rfl, .inr (SqT.of (sF _ _ h1)), fun l hl => NewV.lst sF r1 hl (h l)⟩
  · exact h.elim
def allG (ds : List D) (k : T → Prop) : Prop := ∃ bs : List Bool, ds = [.list (bs.map .bool)] ∧ k (.va (.bool (bs.all id)))
theorem dc_all (hc : X.calm = true) : DCall X (.builtin "all") allG := .of (cr_all hc) fun H F vs ds k sF ws ⟨bs, e, h⟩ => by
  subst e
  obtain ⟨v, rfl, w⟩ := ws.one
  obtain ⟨p, xs, rfl, h1, r1⟩ := w.lst' sF
  exact ⟨p, bs, rfl, by rw [← r1.bls]; exact SqL.of h1, NewV.val sF (.bl _) h⟩
def sumG (ds : List D) (k : T → Prop) : Prop := ∃ ns : List Int, ds = [.list (ns.map .int)] ∧ k (.va (.int ns.sum))
theorem dc_sum (hc : X.calm = true) : DCall X (.builtin "sum") sumG := .of (cr_sum hc) fun H F vs ds k sF ws ⟨bs, e, h⟩ => by
  subst e
  obtain ⟨v, rfl, w⟩ := ws.one
  obtain ⟨p, xs, rfl, h1, r1⟩ := w.lst' sF
  exact ⟨p, bs, rfl, by rw [← r1.ints]; exact SqL.of h1, NewV.val sF (.int _) h⟩
end
end QL

/-! QH: what is shown, isinstance, chains, dict displays, calls by name, the script. -/
namespace QL
open PySem PySem.Spec PyProof.Rows L2

section
variable {X : Cx}
theorem far (hb : (X.base.get? sysModules).isSome = true) {pins : List (Addr × Obj)} {σ : L2.St} {H : Hp} {s : Shared} (I : Inv X pins σ H s) {a : Addr} {o : HO} (h : H a = some o) : sysModules ≠ a := fun e => by
  obtain ⟨ob, ho⟩ := Option.isSome_iff_exists.mp hb
  have := (I.bs _ _ ho).2
  rw [e, h] at this
  cases this
theorem keys_read {P : Program} {w : World} {h : Heap} : ∀ {es : List DictEntry} {vs : List (Key × Value)} {kvs : List (Key × V)} {ds : List (D × D)} {F : Hp}, PySem.Pairs (mixKind P w) es vs → KV kvs vs → RpK F kvs ds →
    ReadsAll h (es.map (·.key)) (ds.map (·.1)) []
  | _, _, _, _, _, .nil, r, q => by cases r; cases q; exact .nil
  | _, _, _, _, _, .cons hk hv t, r, q => by
    cases r with
    | cons r1 r2 =>
      cases q with
      | cons q1 q2 =>
        have ih := keys_read (h := h) t r2 q2
        obtain ⟨r1a, r1b⟩ := r1
        simp only at r1a
        subst r1a
        rcases keyIs_shape hk with ⟨i, t', e1, e2⟩ | ⟨x, t', e1, e2⟩
        · simp only [List.map_cons]
          rw [e1, e2]
          exact .cons (as := []) (.int i t') ih
        · simp only [List.map_cons]
          rw [e1, e2]
          exact .cons (as := []) (.str x t') ih
mutual
theorem Rp.readsD (hb : (X.base.get? sysModules).isSome = true) {pins : List (Addr × Obj)} {σ : L2.St} {H : Hp} {s : Shared} (I : Inv X pins σ H s) : ∀ {v : V} {d : D} {u : Value}, Rp H v d → RelV v u → ∃ as, Reads s.heap u d as ∧ sysModules ∉ as
  | _, _, _, .non, r => by cases r; exact ⟨_, .none, List.not_mem_nil⟩
  | _, _, _, .bl b, r => by cases r; exact ⟨_, .bool b, List.not_mem_nil⟩
  | _, _, _, .int i, r => by obtain ⟨t, rfl⟩ := r; exact ⟨_, .int i t, List.not_mem_nil⟩
  | _, _, _, .str i, r => by obtain ⟨t, rfl⟩ := r; exact ⟨_, .str i t, List.not_mem_nil⟩
  | _, _, _, .lst h q, r => by
    cases r
    obtain ⟨its, rv, ⟨o, n, ho, hc, _, hs⟩, _⟩ := I.list (SqL.of h)
    obtain ⟨as, hr, hn⟩ := RpA.readsD hb I q rv
    exact ⟨_, .list ho hc hs hr, fun z => (List.mem_cons.mp z).elim (far hb I h) hn⟩
  | _, _, _, .tup h q, r => by
    cases r
    obtain ⟨its, rv, ⟨o, ho, hc, n, hs⟩, _⟩ := I.tuple (SqT.of h)
    obtain ⟨as, hr, hn⟩ := RpA.readsD hb I q rv
    exact ⟨_, .tuple ho hc hs hr, hn⟩
  | _, _, _, .dic h q, r => by
    cases r
    obtain ⟨_, hd, vs, rel, o, es, ep, ho, hx, hdat, _, hp, _⟩ := dk_rd I.hok h
    obtain ⟨bs, hr, hn⟩ := RpK.readsD hb I q rel hp
    refine ⟨_, .dict ho hx.1 hdat (keys_read hp rel q) hr, fun z => ?_⟩
    rcases List.mem_append.mp z with z | z
    · rw [← List.mem_singleton.mp z] at hd
      simp at hd
    · exact hn z
theorem RpA.readsD (hb : (X.base.get? sysModules).isSome = true) {pins : List (Addr × Obj)} {σ : L2.St} {H : Hp} {s : Shared} (I : Inv X pins σ H s) : ∀ {vs : List V} {ds : List D} {us : List Value}, RpA H vs ds → Vals vs us → ∃ as, ReadsAll s.heap us ds as ∧ sysModules ∉ as
  | _, _, _, .nil, r => by cases r; exact ⟨_, .nil, List.not_mem_nil⟩
  | _, _, _, .cons h q, r => by
    cases r with
    | cons r1 r2 =>
      obtain ⟨as, q1, n1⟩ := Rp.readsD hb I h r1
      obtain ⟨bs, q2, n2⟩ := RpA.readsD hb I q r2
      exact ⟨_, .cons q1 q2, fun z => (List.mem_append.mp z).elim n1 n2⟩
theorem RpK.readsD (hb : (X.base.get? sysModules).isSome = true) {pins : List (Addr × Obj)} {σ : L2.St} {H : Hp} {s : Shared} (I : Inv X pins σ H s) : ∀ {kvs : List (Key × V)} {ds : List (D × D)} {vs : List (Key × Value)} {es : List DictEntry}, RpK H kvs ds → KV kvs vs → PySem.Pairs (mixKind X.prog X.w) es vs →
    ∃ as, ReadsAll s.heap (es.map (·.val)) (ds.map (·.2)) as ∧ sysModules ∉ as
  | _, _, _, _, .nil, r, p => by cases r; cases p; exact ⟨_, .nil, List.not_mem_nil⟩
  | _, _, _, _, .cons h q, r, p => by
    cases r with
    | cons r1 r2 =>
      cases p with
      | cons p1 p2 p3 =>
        obtain ⟨as, q1, n1⟩ := Rp.readsD hb I h r1.2
        obtain ⟨bs, q2, n2⟩ := RpK.readsD hb I q r2 p3
        simp only [List.map_cons]
        rw [p2]
        exact ⟨_, .cons q1 q2, fun z => (List.mem_append.mp z).elim n1 n2⟩
end

/-! ### repr -/
def showOk (d : D) : Prop := d.showable = true ∧ d.depth ≤ 100 ∧ d.shown.length ≤ sizeLine
def reprG (ds : List D) (k : T → Prop) : Prop := ∃ d, ds = [d] ∧ showOk d ∧ k (.va (.str d.shown))
theorem dc_repr (hb : (X.base.get? sysModules).isSome = true) (hg : X.A.guards = some []) (hu : X.A.units + 110 < cLine) : DCall X (.builtin "repr") reprG := fun pins s σ H F vs us ds k I sF ws rv ⟨d, e, ok, h⟩ => by
  subst e
  obtain ⟨v, rfl, w⟩ := ws.one
  obtain ⟨u, rfl, ru⟩ := rv.one
  have rp := w.rp sF
  have fin : ∀ {h' : Heap} {t tk : Nat}, Inv X pins σ H { s with heap := h', toks := tk } → EP X pins σ (NewV F H k) (.str d.shown t) { s with heap := h', toks := tk } := fun {h' t tk} I' => ⟨.str d.shown, H, I', ⟨t, rfl⟩, NewV.val sF (.str _) h⟩
  have big : ∀ {a : Addr}, u = .ref a → wpAny (model X.prog X.w) X.A (call (.builtin "repr") [u]) (EP X pins σ (NewV F H k)) X.xe s := fun {a} e => by
    obtain ⟨as, hr, hn⟩ := rp.readsD hb I ru
    subst e
    exact repr_of_reads' hr ok.1 (fun _ => hn) hg (by have := ok.2.1; omega) (fun _ _ e => e) (fun h' u tk hk => fin (I.kept hk)) ok.2.2
  cases rp with
  | non => cases ru; exact P.repr_of_none (fin (I.tok _))
  | bl b => cases ru; exact P.repr_of_bool (fin (I.tok _))
  | int i =>
    obtain ⟨t, rfl⟩ := ru
    exact P.repr_of_int (by simpa [PyData.showable] using ok.1) (fin (I.tok _))
  | str x =>
    obtain ⟨t, rfl⟩ := ru
    exact P.repr_of_str (fin (I.tok _)) ok.2.2
  | lst _ _ => exact big ru
  | tup _ _ => exact big ru
  | dic _ _ => exact big ru
def strG (ds : List D) (k : T → Prop) : Prop := ∃ xs, ds = [.tuple xs] ∧ showOk (.tuple xs) ∧ k (.va (.str (PyData.shown (.tuple xs))))
theorem dc_str (hb : (X.base.get? sysModules).isSome = true) (hg : X.A.guards = some []) (hu : X.A.units + 110 < cLine) : DCall X (.type "str") strG := fun pins s σ H F vs us ds k I sF ws rv ⟨d, e, ok, h⟩ => by
  subst e
  obtain ⟨v, rfl, w⟩ := ws.one
  obtain ⟨u, rfl, ru⟩ := rv.one
  have rp := w.rp sF
  obtain ⟨as, hr, hn⟩ := rp.readsD hb I ru
  cases rp with
  | tup _ _ =>
    cases ru
    exact str_of_reads hr ok.1 (fun _ => hn) hg (by have := ok.2.1; omega) (fun _ _ e => e) (fun h' u tk hk => ⟨.str _, H, I.kept hk, ⟨u, rfl⟩, NewV.val sF (.str _) h⟩) ok.2.2

/-! ### isinstance(x, T) -/
def tyD : D → String
  | .none => "NoneType"
  | .bool _ => "bool"
  | .int _ => "int"
  | .str _ => "str"
  | .list _ => "list"
  | .tuple _ => "tuple"
  | .dict _ => "dict"
def isB (d : D) (T : String) : Bool := tyD d == T || (T == "int" && tyD d == "bool")
theorem Vw.ty {K : PySem.W.Frag} {F H : Hp} {v : V} {d : D} (sF : Same F H) (w : Vw F H v d) : TyX K H v (.type (tyD d)) := by
  have r := w.rp sF
  cases r with
  | non => exact .base .non
  | bl b => exact .base (.bl b)
  | int i => exact .base (.int i)
  | str x => exact .base (.str x)
  | lst h _ => exact .base (.lst h)
  | tup h _ => exact .base (.tup h)
  | dic h _ =>
    rcases h with h | ⟨o, h⟩
    · exact .base (.dK h)
    · exact .fDict h
variable {Z : Zb} {e a b c o ix : Expr} {es : List Expr} {env : Env} {pos : Pos} {P : R → Env → Prop} {PO : Out → Prop}
theorem w_isi {T : Str} {t : String} {p p2 : Pos} (h : WA Z X e env fun a1 e1 => View a1 e1 fun d => P (.t (.va (.bool (isB d t)))) e1) (hk : ∀ d, kitB (tyD d) t = some (isB d t)) (hm : X.mg "isinstance" = none) (hmT : X.mg T = none) (hv : bootBuiltins T = some (.type t))
    (hg : Gl X "isinstance" := by rfl) (hgT : Gl X T := by rfl) (hn : T ≠ "__name__" := by decide) (hd : (T == ("__debug__" : Str)) = false := by decide)
    (he : starEach [e, .Name T p2] X.env = (false, eval e X.env) :: starEach [.Name T p2] X.env := by rfl) (he2 : starEach [.Name T p2] X.env = (false, eval (.Name T p2) X.env) :: starEach [] X.env := by rfl)
    (hpl : (backTo pos (starEach [.Name T p2] X.env)).any (·.1) = false := by rfl) : WE Z X (.Call (.Name "isinstance" p) [e, .Name T p2] [] pos) env P :=
  we_of (pe_callB (call_isi (X := X)) hg hm rfl (pa_cons (pe_A (Z := Z)) (pa_cons (pe_bltn (v := .ty t) hgT hmT hv rfl hn hd) pa_nil he2) he) (by decide) (by decide) he hpl) fun σ H F O b o => ⟨env, F, O, _, b, o, h, fun v H1 ⟨F1, O1, a1, e1, b1, o1, st, fr, p⟩ => by
    obtain ⟨d, w, q⟩ := View.vw p o1 st
    exact ⟨v, .ty t, .type (tyD d), .type t, isB d t, rfl, .ty t, w.ty b1.sub, kit_ty (hk d), (post_val b1 o1 (.bl _) q).from fr⟩⟩
theorem kit_int : ∀ d, kitB (tyD d) "int" = some (isB d "int") := by intro d; cases d <;> (simp only [isB, tyD]; decide +kernel)
theorem kit_bool : ∀ d, kitB (tyD d) "bool" = some (isB d "bool") := by intro d; cases d <;> (simp only [isB, tyD]; decide +kernel)
theorem kit_tuple : ∀ d, kitB (tyD d) "tuple" = some (isB d "tuple") := by intro d; cases d <;> (simp only [isB, tyD]; decide +kernel)

/-! ### a op b op c -/
theorem w_chain {op op' : CmpOp} {g g' : D → D → (T → Prop) → Prop} (ho : DOp X (compareOp op) g) (ho' : DOp X (compareOp op') g')
    (h : WA Z X a env fun a1 e1 => WA Z X b e1 fun a2 e2 => View a1 e2 fun d1 => View a2 e2 fun d2 => g d1 d2 fun t => ∃ k, t = .va (.bool k) ∧ (k = true → WA Z X c e2 fun a3 e3 => View a2 e3 fun d2' => View a3 e3 fun d3 => g' d2' d3 fun t => P (.t t) e3) ∧ (k = false → P (.t (.va (.bool false))) e2))
    (hm : lastMarks [op, op'] [b, c] = false := by with_unfolding_all rfl) : WE Z X (.Compare a [op, op'] [b, c] pos) env P :=
  we_of (pe_chain ho.r ho'.r (pe_A (Z := Z)) (pe_A (Z := Z)) (pe_A (Z := Z)) hm) fun σ H F O b0 o => by
    refine ⟨env, F, O, _, b0, o, h, fun v1 H1 ⟨F1, O1, a1, e1, b1, o1, st1, fr1, h1⟩ => ?_⟩
    refine ⟨e1, F1, O1, _, b1, o1, h1, fun v2 H2 ⟨F2, O2, a2, e2, b2, o2, st2, fr2, h2⟩ => ?_⟩
    obtain ⟨d1, w1, h3⟩ := View.vw h2 o2 (st1.mono fr2.fz)
    obtain ⟨d2, w2, h4⟩ := View.vw h3 o2 st2
    refine ⟨F2, d1, d2, _, b2.sub, w1, w2, h4, fun v H3 n => ?_⟩
    obtain ⟨F3, O3, r3, e3, b3, st3, fr3, ee, k, er, hT, hF⟩ := n.post b2 o2 (P := fun r e => e = e2 ∧ ∃ k, r = .t (.va (.bool k)) ∧ (k = true → WA Z X c e2 fun a3 e3 => View a2 e3 fun d2' => View a3 e3 fun d3 => g' d2' d3 fun t => P (.t t) e3) ∧ (k = false → P (.t (.va (.bool false))) e2))
      fun t ⟨k, e, q⟩ => ⟨rfl, k, by rw [e], q⟩
    subst er ee
    obtain ⟨Oa, Ob, rfl, o3, w3⟩ := st3
    cases w3 with
    | va r =>
      cases r with
      | bl k =>
        rw [List.append_nil] at b3 fr3
        refine ⟨k, rfl, ?_⟩
        cases k with
        | false => exact iteF ((post_val b3 o3 (.bl _) (hF rfl)).from ((fr1.trans fr2).trans fr3))
        | true =>
          refine iteT ⟨e3, F3, Oa, _, b3, o3, hT rfl, fun v4 H4 ⟨F4, O4, a3, e4, b4, o4, st4, fr4, h5⟩ => ?_⟩
          obtain ⟨d2', w5, h6⟩ := View.vw h5 o4 (st2.mono (fr3.fz.trans fr4.fz))
          obtain ⟨d3, w6, h7⟩ := View.vw h6 o4 st4
          exact ⟨F4, d2', d3, _, b4.sub, w5, w6, h7, fun v H' n => (n.post b4 o4 fun t q => q).from (((fr1.trans fr2).trans fr3).trans fr4)⟩

/-! ### tuple * int -/
theorem dop_mulT : DOp X (binaryOp .Mult) (fun d1 d2 k => match d1, d2 with
    | .tuple xs, .int n => xs ≠ [] ∧ xs.length ≤ 1000 ∧ 2 ≤ n ∧ n ≤ 1000 ∧ k (.va (.tuple (List.replicate n.toNat xs).flatten))
    | _, _ => False) := by
  intro pins s σ H F v1 v2 u1 u2 d1 d2 k I sF w1 w2 r1 r2 hg
  split at hg
  · rename_i xs n
    obtain ⟨p, vs, rfl, h1, q1⟩ := w1.tup
    cases w2.int
    obtain ⟨hne, hl, h2, h3, hk⟩ := hg
    refine op_repT pins s σ H _ _ u1 u2 _ I r1 r2 ⟨p, n, vs, rfl, rfl, SqT.of (sF _ _ h1), fun z => ?_, h2, h3, by rw [q1.len]; exact hl, fun p hp => NewV.tup sF (q1.rep _) hp hk⟩
    subst z
    cases q1
    exact hne rfl
  · exact hg.elim

/-! ### {}, {'a': x} -/
theorem NewV.dic {F H : Hp} {k : T → Prop} {p : Addr} {xs : List (Key × V)} {ds : List (Key × D)} (b : Same F H) (r : RpT F xs ds) (n : H p = none) (h : k (.dic p ds)) : NewV F H k (.ref p) (upd H p (.dK xs)) := by
  refine ⟨F, [p], .dic p ds, Same.refl _, same_new n, b.trans (same_new n), fun _ z => .inl z, List.nodup_cons.mpr ⟨fun z => (nomatch z), List.nodup_nil⟩, fun a ha => ?_, .dic upd_same r, h⟩
  rw [List.mem_singleton.mp ha]
  exact ⟨n, b.free n⟩
theorem w_dict0 (h : ∀ p, P (.t (.dic p [])) env) : WE Z X (.Dict [] [] pos) env P := we_of pe_dnewK fun σ H F O b o p hp => (NewV.dic b.sub .nil hp (k := fun t => t = .dic p []) rfl).post b o fun t e => by subst e; exact h p
/-- {key: e}, key a text -/
theorem w_dict1 {x : Str} {j : Nat} {p1 : Pos} (h : WE Z X e env fun r e1 => ∃ d, r = .t (.va d) ∧ ∀ p, P (.t (.dic p [(.inr x, d)])) e1) : WE Z X (.Dict [some (.Constant (.str x) j p1)] [e] pos) env P :=
  we_of (pe_disp (pps_cons pe_str (pe_E (Z := Z)) pps_nil) rfl rfl (by simp) (by simp)) fun σ H F O b o p hp => by
    -- the new dict stands aside while its value is made
    have bp : Bas Z F (upd H p (.dK [])) O := by
      have := b.grow o (Same.refl _) (same_new (o := .dK []) hp) (b.sub.trans (same_new hp)) fun _ z => .inl z
      exact this.1
    have op : OwE F (upd H p (.dK [])) O σ env := (b.grow o (Same.refl _) (same_new (o := .dK []) hp) (b.sub.trans (same_new hp)) fun _ z => .inl z).2.1
    have frp : Frm H F O (upd H p (.dK [])) F O := (b.grow o (Same.refl _) (same_new (o := .dK []) hp) (b.sub.trans (same_new hp)) fun _ z => .inl z).2.2
    have hpO : p ∉ O := fun z => o.there p z hp
    refine ⟨env, F, O, _, bp, op, h, fun v H1 ⟨F1, O1, r1, e1, b1, st1, fr1, d, er, q⟩ => ?_⟩
    subst er
    obtain ⟨Oa, Ob, rfl, o1, w1⟩ := st1
    cases w1 with
    | va rd =>
      rw [List.append_nil] at b1 fr1
      have hp1 : H1 p = some (.dK []) := fr1.out p _ upd_same hpO
      have fp : F p = none := b.sub.free hp
      have fp1 : F1 p = none := by
        cases z : F1 p with
        | none => rfl
        | some x =>
          rcases fr1.newF p (by rw [z]; exact fun z => nomatch z) with y | y | y
          · exact absurd fp y
          · rw [upd_same] at y; cases y
          · exact absurd y hpO
      have pa : p ∉ Oa := fun z => (fr1.newO p z).elim hpO fun y => by rw [upd_same] at y; cases y
      refine ⟨hp1, [(.inr x, v)], rfl, by simp, ?_⟩
      show Post Z σ H F O P (.ref p) (upd H1 p (.dK [(.inr x, v)]))
      have s1 : Same F1 (upd H1 p (.dK [(.inr x, v)])) := fun c y z => by
        rw [upd_ne fun y => by rw [y, fp1] at z; cases z]
        exact b1.sub c y z
      have keep : ∀ c ∈ Oa, upd H1 p (.dK [(.inr x, v)]) c = H1 c := fun c hc => upd_ne fun z => pa (z ▸ hc)
      have fr2 : Frm H F O (upd H1 p (.dK [(.inr x, v)])) F1 (Oa ++ [p]) := by
        have f := frp.trans fr1
        refine ⟨f.fz, fun c y hc n => ?_, fun c hc => ?_, fun c hc => ?_, fun c hc => ?_⟩
        · have : c ≠ p := fun z => by rw [z, hp] at hc; cases hc
          rw [upd_ne this]
          exact f.out c y hc n
        · by_cases z : c = p
          · subst z; rw [upd_same]; exact fun z => nomatch z
          · rw [upd_ne z]; exact f.al c hc
        · exact f.newF c hc
        · rcases List.mem_append.mp hc with z | z
          · exact f.newO c z
          · rw [List.mem_singleton.mp z]; exact .inr hp
      refine ⟨F1, Oa ++ [p], .t (.dic p [(.inr x, d)]), e1, ⟨s1, List.nodup_append.mpr ⟨b1.nd, List.nodup_cons.mpr ⟨fun z => (nomatch z), List.nodup_nil⟩, fun c hc c' hc' z => ?_⟩, fun c hc => ?_, b.abs.trans fr2⟩, ⟨Oa, [p], rfl, o1.stay (Same.refl _) keep, .dic upd_same (.cons rd .nil)⟩, fr2, q p⟩
      · rw [List.mem_singleton.mp hc'] at z
        exact pa (z ▸ hc)
      · rcases List.mem_append.mp hc with z | z
        · exact b1.dis c z
        · rw [List.mem_singleton.mp z]; exact fp1

/-! ### calls by name alone: f(b = e2, a = e1) -/
def pick {α : Type} (ns : List Nat) (xs : List α) : List α := ns.filterMap (xs[·]?)
theorem StAs.get {F : Hp} : ∀ {vs : List V} {as : List A} (i : Nat), StAs F vs as → (vs[i]? = none ∧ as[i]? = none) ∨ ∃ v a, vs[i]? = some v ∧ as[i]? = some a ∧ StA F v a
  | _, _, _, .nil => .inl ⟨rfl, rfl⟩
  | _, _, 0, .cons h r => .inr ⟨_, _, rfl, rfl, h⟩
  | _, _, i + 1, .cons h r => r.get i
theorem StAs.pick {F : Hp} {vs : List V} {as : List A} (h : StAs F vs as) : ∀ ns : List Nat, StAs F (QL.pick ns vs) (QL.pick ns as)
  | [] => .nil
  | n :: ns => by
    unfold QL.pick
    rcases h.get n with ⟨e1, e2⟩ | ⟨v, a, e1, e2, r⟩
    · rw [List.filterMap_cons_none e1, List.filterMap_cons_none e2]
      exact h.pick ns
    · rw [List.filterMap_cons_some e1, List.filterMap_cons_some e2]
      exact .cons r (h.pick ns)
theorem vals_pick {vs : List V} {us : List Value} (h : Vals vs us) : ∀ ns : List Nat, Vals (pick ns vs) (pick ns us)
  | [] => .nil
  | n :: ns => by
    unfold pick
    cases hv : vs[n]? with
    | none =>
      have hu : us[n]? = none := by
        rw [List.getElem?_eq_none_iff] at hv ⊢
        rw [← h.length]; exact hv
      rw [List.filterMap_cons_none hv, List.filterMap_cons_none hu]
      exact vals_pick h ns
    | some v =>
      obtain ⟨u, hu, r⟩ := h.get hv
      rw [List.filterMap_cons_some hv, List.filterMap_cons_some hu]
      exact .cons r (vals_pick h ns)
/-- how such a call binds: the names as they are written, their places in the parameters' order -/
def KwOk (K : PySem.W.Frag) (fd : FuncData) (ps ks : List Str) (ns : List Nat) : Prop := ∀ (s : Shared) (us : List Value), K.In s.heap → us.length = ks.length → BindsTo s fd ⟨[], ks.zip us⟩ (ps.zip (pick ns us))
theorem StAs.len {F : Hp} : ∀ {vs : List V} {as : List A}, StAs F vs as → vs.length = as.length
  | _, _, .nil => rfl
  | _, _, .cons _ r => congrArg (· + 1) r.len
theorem w_callK {k : Nat} {f : Addr} {fd : FuncData} {ps ks : List Str} {ns : List Nat} {sp : Spc} {x : Str} {p : Pos} {kws : List Keyword} {ET : Ex → Env → Prop} (G : FnG X.prog X.w X.K X.mg X.base k f fd ps sp) (hr : Room k X.A) (hgd : X.A.guards = some []) (tk : Takes X (wxOf Z ET))
    (hm : X.mg x = some (.ref f)) (hk : PySem.W.keepIn X.K (.ref f) = true) (hb : KwOk X.K fd ps ks ns) (h : WKs Z X kws env fun as e1 => as.length = ks.length ∧ callD sp (pick ns as) e1 (fun t e => P (.t t) e) ET)
    (hks : (backToKw pos (keywordEach kws X.env)).filterMap (·.1) = ks := by rfl) (hall : (backToKw pos (keywordEach kws X.env)).all (·.1.isSome) = true := by rfl)
    (hg : Gl X x := by rfl) (hdb : (x == ("__debug__" : Str)) = false := by decide) (hpl : ((backTo pos (starEach [] X.env)).any (·.1) || (backToKw pos (keywordEach kws X.env)).any (·.1.isNone)) = false := by rfl) :
    WE Z X (.Call (.Name x p) [] kws pos) env P := fun pins s σ H F O I b o => by
  refine wpAny_Call_Name_kw (ld_glob I hg hm ?_ hdb)
  refine PySem.W.callWith_KW0 (h₀ := X.base) (first := []) I.ok.mod.kin hk hall (thn ((pk_Ks (Z := Z)).run pos pins s σ H (PostAs Z σ H F O _) I ⟨env, F, O, _, b, o, h, fun _ _ q => q⟩) fun us s1 ⟨vs, H1, I1, r, F1, O1, as, e1, b1, o1, st, fr, hl, q⟩ => ⟨I1.kIn, ?_⟩) hpl
  rw [hks]
  exact thn (call_g (us0 := []) (us := pick ns us) G hr hgd tk (hb s1 us I1.kIn (by rw [← r.length, st.len]; exact hl)) I1 b1 o1 (st.pick ns) (vals_pick r ns) q) (EP.imp fun v H' q => q.from fr)

/-! ### the script: a list that stands in the written part -/
def scT (K : PySem.W.Frag) (a : Addr) (ns : List Int) : T := .ob (some a) fun F _ O v => v = .ref a ∧ O = [] ∧ SqL K F a (ns.map V.int)
theorem sql_mono {K : PySem.W.Frag} {F F' : Hp} {a : Addr} {xs : List V} (s : Same F F') (h : SqL K F a xs) : SqL K F' a xs := by
  rcases h with h | h
  · exact .inl (rd_mono s h)
  · exact .inr h
theorem scT_ow {K : PySem.W.Frag} {F H : Hp} {a : Addr} {ns : List Int} (h : SqL K F a (ns.map V.int)) : Ow F H [] (.ref a) (scT K a ns) :=
  .ob ⟨rfl, rfl, h⟩ ⟨fun F H F' H' O v ⟨h1, h2, h3⟩ s _ => ⟨h1, h2, sql_mono s h3⟩, fun F H O v ⟨_, h2, _⟩ b hb => (by subst h2; cases hb), fun F H O v b ⟨h1, _, _⟩ e => by cases e; exact h1⟩
theorem sc_at {Z : Zb} {F H : Hp} {O : List Addr} {σ : L2.St} {env : Env} {i : Nat} {K : PySem.W.Frag} {a : Addr} {ns : List Int} (b : Bas Z F H O) (o : OwE F H O σ env) (hg : env[i]? = some (some (scT K a ns))) : σ[i]? = some (some (.ref a)) ∧ SqL K H a (ns.map V.int) := by
  obtain ⟨w, hw, Oj, O', h1, h2, h3⟩ := o.focusI hg
  cases h1 with
  | ob h _ =>
    obtain ⟨e, _, q⟩ := h
    subst e
    exact ⟨hw, sql_mono b.sub q⟩
theorem w_scLen (i : Nat) {x : Str} {p p2 : Pos} {a : Addr} {ns : List Int} (hm : X.mg "len" = none) (he : env[i]? = some (some (scT X.K a ns))) (h : P (.t (.va (.int ns.length))) env) (hN : X.N[i]? = some x := by rfl)
    (hg : Gl X "len" := by rfl) (hv : Vis X.env.scope x := by first | exact Or.inl rfl | exact Or.inr (Or.inl rfl) | exact Or.inr (Or.inr rfl)) (hd : (x == ("__debug__" : Str)) = false := by decide) (hcd : (x == ("__classdict__" : Str)) = false := by decide)
    (hs : starEach [.Name x p2] X.env = (false, eval (.Name x p2) X.env) :: starEach [] X.env := by rfl) (hpl : (backTo pos (starEach [] X.env)).any (·.1) = false := by rfl) : WE Z X (.Call (.Name "len" p) [.Name x p2] [] pos) env P :=
  we_of (pe_callB call_len_seq hg hm rfl (pa_cons (pe_var hN hv hd hcd) pa_nil hs) (by decide) (by decide) hs hpl) fun σ H F O b o => by
    obtain ⟨e1, q⟩ := sc_at b o he
    refine ⟨_, e1, a, _, rfl, .inl q, ?_⟩
    rw [List.length_map]
    exact post_val b o (.int _) h
theorem w_scIx (i j : Nat) {x y : Str} {p p2 : Pos} {a : Addr} {ns : List Int} {n : Int} {m : Int} (he : env[i]? = some (some (scT X.K a ns))) (hj : env[j]? = some (some (.va (.int n)))) (ha : atI ns n = some m) (h : P (.t (.va (.int m))) env) (hN : X.N[i]? = some x := by rfl) (hM : X.N[j]? = some y := by rfl)
    (hv : Vis X.env.scope x := by first | exact Or.inl rfl | exact Or.inr (Or.inl rfl) | exact Or.inr (Or.inr rfl)) (hd : (x == ("__debug__" : Str)) = false := by decide) (hcd : (x == ("__classdict__" : Str)) = false := by decide)
    (hv2 : Vis X.env.scope y := by first | exact Or.inl rfl | exact Or.inr (Or.inl rfl) | exact Or.inr (Or.inr rfl)) (hd2 : (y == ("__debug__" : Str)) = false := by decide) (hcd2 : (y == ("__classdict__" : Str)) = false := by decide)
    (hs : PlainIx (.Name y p2) := by intro _ _; rfl) : WE Z X (.Subscript (.Name x p) (.Name y p2) pos) env P :=
  we_of (pe_ix ix_list (pe_var hN hv hd hcd) (pe_var hM hv2 hd2 hcd2) hs) fun σ H F O b o => by
    obtain ⟨e1, q⟩ := sc_at b o he
    obtain ⟨w, hw, Oj, O', h1, h2, h3⟩ := o.focusI hj
    cases h1 with
    | va r =>
      cases r
      refine ⟨_, e1, _, hw, a, _, n, .int m, rfl, rfl, q, ?_, post_val b o (.int _) h⟩
      unfold atI at ha ⊢
      rw [List.length_map]
      cases hn : ixN ns.length n with
      | none => rw [hn] at ha; cases ha
      | some k =>
        rw [hn] at ha
        have ha : ns[k]? = some m := ha
        show (ns.map V.int)[k]? = some (V.int m)
        rw [List.getElem?_map, ha]
        rfl
end
end QL

/-! QI: methods of lists, starred displays, sums of tuples, zip as what is walked, repr without dicts. -/
namespace QL
open PySem PySem.Spec PyProof.Rows L2 StX

section
variable {X : Cx} {Z : Zb} {e a b c o ix tg : Expr} {es : List Expr} {env : Env} {pos : Pos} {P : R → Env → Prop} {PO : Out → Prop}

/-! ### repr -/
def showOk0 (d : D) : Prop := d.hasDict = false ∧ showOk d
def reprG0 (ds : List D) (k : T → Prop) : Prop := ∃ d, ds = [d] ∧ showOk0 d ∧ k (.va (.str d.shown))
theorem dc_repr0 (hg : X.A.guards = some []) (hu : X.A.units + 110 < cLine) : DCall X (.builtin "repr") reprG0 := fun pins s σ H F vs us ds k I sF ws rv ⟨d, e, ⟨nd, ok⟩, h⟩ => by
  subst e
  obtain ⟨v, rfl, w⟩ := ws.one
  obtain ⟨u, rfl, ru⟩ := rv.one
  have rp := w.rp sF
  have fin : ∀ {h' : Heap} {t tk : Nat}, Inv X pins σ H { s with heap := h', toks := tk } → EP X pins σ (NewV F H k) (.str d.shown t) { s with heap := h', toks := tk } := fun {h' t tk} I' => ⟨.str d.shown, H, I', ⟨t, rfl⟩, NewV.val sF (.str _) h⟩
  have big : ∀ {a : Addr}, u = .ref a → wpAny (model X.prog X.w) X.A (call (.builtin "repr") [u]) (EP X pins σ (NewV F H k)) X.xe s := fun {a} e => by
    obtain ⟨as, hr⟩ := rp.reads I ru nd
    subst e
    exact repr_of_reads' hr ok.1 (PyData.noDict_hsm nd) hg (by have := ok.2.1; omega) (fun _ _ e => e) (fun h' u tk hk => fin (I.kept hk)) ok.2.2
  cases rp with
  | non => cases ru; exact P.repr_of_none (fin (I.tok _))
  | bl b => cases ru; exact P.repr_of_bool (fin (I.tok _))
  | int i =>
    obtain ⟨t, rfl⟩ := ru
    exact P.repr_of_int (by simpa [PyData.showable] using ok.1) (fin (I.tok _))
  | str x =>
    obtain ⟨t, rfl⟩ := ru
    exact P.repr_of_str (fin (I.tok _)) ok.2.2
  | lst _ _ => exact big ru
  | tup _ _ => exact big ru
  | dic _ _ => cases nd

/-! ### xs.append(e), xs.pop() -/
theorem lst_at {F H : Hp} {O : List Addr} {σ : L2.St} {a : Addr} {i : Nat} {p : List Str} {ds : List D} {K : PySem.W.Frag} (o : OwE F H O σ env) (hg : getP i p env = some (.lst a ds)) : tyV K "list" (.ref a) H := by
  obtain ⟨w, ⟨Oj, O', h1, h2, h3⟩, _⟩ := o.focus hg
  cases h1 with
  | lst hH r => exact .inl ⟨rfl, _, SqL.of hH⟩
theorem w_append {apos : Pos} (h : WE Z X o env fun r e1 => ∃ a i p ds0, r = .bor a i p ∧ getP i p e1 = some (.lst a ds0) ∧ WA Z X e e1 fun a1 e2 => absorb [a1] e2 fun ds e3 => ∃ d ds1, ds = [d] ∧ getP i p e3 = some (.lst a ds1) ∧ ds1.length < sizeLine ∧ P (.t (.va .none)) (setP i p (.lst a (ds1 ++ [d])) e3))
    (hbase : attributeBase o "append" X.env (eval o X.env) = eval o X.env := by rfl)
    (hfew : ((backTo pos (starEach [e] X.env)).all (fun x => !x.1) && (backToKw pos (keywordEach [] X.env)).all (fun x => x.1.isSome)
      && decide (([e] : List Expr).length + ([] : List Keyword).length + (if ([] : List Keyword).isEmpty then 0 else 1) < 30)) = true := by rfl)
    (hline : (apos.endLine == pos.line) = true := by rfl) (hs : starEach [e] X.env = (false, eval e X.env) :: starEach [] X.env := by rfl) (hpl : (backTo pos (starEach [] X.env)).any (·.1) = false := by rfl) :
    WE Z X (.Call (.Attribute o "append" apos) [e] [] pos) env P :=
  we_of (pe_bm PySem.F.plainAttrs_list PySem.F.slot_list_append PySem.F.type_list_append mt_append (pe_E (Z := Z)) (pa_cons (pe_A (Z := Z)) pa_nil hs) hbase hfew hline hs hpl) fun σ H F O b0 o0 =>
    ⟨env, F, O, _, b0, o0, h, fun v H1 ⟨F1, O1, r, e1, b1, st, fr1, a, i, p, ds0, er, hg, q⟩ => by
      subst er
      obtain ⟨o1, ev⟩ := st
      subst ev
      refine ⟨lst_at o1 hg, e1, F1, O1, _, b1, o1, q, fun v2 H2 ⟨F2, O2, a2, e2, b2, o2, st2, fr2, q2⟩ => ?_⟩
      obtain ⟨F3, O3, ds, e3, b3, o3, r3, fr3, d, ds1, eds, hg3, hz, q3⟩ := absorb_ok (.cons st2 .nil) b2 o2 q2
      subst eds
      cases r3 with
      | cons r3 rn =>
        cases rn
        obtain ⟨xs, hH, rx, up⟩ := mutL b3 o3 hg3
        obtain ⟨O4, b4, o4, fr4⟩ := up (xs ++ [v2]) (ds1 ++ [d]) (rx.app (.cons r3 .nil))
        exact ⟨a, xs, v2, rfl, rfl, hH, by rw [rx.len]; exact hz, (post_val b4 o4 .non q3).from (((fr1.trans fr2).trans fr3).trans fr4)⟩⟩
theorem RpA.dropLast {F : Hp} {vs : List V} {ds : List D} (r : RpA F vs ds) : RpA F vs.dropLast ds.dropLast := by
  rw [List.dropLast_eq_take, List.dropLast_eq_take, r.len]
  exact r.take _
theorem w_pop {apos : Pos} (h : WE Z X o env fun r e1 => ∃ a i p ds d, r = .bor a i p ∧ getP i p e1 = some (.lst a ds) ∧ ds[ds.length - 1]? = some d ∧ P (.t (.va d)) (setP i p (.lst a ds.dropLast) e1))
    (hbase : attributeBase o "pop" X.env (eval o X.env) = eval o X.env := by rfl) (hline : (apos.endLine == pos.line) = true := by rfl) : WE Z X (.Call (.Attribute o "pop" apos) [] [] pos) env P :=
  we_of (pe_bm0 PySem.F.plainAttrs_list PySem.F.slot_list_pop PySem.F.type_list_pop mt_pop (pe_E (Z := Z)) hbase hline) fun σ H F O b0 o0 => ⟨env, F, O, _, b0, o0, h, fun v H1 ⟨F1, O1, r, e1, b1, st, fr1, a, i, p, ds, d, er, hg, hd, q⟩ => by
    subst er
    obtain ⟨o1, ev⟩ := st
    subst ev
    refine ⟨lst_at o1 hg, ?_⟩
    obtain ⟨xs, hH, rx, up⟩ := mutL b1 o1 hg
    obtain ⟨O4, b4, o4, fr4⟩ := up xs.dropLast ds.dropLast rx.dropLast
    obtain ⟨y, hy, ry⟩ := rx.get' hd
    exact ⟨a, xs, y, rfl, rfl, hH, by rw [rx.len]; exact hy, (post_val b4 o4 ry q).from (fr1.trans fr4)⟩⟩

/-! ### (x, *xs) -/
theorem w_tupStar {x1 : _} {sp : Pos} (h : WA Z X a env fun a1 e1 => WA Z X b e1 fun a2 e2 => absorb [a1, a2] e2 fun ds e3 => ∃ d xs, ds = [d, .tuple xs] ∧ xs.length < sizeLine ∧ P (.t (.va (.tuple (d :: xs)))) e3)
    (hs : starEach [a, .Starred b sp] X.env = (false, eval a X.env) :: starEach [.Starred b sp] X.env := by rfl) (hs2 : starEach [.Starred b sp] X.env = (true, eval b X.env) :: starEach [] X.env := by rfl) :
    WE Z X (.Tuple [a, .Starred b sp] x1 pos) env P :=
  we_of (pe_tup (pa_cons (pe_A (Z := Z)) (pa_star (pe_A (Z := Z)) pa_nil hs2) hs)) fun σ H F O b0 o0 => ⟨env, F, O, _, b0, o0, h, fun v1 H1 ⟨F1, O1, a1, e1, b1, o1, st1, fr1, q1⟩ => ⟨e1, F1, O1, _, b1, o1, q1, fun v2 H2 ⟨F2, O2, a2, e2, b2, o2, st2, fr2, q2⟩ => by
    obtain ⟨F3, O3, ds, e3, b3, o3, r3, fr3, d, xs, eds, hz, q3⟩ := absorb_ok (.cons (st1.mono fr2.fz) (.cons st2 .nil)) b2 o2 q2
    subst eds
    cases r3 with
    | cons r3 rn =>
      cases rn with
      | cons r4 rn =>
        cases rn
        cases r4 with
        | tup h4 r4 =>
          refine ⟨_, _, rfl, .inl (SqT.of (b3.sub _ _ h4)), ?_⟩
          refine ⟨by rw [List.length_cons, List.length_append, r4.len]; exact hz, fun p hp => ?_⟩
          rw [List.append_nil]
          exact ((NewV.tup b3.sub (.cons r3 r4) hp (k := fun t => t = .va (.tuple (d :: xs))) rfl).post b3 o3 (fun t e => by subst e; exact q3)).from ((fr1.trans fr2).trans fr3)⟩⟩

/-! ### sum of a list or a tuple -/
def rSumT (K : PySem.W.Frag) : List V → Hp → VK → Prop := fun vs H Q => ∃ (a : Addr) (ns : List Int), vs = [V.ref a] ∧ SqT K H a (ns.map V.int) ∧ Q (.int ns.sum) H
theorem cr_sumT (hc : X.calm = true) : CallR X (.builtin "sum") (rSumT X.K) := by
  intro pins s σ H vs us Q I r ⟨a, ns, e, hs, q⟩
  subst e
  obtain ⟨its, rv, hl, _⟩ := I.tuple hs
  rw [Vals.ref1 r]
  have hl : s.heap.IsTuple a its.toArray := hl
  have hi := rv.ints
  obtain ⟨xs, ex⟩ := hi.allInts.items
  have hn := hi.numsOf
  rw [show its = its.toArray.toList from rfl, ex, nums_intItems] at hn
  rw [ex] at hl
  refine PySem.W.ktm_sumG (I.ok.hd hc) hl fun h' tk t' hk => ?_
  rw [preSum_eq, List.take_of_length_le (by simp), hn]
  exact ⟨.int ns.sum, H, I.kept hk, ⟨t', rfl⟩, q⟩
def sumAG (ds : List D) (k : T → Prop) : Prop := ∃ ns : List Int, (ds = [.list (ns.map .int)] ∨ ds = [.tuple (ns.map .int)]) ∧ k (.va (.int ns.sum))
theorem dc_sumA (hc : X.calm = true) : DCall X (.builtin "sum") sumAG := .of ((cr_sum hc).or (cr_sumT hc)) fun H F vs ds k sF ws ⟨ns, e, h⟩ => by
  rcases e with e | e
  · subst e
    obtain ⟨v, rfl, w⟩ := ws.one
    obtain ⟨p, xs, rfl, h1, r1⟩ := w.lst' sF
    exact .inl ⟨p, ns, rfl, by rw [← r1.ints]; exact SqL.of h1, NewV.val sF (.int _) h⟩
  · subst e
    obtain ⟨v, rfl, w⟩ := ws.one
    obtain ⟨p, xs, rfl, h1, r1⟩ := w.tup
    exact .inr ⟨p, ns, rfl, by rw [← r1.ints]; exact SqT.of (sF _ _ h1), NewV.val sF (.int _) h⟩

/-! ### for x, y in zip(t, u), t and u tuples -/
def zipD (xs ys : List D) : List D := (xs.zip ys).map fun p => .tuple [p.1, p.2]
theorem gives_zipT {K : PySem.W.Frag} {a b : Addr} {xs ys : List V} {ds es : List D} {F : Hp} (h1 : F a = some (.tup xs)) (r1 : RpA F xs ds) (h2 : F b = some (.tup ys)) (r2 : RpA F ys es) : Gives (RZ.ItzT K a b) (zipD ds es) F := fun F' H' s1 s2 i => by
  have q1 : SqT K H' a xs := SqT.of (s2 _ _ (s1 _ _ h1))
  have q2 : SqT K H' b ys := SqT.of (s2 _ _ (s1 _ _ h2))
  refine ⟨fun d hd => ?_, fun hn => ?_⟩
  · unfold zipD at hd
    rw [List.getElem?_map, Option.map_eq_some_iff] at hd
    obtain ⟨⟨d1, d2⟩, hz, e⟩ := hd
    rw [List.getElem?_zip_eq_some] at hz
    subst e
    obtain ⟨v1, g1, w1⟩ := r1.get' hz.1
    obtain ⟨v2, g2, w2⟩ := r2.get' hz.2
    refine ⟨⟨xs, ys, v1, v2, q1, q2, g1, g2⟩, fun v H'' ⟨T, x, y, ev, hT, eH, f1, f2⟩ => ?_⟩
    subst ev eH
    have e1 := (f1 xs q1).symm.trans g1
    have e2 := (f2 ys q2).symm.trans g2
    cases e1
    cases e2
    have nf : F' T = none := s2.free hT
    refine ⟨upd F' T (.tup [v1, v2]), .tup upd_same (.cons (w1.mono (s1.trans (same_new nf))) (.cons (w2.mono (s1.trans (same_new nf))) .nil)), same_new nf, same_new hT, same_upd2 s2, fun c hc => ?_⟩
    by_cases z : c = T
    · subst z; exact .inr hT
    · rw [upd_ne z] at hc; exact .inl hc
  · unfold zipD at hn
    rw [List.getElem?_eq_none_iff, List.length_map, List.length_zip] at hn
    have e1 := r1.len
    have e2 := r2.len
    exact ⟨xs, ys, q1, q2, by omega⟩
def zipG (ds : List D) (k : List D → Prop) : Prop := match ds with
  | [.tuple xs, .tuple ys] => k (zipD xs ys)
  | _ => False
theorem wi_zip {P : List D → Env → Prop} {p tpos : Pos} {elts : List Expr} {kk : Nat} (hm : X.mg "zip" = none) (h : WAs Z X [a, b] env fun as e1 => absorb as e1 fun ds e2 => zipG ds fun xs => P xs e2) (hg : Gl X "zip" := by rfl)
    (hs : starEach [a, b] X.env = (false, eval a X.env) :: starEach [b] X.env := by rfl) (hpl : (backTo pos (starEach [b] X.env)).any (·.1) = false := by rfl) : WI Z X (.Tuple elts kk tpos) (.Call (.Name "zip" p) [a, b] [] pos) env P :=
  wi_of (RZ.pi_zipA hg hm (pa_As (Z := Z)) hs hpl) fun σ H F O b0 o0 => ⟨env, F, O, _, b0, o0, h, fun vs H1 ⟨F1, O1, as, e1, b1, o1, st, fr, q⟩ => by
    obtain ⟨F2, O2, ds, e2, b2, o2, r2, fr2, q⟩ := absorb_ok st b1 o1 q
    unfold zipG at q
    split at q
    · cases r2 with
      | cons r3 rn =>
        cases rn with
        | cons r4 rn =>
          cases rn
          cases r3 with
          | tup h3 r3 =>
            cases r4 with
            | tup h4 r4 => exact ⟨_, _, _, _, rfl, .inr ⟨SqT.of (b2.sub _ _ h3), SqT.of (b2.sub _ _ h4), F2, O2, _, e2, b2, o2, fr.trans fr2, gives_zipT h3 r3 h4 r4, q⟩⟩
    · exact q.elim⟩
end
end QL

/-! QJ: a law row's end, from the promise (FnG) of its def. -/
namespace QL
open PySem PySem.Spec PyProof.Rows L2

/-- what is tracked at the start: the script alone, or nothing -/
structure Start (P : Program) (w : World) (K : PySem.W.Frag) (h : Heap) (a : Addr) (ns : List Int) (H : Hp) : Prop where
  one : ∀ c, H c ≠ none → c = a ∧ K.lookup c = none ∧ ∃ o, h.get? c = some o ∧ H c = some (.frz o (.lst (ns.map V.int)))
  ok : HOk P w H h
  sq : SqL K H a (ns.map V.int)
theorem start_of {P : Program} {w : World} {K : PySem.W.Frag} {h : Heap} {a : Addr} {vs : List Value} {ns : List Int} (KX : K.In h) (ha : h.get? a = some { cls := .type "list", data := .seq vs.toArray }) (hi : IntsAre vs ns) (hl : ns.length ≤ sizeLine) :
    ∃ H, Start P w K h a ns H := by
  have rv := vals_ints hi
  by_cases hk : K.lookup a = none
  · refine ⟨fun b => if b = a then some (.frz { cls := .type "list", data := .seq vs.toArray } (.lst (ns.map V.int))) else none, ⟨fun c hc => ?_, fun c u hc => ?_, .inl (.inr ⟨_, if_pos rfl⟩)⟩⟩
    · by_cases z : c = a
      · subst z; exact ⟨rfl, hk, _, ha, if_pos rfl⟩
      · rw [if_neg z] at hc; exact absurd rfl hc
    · by_cases z : c = a
      · subst z
        rw [if_pos rfl] at hc
        cases hc
        exact ⟨ha, by rw [List.length_map]; exact hl, vs, _, rv, ha⟩
      · rw [if_neg z] at hc; cases hc
  · obtain ⟨o, ho⟩ := Option.ne_none_iff_exists'.mp hk
    have e := KX a o ho
    rw [ha] at e
    cases e
    refine ⟨fun _ => none, ⟨fun _ z => absurd rfl z, fun _ _ z => (nomatch z), .inr ⟨_, vs.toArray, _, ho, rfl, rfl, rfl, ?_, by simpa using rv⟩⟩⟩
    rw [List.size_toArray, hi.length]
    exact hl
theorem law_goes {P : Program} {w : World} {K : PySem.W.Frag} {mg mb : Str → Option Value} {k : Nat} {fa a : Addr} {fd : FuncData} {x : Str} {sp : Spc} {s : Shared} {vs : List Value} {ns : List Int}
    (KX : K.In s.heap) (hns : s.heap.Ns mainGlobals mg) (hb : s.heap.Ns builtinsNs mb) (hbb : ∀ x : Str, x ≠ "__name__" → mb x = bootBuiltins x) (hlim : s.heap.NoLimit) (hg : s.gens = #[])
    (ha : s.heap.get? a = some { cls := .type "list", data := .seq vs.toArray }) (hi : IntsAre vs ns) (hl : ns.length ≤ sizeLine) (hr : Room k callerA)
    (F : ∀ base : Heap, K.In base → base.Ns mainGlobals mg → FnG P w K mg base k fa fd [x] sp) (hbind : ∀ (s : Shared) (u : Value), BindsTo s fd ⟨[u], []⟩ [(x, u)])
    (hsp : sp [scT K a ns] (fun t _ => t = .va (.bool true)) fun _ _ => False) :
    codeAny (model P w) callerA (.call (.ref fa) ⟨[.ref a], []⟩) (fun r s' => r = .ok (.ret (.bool true)) ∧ PySem.OldK s.heap s'.heap ∧ s'.os = s.os ∧ AllBare s'.gens) s := by
  obtain ⟨H, S⟩ := start_of (P := P) (w := w) (K := K) KX ha hi hl
  have none_if : ∀ {c : Addr} {o : Obj}, s.heap.get? c = some o → (∀ ys n, o.data ≠ .seq ys n) → H c = none := fun {c o} e hd => by
    cases q : H c with
    | none => rfl
    | some u =>
      obtain ⟨rfl, _, o', ho', _⟩ := S.one c (by rw [q]; exact fun z => nomatch z)
      rw [ha] at e
      cases e
      exact absurd rfl (hd _ _)
  have ns_ : ∀ {c : Addr} {m : Str → Option Value}, s.heap.Ns c m → (hidT s.heap H).Ns c m := fun {c m} ⟨o, es, ep, e, d, r⟩ => ⟨o, es, ep, hidT_get e (none_if e fun ys n z => by rw [d] at z; cases z), d, r⟩
  have kin : K.In (hidT s.heap H) := fun c o e => hidT_get (KX c o e) (by
    cases q : H c with
    | none => rfl
    | some u =>
      obtain ⟨_, q2, _⟩ := S.one c (by rw [q]; exact fun z => nomatch z)
      rw [e] at q2
      cases q2)
  have lim : (hidT s.heap H).NoLimit := let ⟨mc, h1, h2⟩ := hlim; ⟨mc, ns_ h1, h2⟩
  have env : Env0 P w K mg (hidT s.heap H) callerA [] s H := by
    refine ⟨rfl, ⟨kin, ns_ hns, ⟨mb, ns_ hb, hbb⟩, lim⟩, fun b o e => of_hidT e, Nat.le_of_eq (hidT_size _ _), trivial, fun b hb => ?_, S.ok, .of_eq hg⟩
    exact absurd (show b ∈ ([] : List Addr) from hb) List.not_mem_nil
  have bas : Bas ⟨H, H, []⟩ H H [] := ⟨Same.refl _, List.nodup_nil, fun _ z => (nomatch z), Frm.refl _ _ _⟩
  have args : StV H H [] [.ref a] [scT K a ns] := by
    have := StV.cons (O1 := []) (O2 := []) (scT_ow (F := H) (H := H) S.sq) .nil
    exact this
  refine codeAny_mono ((F _ kin (ns_ hns)).run callerA [] s H ⟨[.ref a], []⟩ [.ref a] [.ref a] H [] _ _ _ (fun _ _ _ => False) hr rfl env (hbind s (.ref a)) (.cons rfl .nil) bas args hsp fun _ _ _ _ _ _ _ _ _ _ q => q) fun r s' h => ?_
  cases r with
  | error e =>
    obtain ⟨_, _, _, _, _, _, _, _, _, _, _, _, q⟩ := h
    exact q.elim
  | ok fl =>
    cases fl with
    | next => exact h.elim
    | brk => exact h.elim
    | cont => exact h.elim
    | ret u =>
      obtain ⟨v, H', os, bare, un, hok', rv', F', O1, O2, t, ts', _, _, ow, et⟩ := h
      subst et
      have ev : v = .bl true := by
        cases ow with
        | va r => cases r; rfl
      subst ev
      obtain rfl : u = Value.bool true := rv'
      refine ⟨rfl, PySem.OldK.of_keep fun b o e => ?_, os, bare⟩
      by_cases q : H b = none
      · exact un.keep b o e q (fun z => absurd (show b ∈ ([] : List Addr) from z) List.not_mem_nil) List.not_mem_nil
      · obtain ⟨_, _, o', ho', hb'⟩ := S.one b q
        rw [e] at ho'
        cases ho'
        exact (hok' b _ (un.frzs b _ _ hb')).1
/-- the goal that k_head leaves -/
theorem walk_g {l : PySem.W.OpenLaw} {n k : Nat} {q : Program} {loose : List Str} {XP : (Str → Option Value) → Heap → Prop} {YP : World → Heap → Prop} {d : DefRec} {K : Params → PySem.W.Frag} {sp : World → Spc} {x : Str}
    (hn : l.most = some n) (hn2 : n ≤ sizeLine) (hdf : d.params.defaults = []) (hr : Room k callerA) (hY : ∀ (w : World) (h : Heap), YP w h → (K w.params).In h)
    (F : ∀ (w : World) (mg : Str → Option Value) (fa : Addr) (h : Heap), (K w.params).In h → h.Ns mainGlobals mg → mg d.name = some (.ref fa) →
      ∃ fd : FuncData, (∀ (s : Shared) (u : Value), BindsTo s fd ⟨[u], []⟩ [(x, u)]) ∧ ∀ base : Heap, (K w.params).In base → base.Ns mainGlobals mg → FnG l.prog w (K w.params) mg base k fa fd [x] (sp w))
    (hsp : ∀ (w : World) (a : Addr) (ns : List Int), ns.length ≤ n → sp w [scT (K w.params) a ns] (fun t _ => t = .va (.bool true)) fun _ _ => False) :
    PySem.W.WalkO q loose XP YP l.row.toRowW d [] (fun f vs => PySem.call f vs) :=
  Att.attach_call hn hdf fun w s₀ s₁ mg mb fa o pm cd doc a vs ns G Y ho hd hcd hmg hobj hints hlen hg => by
    obtain ⟨fd, hb, hF⟩ := F w mg fa _ (hY w _ Y) G.T.g hmg
    exact law_goes (hY w _ Y) G.T.g G.T.b G.T.builtins G.T.nolimit hg hobj hints (Nat.le_trans hlen hn2) hr hF hb (hsp w a ns hlen)
end QL

/-! QZ: list(it) and tuple(it) where what the iterator gives is seen in the heap; zip of two tuples. -/
namespace QL
open PySem PySem.Spec PyProof.Rows L2

/-- an iterator at I that is walked into the list at S: the values so far, and what the heap then is -/
structure Src (prog : Program) (w : World) (A : Around) (S I : Addr) (wr : List Addr) (n : Nat) (St : Nat → List Value → Heap → Prop) (Fn : List Value → Heap → Prop) : Prop where
  notS : S ∉ wr
  neS : S ≠ I
  frame : ∀ i acc h h', St i acc h → (∀ b o, b ≠ S → h.get? b = some o → h'.get? b = some o) → (∃ o, h'.get? S = some o) → St i acc h'
  item : ∀ i acc (s : Shared) (Q : Option Value → Shared → Prop) (E : Value → Shared → Prop), i < n → St i acc s.heap →
    (∀ v h' tk, St (i + 1) (acc ++ [v]) h' → (∀ b o, b ∉ wr → s.heap.get? b = some o → h'.get? b = some o) → Q (some v) { s with heap := h', toks := tk }) → wpAny (model prog w) A (pyNext (.ref I)) Q E s
  done : ∀ acc (s : Shared) (Q : Option Value → Shared → Prop) (E : Value → Shared → Prop), St n acc s.heap →
    (∀ h' tk, Fn acc h' → (∀ b o, b ∉ wr → s.heap.get? b = some o → h'.get? b = some o) → Q none { s with heap := h', toks := tk }) → wpAny (model prog w) A (pyNext (.ref I)) Q E s
  self : ∀ acc (s : Shared) (Q : Value → Shared → Prop) (E : Value → Shared → Prop), St 0 acc s.heap → Q (.ref I) s → wpAny (model prog w) A (pyIter (.ref I)) Q E s
abbrev lstObj (acc : List Value) (c : Nat) : Obj := { cls := .type "list", data := .seq acc.toArray c }
section
variable {prog : Program} {w : World} {A : Around} {S I : Addr} {wr : List Addr} {n : Nat} {St : Nat → List Value → Heap → Prop} {Fn : List Value → Heap → Prop} {R : Result → Shared → Prop}
theorem src_loop (W : Src prog w A.in1 S I wr n St Fn) (hn : n ≤ sizeLine) (res : Value) : ∀ (k i : Nat) (s : Shared) (acc : List Value) (c : Nat), n - i = k → i ≤ n → acc.length = i → St i acc s.heap → s.heap.get? S = some (lstObj acc c) →
    (∀ h' tk acc' c', Fn acc' h' → acc'.length = n → h'.get? S = some (lstObj acc' c') → (∀ b o, b ≠ S → b ∉ wr → s.heap.get? b = some o → h'.get? b = some o) → R (.ok (.ret res)) { s with heap := h', toks := tk }) →
    codeAny (model prog w) A (.builtin "list.extend.loop" ⟨[.ref S, .ref I, res], []⟩) R s := by
  intro k
  induction k with
  | zero =>
    intro i s acc c hk hi hl hst hS hR
    have e : i = n := by omega
    subst e
    refine codeAny_builtin F.entry_extend_loop ?_
    rw [Around.under_plainId F.plain_extend_loop _]
    show wpAny _ A.in1 (pyNext (.ref I) >>= _) _ _ s
    exact wpAny_bind (W.done acc s _ _ hst fun h' tk hst' kp => wpAny_pure (hR h' tk acc c hst' hl (kp S _ W.notS hS) fun b o _ hb e => kp b o hb e))
  | succ k ih =>
    intro i s acc c hk hi hl hst hS hR
    have hlt : i < n := by omega
    refine codeAny_builtin F.entry_extend_loop ?_
    rw [Around.under_plainId F.plain_extend_loop _]
    show wpAny _ A.in1 (pyNext (.ref I) >>= _) _ _ s
    refine wpAny_bind (W.item i acc s _ _ hlt hst fun v h' tk hst' kp => ?_)
    have hS' : h'.get? S = some (lstObj acc c) := kp S _ W.notS hS
    show wpAny _ A.in1 (updateSeq S (·.push v) >>= _) _ _ _
    refine wpAny_bind ?_
    have hu := PySem.IsL.update hS' (·.push v)
    rw [show acc.toArray.push v = (acc ++ [v]).toArray by simp] at hu
    refine wpAny_updateSeq (s := { s with heap := h', toks := tk }) hS' rfl (wpAny_pure ⟨plainId_quiet F.plain_extend_loop _, ?_⟩) (by rw [List.size_toArray]; omega) (by show (acc.toArray.push v).size ≤ sizeLine + 1; rw [Array.size_push, List.size_toArray]; omega)
    refine ih (i + 1) { s with heap := h'.update S (Obj.mapSeq (·.push v)), toks := tk } (acc ++ [v]) _ (by omega) hlt (by rw [List.length_append, hl]; rfl) ?_ hu fun h2 tk2 acc2 c2 s2 l2 g2 k2 => ?_
    · exact W.frame _ _ _ _ hst' (fun b o hb e => (Heap.get?_update_other _ _ (Ne.symm hb)).trans e) ⟨_, hu⟩
    · exact hR h2 tk2 acc2 c2 s2 l2 g2 fun b o hb hw e => k2 b o hb hw ((Heap.get?_update_other _ _ (Ne.symm hb)).trans (kp b o hw e))

/-- the type of such an iterator tells no length -/
structure Mute (T : String) : Prop where
  len : typeLookup (.type T) "__len__" = pure none
  hint : typeLookup (.type T) "__length_hint__" = pure none
  nl : (Value.type T == Value.type "list") = false
  nt : (Value.type T == Value.type "tuple") = false
theorem mute_zip : Mute "zip" := ⟨by rw [typeLookup_type, builtinLookup_eq_fast]; kernel_rfl, by rw [typeLookup_type, builtinLookup_eq_fast]; kernel_rfl, by decide, by decide⟩
theorem src_extend {T : String} (m : Mute T) (W : Src prog w A.in1 S I wr n St Fn) (hn : n ≤ sizeLine) (res : Value) (s : Shared) (c : Nat) (hT : ∀ i acc (s' : Shared), St i acc s'.heap → s'.TypeIs (.ref I) T) (hst : St 0 [] s.heap) (hS : s.heap.get? S = some (lstObj [] c))
    (hR : ∀ h' tk acc' c', Fn acc' h' → acc'.length = n → h'.get? S = some (lstObj acc' c') → (∀ b o, b ≠ S → b ∉ wr → s.heap.get? b = some o → h'.get? b = some o) → R (.ok (.ret res)) { s with heap := h', toks := tk }) :
    wpAny (model prog w) A.in1 (Builtin.List.listExtendWith (.ref S) (.ref I) res)
      (fun fin s' => match fin with | .done f => R (.ok f) s' | .again c' => c'.quiet = true ∧ codeAny (model prog w) A c' R s') (fun e s' => R (.error e) s') s := by
  unfold Builtin.List.listExtendWith
  have h0 := hT 0 [] s hst
  refine wpAny_bind (wpAny_typeOf h0 ?_)
  have h1 : Builtin.List.listSameRef (.ref S) (.ref I) = false := by simp [Builtin.List.listSameRef, W.neS]
  simp only [h1, m.nl, m.nt, Bool.or_false, Bool.false_eq_true, if_false]
  refine wpAny_bind (W.self [] _ _ _ hst ?_)
  refine wpAny_bind (wpAny_holding ?_)
  unfold Builtin.List.listLengthHint
  refine wpAny_bind (wpAny_specialOf h0 m.len ?_)
  show wpAny _ A.in1 (specialOf (Value.ref I) (Str.ofString "__length_hint__") >>= _) _ _ _
  refine wpAny_bind (wpAny_specialOf h0 m.hint ?_)
  refine wpAny_pure ?_
  show wpAny _ A.in1 (rule "list.extend.makes-room" >>= fun _ => Builtin.List.listTouch (.ref S) >>= fun _ => again (.builtin "list.extend.loop" ⟨[.ref S, .ref I, res], []⟩)) _ _ _
  refine wpAny_bind (wpAny_rule ?_)
  refine wpAny_bind ?_
  show wpAny _ A.in1 (updateSeq S (·.push .none) >>= fun _ => updateSeq S (·.pop)) _ _ _
  refine wpAny_bind (wpAny_updateSeq hS rfl ?_)
  have g1 := Heap.get?_update_self (Obj.mapSeq (·.push Value.none)) hS rfl
  refine wpAny_updateSeq g1 rfl ?_
  have g2 := Heap.get?_update_self (Obj.mapSeq (·.pop)) g1 rfl
  have out : ∀ b o, b ≠ S → s.heap.get? b = some o → ((s.heap.update S (Obj.mapSeq (·.push Value.none))).update S (Obj.mapSeq (·.pop))).get? b = some o := fun b o hb e =>
    (Heap.get?_update_other _ _ (Ne.symm hb)).trans ((Heap.get?_update_other _ _ (Ne.symm hb)).trans e)
  exact wpAny_pure ⟨plainId_quiet F.plain_extend_loop _, src_loop W hn res n 0 { s with heap := (s.heap.update S (Obj.mapSeq (·.push Value.none))).update S (Obj.mapSeq (·.pop)) } [] _ (Nat.sub_zero n) (Nat.zero_le _) rfl (W.frame _ _ _ _ hst out ⟨_, g2⟩) g2
    fun h' tk acc' c' s2 l2 g k => hR h' tk acc' c' s2 l2 g fun b o hb hw e => k b o hb hw (out b o hb e)⟩
variable {E : Value → Shared → Prop} {s : Shared}
/-- list(it) -/
theorem call_list_src {T : String} (m : Mute T) {Q : Value → Shared → Prop} (W : Src prog w A.in1.in1 s.heap.objs.size I wr n St Fn) (hn : n ≤ sizeLine) (hT : ∀ i acc (s' : Shared), St i acc s'.heap → s'.TypeIs (.ref I) T)
    (hst : ∀ h', (∀ b o, s.heap.get? b = some o → h'.get? b = some o) → (∃ o, h'.get? s.heap.objs.size = some o) → St 0 [] h')
    (hQ : ∀ h' tk acc c, Fn acc h' → acc.length = n → h'.get? s.heap.objs.size = some (lstObj acc c) → (∀ b o, b ∉ wr → s.heap.get? b = some o → h'.get? b = some o) → Q (.ref s.heap.objs.size) { s with heap := h', toks := tk }) :
    wpAny (model prog w) A (call (.type "list") [.ref I]) Q E s := by
  refine callType_codes (Q₁ := fun ob s₁ => ob = .ref s.heap.objs.size ∧ s₁ = { s with heap := s.heap.push (lstObj [] 0) }) F.called_list (F.typeCall_list_1 _) F.entry_list_init (code_list_new _ ⟨rfl, rfl⟩) fun ob s₁ h₁ => ?_
  obtain ⟨rfl, rfl⟩ := h₁
  have g0 : (s.heap.push (lstObj [] 0)).get? s.heap.objs.size = some (lstObj [] 0) := Heap.get?_push_size _ rfl
  have up : ∀ b o, s.heap.get? b = some o → (s.heap.push (lstObj [] 0)).get? b = some o := fun b o e => Heap.get?_push_of_some _ e
  refine ⟨⟨_, g0, rfl⟩, F.args_list_init_2 _ _, ?_⟩
  show wpAny _ _ (do let old ← Builtin.List.listItems (.ref s.heap.objs.size); Builtin.List.listUpdate (.ref s.heap.objs.size) (fun _ => #[]); letGo old.toList.reverse; Builtin.List.listExtendWith (.ref s.heap.objs.size) (.ref I) .none) _ _ _
  refine wpAny_bind ?_
  unfold Builtin.List.listItems
  refine wpAny_bind (wpAny_seqItems g0 rfl (wpAny_pure ?_))
  show wpAny _ _ (updateSeq s.heap.objs.size (fun _ => #[]) >>= fun _ => letGo (#[] : Array Value).toList.reverse >>= fun _ => Builtin.List.listExtendWith (.ref s.heap.objs.size) (.ref I) .none) _ _ _
  refine wpAny_bind (wpAny_updateSeq g0 rfl ?_)
  have g1 := Heap.get?_update_self (Obj.mapSeq (fun _ => (#[] : Array Value))) g0 rfl
  have out : ∀ b o, s.heap.get? b = some o → ((s.heap.push (lstObj [] 0)).update s.heap.objs.size (Obj.mapSeq (fun _ => (#[] : Array Value)))).get? b = some o := fun b o e =>
    (Heap.get?_update_other _ _ (Nat.ne_of_gt (Heap.lt_size e))).trans (up b o e)
  refine wpAny_bind (wpAny_letGo ?_)
  refine src_extend (s := { s with heap := (s.heap.push (lstObj [] 0)).update s.heap.objs.size (Obj.mapSeq (fun _ => (#[] : Array Value))) }) m W hn .none _ hT (hst _ out ⟨_, g1⟩) g1 fun h' tk acc c s2 l2 g k => ?_
  exact ⟨rfl, hQ h' tk acc c s2 l2 g fun b o hb e => k b o (Nat.ne_of_lt (Heap.lt_size e)) hb (out b o e)⟩
theorem code_collect_src {T : String} (m : Mute T) {R : Result → Shared → Prop} (W : Src prog w A.in1 s.heap.objs.size I wr n St Fn) (hn : n ≤ sizeLine) (hT : ∀ i acc (s' : Shared), St i acc s'.heap → s'.TypeIs (.ref I) T)
    (hst : ∀ h', (∀ b o, s.heap.get? b = some o → h'.get? b = some o) → (∃ o, h'.get? s.heap.objs.size = some o) → St 0 [] h')
    (hR : ∀ h' tk acc c, Fn acc h' → acc.length = n → h'.get? s.heap.objs.size = some (lstObj acc c) → (∀ b o, b ∉ wr → s.heap.get? b = some o → h'.get? b = some o) → R (.ok (.ret (.ref s.heap.objs.size))) { s with heap := h', toks := tk }) :
    codeAny (model prog w) A (.builtin "proto.collect" ⟨[.ref I], []⟩) R s := by
  refine codeAny_builtin F.entry_proto_collect ?_
  rw [Around.under_plainId F.plain_proto_collect _]
  show wpAny _ A.in1 (newList [] >>= fun l' => again (.builtin "list.__iadd__" ⟨[l', .ref I], []⟩)) _ _ s
  refine wpAny_bind (wpAny_newObj_type ?_)
  refine wpAny_pure ⟨plainId_quiet F.plain_list_iadd _, codeAny_builtin F.entry_list_iadd ?_⟩
  rw [Around.under_plainId F.plain_list_iadd _]
  have g0 : (s.heap.push (lstObj [] 0)).get? s.heap.objs.size = some (lstObj [] 0) := Heap.get?_push_size _ rfl
  have up : ∀ b o, s.heap.get? b = some o → (s.heap.push (lstObj [] 0)).get? b = some o := fun b o e => Heap.get?_push_of_some _ e
  show wpAny _ A.in1 (Builtin.List.listExtendWith (.ref s.heap.objs.size) (.ref I) (.ref s.heap.objs.size)) _ _ _
  exact src_extend (R := R) (s := { s with heap := s.heap.push (lstObj [] 0) }) m W hn (.ref s.heap.objs.size) _ hT (hst _ up ⟨_, g0⟩) g0 fun h' tk acc c s2 l2 g k => hR h' tk acc c s2 l2 g fun b o hb e => k b o (Nat.ne_of_lt (Heap.lt_size e)) hb (up b o e)
theorem collect_src {T : String} (m : Mute T) {Q : List Value → Shared → Prop} (W : Src prog w A.in1 s.heap.objs.size I wr n St Fn) (hn : n ≤ sizeLine) (hT : ∀ i acc (s' : Shared), St i acc s'.heap → s'.TypeIs (.ref I) T)
    (hst : ∀ h', (∀ b o, s.heap.get? b = some o → h'.get? b = some o) → (∃ o, h'.get? s.heap.objs.size = some o) → St 0 [] h')
    (hQ : ∀ h' tk acc, Fn acc h' → acc.length = n → (∀ b o, b ∉ wr → s.heap.get? b = some o → h'.get? b = some o) → Q acc { s with heap := h', toks := tk }) : wpAny (model prog w) A (collect (.ref I)) Q E s := by
  unfold collect
  refine wpAny_bind (wpAny_runValue (code_collect_src m W hn hT hst fun h' tk acc c s2 l2 g k => ?_))
  show wpAny _ A (load s.heap.objs.size >>= _) _ _ _
  refine wpAny_bind (wpAny_load g ?_)
  exact wpAny_pure (hQ h' tk acc s2 l2 k)
/-- tuple(it) -/
theorem call_tuple_src {T : String} (m : Mute T) {Q : Value → Shared → Prop} (W : Src prog w A.in1.in1.in1 s.heap.objs.size I wr n St Fn) (hn : n ≤ sizeLine) (hT : ∀ i acc (s' : Shared), St i acc s'.heap → s'.TypeIs (.ref I) T)
    (hst : ∀ h', (∀ b o, s.heap.get? b = some o → h'.get? b = some o) → (∃ o, h'.get? s.heap.objs.size = some o) → St 0 [] h') (hI : s.TypeIs (.ref I) T)
    (hQ : ∀ h' tk acc, Fn acc h' → acc.length = n → (∀ b o, b ∉ wr → s.heap.get? b = some o → h'.get? b = some o) → Q (.ref h'.objs.size) { s with heap := h'.push { cls := .type "tuple", data := .seq acc.toArray }, toks := tk }) :
    wpAny (model prog w) A (call (.type "tuple") [.ref I]) Q E s := by
  refine callType_codes (Q₁ := fun ob s₁ => s₁.TypeIs ob "tuple" ∧ Q ob s₁) F.called_tuple (F.typeCall_tuple_1 _) F.entry_object_init ?_ fun ob s₁ h₁ => ?_
  · refine codeAny_of_tree ?_
    show wpAny _ A.in1.in1 (do checkBuiltinCall "tuple.__new__" ⟨[.type "tuple", .ref I], []⟩; again (.builtin "tuple.__new__" ⟨[.type "tuple", .ref I], []⟩)) _ _ s
    refine wpAny_bind (wpAny_of_eq (F.newCall_tuple_1 _) (wpAny_pure ⟨plainId_quiet F.plain_tuple_new _, codeAny_builtin F.entry_tuple_new ?_⟩))
    rw [Around.under_plainId F.plain_tuple_new _]
    have hsub := sub_tuple_self
    have hinit := init_tuple_lookup
    have hmh := madeHere_tuple
    wp_walk using wpAny_typeOf hI
    rw [if_neg (show ¬ ((Value.type T == Value.type "tuple") = true) by rw [m.nt]; exact Bool.false_ne_true)]
    wp_walk using collect_src (A := A.in1.in1) m W hn hT hst
    intro h' tk acc s2 l2 k
    show wpAny _ _ (Builtin.Tuple.tupleExact acc.toArray >>= fun v => ret v) _ _ _
    unfold Builtin.Tuple.tupleExact
    refine wpAny_bind (wpAny_newObj_type ?_ (by show acc.toArray.size ≤ sizeLine; rw [List.size_toArray, l2]; exact hn))
    refine wpAny_pure ?_
    exact ⟨⟨_, Heap.get?_push_size _ rfl, rfl⟩, hQ h' tk acc s2 l2 k⟩
  · exact ⟨h₁.1, F.args_object_init_2 ob _, object_init_meets F.called_tuple.init.lookup F.called_tuple.made (by decide) prog w A.in1 _ s₁ ⟨h₁.1, rfl, h₁.2⟩⟩

/-! ### zip of two tuples; the pairs it gives stay alive -/
section
variable {z TI TO T i1 i2 l1 l2 : Addr} {xs ys : Array Value} {k : Nat}
open PySem.W in
theorem zh_item {f : Bool} {oT : Obj} {x y : Value} {Q : Option Value → Shared → Prop} (D : ZipApart z TI TO i1 i2 l1 l2) (hz : IsZipHeld s.heap z TI TO T f) (hT : s.heap.get? T = some oT) (hTI : IsPair s.heap TI (.ref i1) (.ref i2))
    (a1 : s.heap.IsTupleIter i1 l1 k) (a2 : s.heap.IsTupleIter i2 l2 k) (t1 : s.heap.IsTuple l1 xs) (t2 : s.heap.IsTuple l2 ys) (hx : xs[k]? = some x) (hy : ys[k]? = some y)
    (hQ : ∀ h', IsZipHeld h' z TI TO T true → h'.IsTupleIter i1 l1 (k + 1) → h'.IsTupleIter i2 l2 (k + 1) → IsPair h' s.heap.objs.size x y → (∀ c o, c ≠ z → c ≠ i1 → c ≠ i2 → s.heap.get? c = some o → h'.get? c = some o) →
      Q (some (.ref s.heap.objs.size)) { s with heap := h' }) : wpAny (model prog w) A (pyNext (.ref z)) Q E s := by
  have ty : s.TypeIs (.ref z) "zip" := ⟨_, hz, rfl⟩
  have body : ∀ E' : Value → Shared → Prop, wpAny (model prog w) A.in1 (Builtin.«zip.__next__» ⟨[.ref z], []⟩) (fun fin s' => ∃ v, fin = .done (.ret v) ∧ wpAny (model prog w) A (pure (some v)) Q E s') E' s := by
    intro E'
    show wpAny _ _ (field (.ref z) 2 >>= _) _ _ _
    refine wpAny_bind (wpAny_field hz rfl (x := .bool false) rfl ?_)
    show wpAny _ _ (field (.ref z) 3 >>= _) _ _ _
    refine wpAny_bind (wpAny_field hz rfl (x := .ref TI) rfl (wpAny_bind (wpAny_seqItems hTI rfl ?_)))
    show wpAny _ _ (Builtin.SmallTypes.ownedTupleIsFree (.ref z) >>= _) _ _ _
    refine wpAny_bind (wpAny_tupleHeld_zip hz hT fun g1 z1 e1 => ?_)
    simp only [Bool.false_eq_true, if_false]
    refine wpAny_bind ?_
    rw [← Array.forIn_toList]
    simp only [List.forIn_cons, List.forIn_nil]
    refine wpAny_bind (wpAny_bind (wpAny_holding ?_))
    show wpAny _ _ (Builtin.SmallTypes.nextOf (.ref i1) >>= _) _ _ _
    refine wpAny_bind (RZ.nextOf_tuple_item (s := { s with heap := g1 }) (a1.extBut e1.extBut D.i1z) (t1.extBut e1.extBut D.l1z) hx fun g2 b1 e2 => wpAny_pure (wpAny_pure ?_))
    refine wpAny_bind (wpAny_bind (wpAny_holding ?_))
    show wpAny _ _ (Builtin.SmallTypes.nextOf (.ref i2) >>= _) _ _ _
    refine wpAny_bind (RZ.nextOf_tuple_item (s := { s with heap := g2 }) ((a2.extBut e1.extBut D.i2z).extBut e2.extBut D.i12.symm) ((t2.extBut e1.extBut D.l2z).extBut e2.extBut D.l2i1) hy fun g3 b2 e3 => wpAny_pure (wpAny_pure (wpAny_pure ?_)))
    show wpAny _ _ (newTuple [x, y] >>= _) _ _ _
    refine wpAny_bind (wpAny_newTuple ?_)
    have sz : g3.objs.size = s.heap.objs.size := by rw [e3.1, e2.1, e1.1]
    have z3 : IsZipHeld g3 z TI TO T true := e3.extBut _ _ D.i2z.symm (e2.extBut _ _ D.i1z.symm z1)
    have kp : ∀ c o, c ≠ z → c ≠ i1 → c ≠ i2 → s.heap.get? c = some o → g3.get? c = some o := fun c o c1 c2 c3 e => e3.extBut _ _ c3 (e2.extBut _ _ c2 (e1.extBut _ _ c1 e))
    have up : ∀ c o, g3.get? c = some o → (g3.push { cls := .type "tuple", data := .seq #[x, y] }).get? c = some o := fun c o e => Heap.get?_push_of_some _ e
    refine wpAny_pure ⟨_, rfl, wpAny_pure ?_⟩
    show Q (some (.ref g3.objs.size)) _
    have pr : IsPair (g3.push { cls := .type "tuple", data := .seq #[x, y] }) g3.objs.size x y := Heap.get?_push_size _ rfl
    rw [sz] at pr ⊢
    exact hQ _ (up _ _ z3) ((b1.extBut e3.extBut D.i12).at fun o e => up _ o e) (b2.at fun o e => up _ o e) pr fun c o c1 c2 c3 e => up _ _ (kp c o c1 c2 c3 e)
  unfold pyNext
  exact wpAny_bind (wpAny_attempt (wpAny_callSpecial?_slot (name := Str.ofString "__next__") ty F.slot_zip_next (wpAny_call_entry F.slot_zip_next ty F.entry_zip_next (body _) (F.args_zip_next_1 _))))

open PySem.W in
theorem zh_end {f : Bool} {oT : Obj} {Q : Option Value → Shared → Prop} (hh : A.handled = none) (D : ZipApart z TI TO i1 i2 l1 l2) (hz : IsZipHeld s.heap z TI TO T f) (hT : s.heap.get? T = some oT) (hTI : IsPair s.heap TI (.ref i1) (.ref i2))
    (a1 : s.heap.IsTupleIter i1 l1 k) (a2 : s.heap.IsTupleIter i2 l2 k) (t1 : s.heap.IsTuple l1 xs) (t2 : s.heap.IsTuple l2 ys) (hend : xs[k]? = none ∨ ys[k]? = none)
    (hQ : ∀ h', (∀ c o, c ≠ z → c ≠ i1 → c ≠ i2 → s.heap.get? c = some o → h'.get? c = some o) → Q none { s with heap := h' }) : wpAny (model prog w) A (pyNext (.ref z)) Q E s := by
  have ty : s.TypeIs (.ref z) "zip" := ⟨_, hz, rfl⟩
  have stop : ∀ (h' : Heap) (e : Addr), (∀ c o, c ≠ z → c ≠ i1 → c ≠ i2 → s.heap.get? c = some o → h'.get? c = some o) → (∃ o, h'.get? e = some o ∧ o.cls = .type "StopIteration") →
      wpAny (model prog w) A (do let b ← isInstance (.ref e) (.type "StopIteration"); if b then pure none else throw (.ref e)) Q E { s with heap := h' } := fun h' e kp ⟨o, ho, hc⟩ =>
    wpAny_bind (wpAny_isInstance (T := "StopIteration") (b := true) ⟨o, ho, hc⟩ isSubtype_stop (wpAny_pure (hQ _ kp)))
  unfold pyNext
  refine wpAny_bind (wpAny_attempt (wpAny_callSpecial?_slot (name := Str.ofString "__next__") ty F.slot_zip_next (wpAny_call_entry F.slot_zip_next ty F.entry_zip_next ?_ (F.args_zip_next_1 _))))
  show wpAny _ _ (field (.ref z) 2 >>= _) _ _ _
  refine wpAny_bind (wpAny_field hz rfl (x := .bool false) rfl ?_)
  show wpAny _ _ (field (.ref z) 3 >>= _) _ _ _
  refine wpAny_bind (wpAny_field hz rfl (x := .ref TI) rfl (wpAny_bind (wpAny_seqItems hTI rfl ?_)))
  show wpAny _ _ (Builtin.SmallTypes.ownedTupleIsFree (.ref z) >>= _) _ _ _
  refine wpAny_bind (wpAny_tupleHeld_zip hz hT fun g1 z1 e1 => ?_)
  simp only [Bool.false_eq_true, if_false]
  refine wpAny_bind ?_
  rw [← Array.forIn_toList]
  simp only [List.forIn_cons, List.forIn_nil]
  refine wpAny_bind (wpAny_bind (wpAny_holding ?_))
  show wpAny _ _ (Builtin.SmallTypes.nextOf (.ref i1) >>= _) _ _ _
  cases hx : xs[k]? with
  | none =>
    refine wpAny_bind (RZ.nextOf_tuple_end (s := { s with heap := g1 }) hh (a1.extBut e1.extBut D.i1z) (t1.extBut e1.extBut D.l1z) hx fun g2 e e2 he => ?_)
    exact stop g2 e (fun c o c1 c2 _ q => e2 _ _ c2 (e1.extBut _ _ c1 q)) he
  | some x =>
    have hy : ys[k]? = none := hend.resolve_left fun q => by rw [hx] at q; cases q
    refine wpAny_bind (RZ.nextOf_tuple_item (s := { s with heap := g1 }) (a1.extBut e1.extBut D.i1z) (t1.extBut e1.extBut D.l1z) hx fun g2 b1 e2 => wpAny_pure (wpAny_pure ?_))
    refine wpAny_bind (wpAny_bind (wpAny_holding ?_))
    show wpAny _ _ (Builtin.SmallTypes.nextOf (.ref i2) >>= _) _ _ _
    refine wpAny_bind (RZ.nextOf_tuple_end (s := { s with heap := g2 }) hh ((a2.extBut e1.extBut D.i2z).extBut e2.extBut D.i12.symm) ((t2.extBut e1.extBut D.l2z).extBut e2.extBut D.l2i1) hy fun g3 e e3 he => ?_)
    exact stop g3 e (fun c o c1 c2 c3 q => e3 _ _ c3 (e2.extBut _ _ c2 (e1.extBut _ _ c1 q))) he
/-- the pairs so far -/
def Prs (h : Heap) (xs ys : Array Value) (acc : List Value) : Prop := ∀ (j : Nat) (v : Value), acc[j]? = some v → ∃ t x y, v = Value.ref t ∧ IsPair h t x y ∧ xs[j]? = some x ∧ ys[j]? = some y
open PySem.W in
structure Zst (S z TI TO i1 i2 l1 l2 : Addr) (xs ys : Array Value) (i : Nat) (acc : List Value) (h : Heap) : Prop where
  len : acc.length = i
  ex : ∃ o, h.get? S = some o
  ti : IsPair h TI (.ref i1) (.ref i2)
  to : ∃ a b, IsPair h TO a b
  a1 : h.IsTupleIter i1 l1 i
  a2 : h.IsTupleIter i2 l2 i
  t1 : h.IsTuple l1 xs
  t2 : h.IsTuple l2 ys
  prs : Prs h xs ys acc
  st : (i = 0 ∧ IsZip h z TI TO .none) ∨ ∃ T f oT, 0 < i ∧ IsZipHeld h z TI TO T f ∧ h.get? T = some oT ∧ T ≠ z ∧ T ≠ i1 ∧ T ≠ i2 ∧ T ≠ S
  out : ∀ (j : Nat) (t : Addr), acc[j]? = some (Value.ref t) → t ≠ z ∧ t ≠ TO ∧ t ≠ i1 ∧ t ≠ i2 ∧ t ≠ S ∧ z < t
structure Far (S z TI TO i1 i2 l1 l2 : Addr) : Prop where
  z : z ≠ S
  ti : TI ≠ S
  to : TO ≠ S
  i1 : i1 ≠ S
  i2 : i2 ≠ S
  l1 : l1 ≠ S
  l2 : l2 ≠ S
theorem Prs.snoc {h : Heap} {acc : List Value} {t : Addr} {x y : Value} (p : Prs h xs ys acc) (hp : IsPair h t x y) (hx : xs[acc.length]? = some x) (hy : ys[acc.length]? = some y) : Prs h xs ys (acc ++ [Value.ref t]) := fun j v e => by
  by_cases hj : j < acc.length
  · rw [List.getElem?_append_left hj] at e
    exact p j v e
  · rw [List.getElem?_append_right (by omega)] at e
    have ej : j - acc.length = 0 := by
      cases q : j - acc.length with
      | zero => rfl
      | succ m => rw [q] at e; cases e
    rw [ej] at e
    cases e
    have ej : j = acc.length := by omega
    subst ej
    exact ⟨t, x, y, rfl, hp, hx, hy⟩
theorem Prs.keep {h h' : Heap} {acc : List Value} (p : Prs h xs ys acc) (k : ∀ (j : Nat) (t : Addr) o, acc[j]? = some (Value.ref t) → h.get? t = some o → h'.get? t = some o) : Prs h' xs ys acc := fun j v e => by
  obtain ⟨t, x, y, ev, hp, hx, hy⟩ := p j v e
  subst ev
  exact ⟨t, x, y, rfl, k j t _ e hp, hx, hy⟩
theorem out_snoc {acc : List Value} {a : Addr} {C : Addr → Prop} (p : ∀ (j : Nat) (t : Addr), acc[j]? = some (Value.ref t) → C t) (h : C a) : ∀ (j : Nat) (t : Addr), (acc ++ [Value.ref a])[j]? = some (Value.ref t) → C t := fun j t e => by
  have := List.mem_of_getElem? e
  rcases List.mem_append.mp this with m | m
  · obtain ⟨i, hi⟩ := List.getElem?_of_mem m
    exact p i t hi
  · cases List.mem_singleton.mp m; exact h
open PySem.W in
theorem src_zipT {S : Addr} (hh : A.handled = none) (D : ZipApart z TI TO i1 i2 l1 l2) (fa : Far S z TI TO i1 i2 l1 l2) : Src prog w A S z [z, TO, i1, i2] (min xs.size ys.size) (Zst S z TI TO i1 i2 l1 l2 xs ys) (fun acc h => Prs h xs ys acc ∧ ∀ (j : Nat) (t : Addr), acc[j]? = some (Value.ref t) → z < t) where
  notS := by simp [fa.z.symm, fa.to.symm, fa.i1.symm, fa.i2.symm]
  neS := fa.z.symm
  frame := fun i acc h h' Zs k ex => by
    refine ⟨Zs.len, ex, k _ _ fa.ti Zs.ti, Zs.to.imp fun a q => q.imp fun b q => k _ _ fa.to q, Zs.a1.at fun o => k _ o fa.i1, Zs.a2.at fun o => k _ o fa.i2, Zs.t1.at fun o => k _ o fa.l1, Zs.t2.at fun o => k _ o fa.l2,
      Zs.prs.keep fun j t o e => k t o (Zs.out j t e).2.2.2.2.1, ?_, Zs.out⟩
    rcases Zs.st with ⟨e, q⟩ | ⟨T, f, oT, ip, q, g, n1, n2, n3, n4⟩
    · exact .inl ⟨e, k _ _ fa.z q⟩
    · exact .inr ⟨T, f, oT, ip, k _ _ fa.z q, k _ _ n4 g, n1, n2, n3, n4⟩
  item := fun i acc s Q E hi Zs hQ => by
    have hx : xs[i]? = some xs[i] := Array.getElem?_eq_getElem (by omega)
    have hy : ys[i]? = some ys[i] := Array.getElem?_eq_getElem (by omega)
    obtain ⟨oS, hS⟩ := Zs.ex
    have lS : S ≠ s.heap.objs.size := Nat.ne_of_lt (Heap.lt_size hS)
    have l1' : i1 ≠ s.heap.objs.size := by obtain ⟨_, e, _⟩ := Zs.a1; exact Nat.ne_of_lt (Heap.lt_size e)
    have l2' : i2 ≠ s.heap.objs.size := by obtain ⟨_, e, _⟩ := Zs.a2; exact Nat.ne_of_lt (Heap.lt_size e)
    have len := Zs.len
    rcases Zs.st with ⟨e0, q⟩ | ⟨T, f, oT, ip, q, g, n1, n2, n3, n4⟩
    · obtain ⟨a, b, hTO⟩ := Zs.to
      have lz : z ≠ s.heap.objs.size := Nat.ne_of_lt (Heap.lt_size q)
      have lTO : TO ≠ s.heap.objs.size := Nat.ne_of_lt (Heap.lt_size hTO)
      refine RZ.pyNext_zipT_item D q Zs.ti hTO Zs.a1 Zs.a2 Zs.t1 Zs.t2 hx hy fun h' z' TO' b1 b2 pr _ kp => ?_
      have eacc : acc = [] := List.length_eq_zero_iff.mp (len.trans e0)
      subst eacc
      refine hQ (.ref s.heap.objs.size) h' s.toks ⟨by rw [List.length_append, len]; rfl, ⟨_, kp _ _ fa.z.symm fa.to.symm fa.i1.symm fa.i2.symm hS⟩, kp _ _ D.TIz D.TITO D.TIi1 D.TIi2 Zs.ti, ⟨_, _, TO'⟩, b1, b2, Zs.t1.at fun o => kp _ o D.l1z D.l1TO D.l1i1 D.l1i2, Zs.t2.at fun o => kp _ o D.l2z D.l2TO D.l2i1 D.l2i2, ?_, .inr ⟨_, false, _, Nat.succ_pos _, z', pr, lz.symm, l1'.symm, l2'.symm, lS.symm⟩, ?_⟩ ?_
      · exact Prs.snoc (acc := []) (fun j v e => nomatch e) pr (by rw [len]; exact hx) (by rw [len]; exact hy)
      · exact out_snoc (acc := []) (fun j t e => nomatch e) ⟨lz.symm, lTO.symm, l1'.symm, l2'.symm, lS.symm, Heap.lt_size q⟩
      · intro b o hb e
        simp only [List.mem_cons, List.not_mem_nil, or_false, not_or] at hb
        exact kp b o hb.1 hb.2.1 hb.2.2.1 hb.2.2.2 e
    · obtain ⟨a, b, hTO⟩ := Zs.to
      have lz : z ≠ s.heap.objs.size := Nat.ne_of_lt (Heap.lt_size q)
      have lTO : TO ≠ s.heap.objs.size := Nat.ne_of_lt (Heap.lt_size hTO)
      refine zh_item D q g Zs.ti Zs.a1 Zs.a2 Zs.t1 Zs.t2 hx hy fun h' z' b1 b2 pr kp => ?_
      refine hQ (.ref s.heap.objs.size) h' s.toks ⟨by rw [List.length_append, len]; rfl, ⟨_, kp _ _ fa.z.symm fa.i1.symm fa.i2.symm hS⟩, kp _ _ D.TIz D.TIi1 D.TIi2 Zs.ti, ⟨_, _, kp _ _ D.TOz D.TOi1 D.TOi2 hTO⟩, b1, b2, Zs.t1.at fun o => kp _ o D.l1z D.l1i1 D.l1i2, Zs.t2.at fun o => kp _ o D.l2z D.l2i1 D.l2i2, ?_, .inr ⟨T, true, oT, Nat.succ_pos _, z', kp _ _ n1 n2 n3 g, n1, n2, n3, n4⟩, ?_⟩ ?_
      · exact Prs.snoc (Zs.prs.keep fun j t o e => kp t o (Zs.out j t e).1 (Zs.out j t e).2.2.1 (Zs.out j t e).2.2.2.1) pr (by rw [len]; exact hx) (by rw [len]; exact hy)
      · refine out_snoc Zs.out ⟨lz.symm, lTO.symm, l1'.symm, l2'.symm, lS.symm, Heap.lt_size q⟩
      · intro b o hb e
        simp only [List.mem_cons, List.not_mem_nil, or_false, not_or] at hb
        exact kp b o hb.1 hb.2.2.1 hb.2.2.2 e
  done := fun acc s Q E Zs hQ => by
    have hend : xs[min xs.size ys.size]? = none ∨ ys[min xs.size ys.size]? = none := by
      rw [Array.getElem?_eq_none_iff, Array.getElem?_eq_none_iff]
      omega
    rcases Zs.st with ⟨e0, q⟩ | ⟨T, f, oT, ip, q, g, n1, n2, n3, n4⟩
    · obtain ⟨a, b, hTO⟩ := Zs.to
      refine RZ.pyNext_zipT_end hh D q Zs.ti hTO Zs.a1 Zs.a2 Zs.t1 Zs.t2 hend fun h' kp => hQ h' s.toks ⟨Zs.prs.keep fun j t o e => kp t o (Zs.out j t e).1 (Zs.out j t e).2.1 (Zs.out j t e).2.2.1 (Zs.out j t e).2.2.2.1, fun j t e => (Zs.out j t e).2.2.2.2.2⟩ fun b o hb e => ?_
      simp only [List.mem_cons, List.not_mem_nil, or_false, not_or] at hb
      exact kp b o hb.1 hb.2.1 hb.2.2.1 hb.2.2.2 e
    · refine zh_end hh D q g Zs.ti Zs.a1 Zs.a2 Zs.t1 Zs.t2 hend fun h' kp => hQ h' s.toks ⟨Zs.prs.keep fun j t o e => kp t o (Zs.out j t e).1 (Zs.out j t e).2.2.1 (Zs.out j t e).2.2.2.1, fun j t e => (Zs.out j t e).2.2.2.2.2⟩ fun b o hb e => ?_
      simp only [List.mem_cons, List.not_mem_nil, or_false, not_or] at hb
      exact kp b o hb.1 hb.2.2.1 hb.2.2.2 e
  self := fun acc s Q E Zs h => by
    rcases Zs.st with ⟨_, q⟩ | ⟨T, f, oT, ip, _⟩
    · exact wpAny_pyIter_zip q h
    · exact absurd ip (Nat.lt_irrefl 0)
end
end
end QL

/-! QY: many new objects at once; tuple(zip(t, u)), list(zip(t, u)). -/
namespace QL
open PySem PySem.Spec PyProof.Rows L2

/-- what was, and N from n on -/
def Hn (H : Hp) (n : Nat) (N : Hp) : Hp := fun b => if n ≤ b then N b else H b
theorem Hn_old {H N : Hp} {n : Nat} {b : Addr} (h : b < n) : Hn H n N b = H b := if_neg (Nat.not_le.mpr h)
theorem Hn_new {H N : Hp} {n : Nat} {b : Addr} (h : n ≤ b) : Hn H n N b = N b := if_pos h
theorem Inv.many {X : Cx} {pins : List (Addr × Obj)} {σ : L2.St} {H N : Hp} {s : Shared} {h' : Heap} {t' : Nat} (I : Inv X pins σ H s) (k : ∀ b u, s.heap.get? b = some u → h'.get? b = some u)
    (new : ∀ b o, s.heap.objs.size ≤ b → N b = some o → (∀ H' : Hp, ObjOk X.prog X.w H' h' b o)) : Inv X pins σ (Hn H s.heap.objs.size N) { s with heap := h', toks := t' } := by
  have old : ∀ {b : Addr} {o : HO}, H b = some o → Hn H s.heap.objs.size N b = some o := fun {b o} e => by rw [Hn_old (I.hok.lt e)]; exact e
  refine I.un (t' := t') ⟨fun b u q _ _ _ => k b u q, fun b u q _ _ _ => ⟨u.slots, k b u q⟩, fun b u q n _ => by rw [Hn_old (Heap.lt_size q)]; exact n, fun b u q _ => ⟨u, k b u q⟩, fun b xs q => old q, fun b u xs q => old q, fun b ps q => ⟨#[], by rw [old q]; simp⟩⟩ ?_
  intro a o e
  by_cases ha : s.heap.objs.size ≤ a
  · rw [Hn_new ha] at e
    exact new a o ha e _
  · rw [Hn_old (Nat.not_le.mp ha)] at e
    exact (I.hok a o e).stay (fun b u _ q => k b u q) (fun b q => old q) fun b xs q => old q
theorem NewV.many {F H NF N : Hp} {n : Nat} {k : T → Prop} {v : V} {t : T} {O' : List Addr} (sF : Same F H) (fresh : ∀ b, n ≤ b → H b = none) (sub : ∀ b o, n ≤ b → NF b = some o → N b = some o) (nd : O'.Nodup) (no : ∀ a ∈ O', n ≤ a ∧ NF a = none)
    (ow : Ow (Hn F n NF) (Hn H n N) O' v t) (h : k t) : NewV F H k v (Hn H n N) := by
  have lt : ∀ {b : Addr} {o : HO}, H b = some o → b < n := fun {b o} e => by
    rcases Nat.lt_or_ge b n with z | z
    · exact z
    · rw [fresh b z] at e; cases e
  refine ⟨Hn F n NF, O', t, fun b o e => ?_, fun b o e => by rw [Hn_old (lt e)]; exact e, fun b o e => ?_, fun b e => ?_, nd, fun a ha => ⟨fresh a (no a ha).1, by rw [Hn_new (no a ha).1]; exact (no a ha).2⟩, ow, h⟩
  · rw [Hn_old (lt (sF b o e))]; exact e
  · by_cases z : n ≤ b
    · rw [Hn_new z] at e ⊢; exact sub b o z e
    · rw [Hn_old (Nat.not_le.mp z)] at e ⊢; exact sF b o e
  · by_cases z : n ≤ b
    · exact .inr (fresh b z)
    · rw [Hn_old (Nat.not_le.mp z)] at e; exact .inl e

/-! ### the pairs that a walk over a zip has given -/
open Classical in
/-- pairs of values at the addresses in acc -/
noncomputable def prN (acc : List Value) (vs ws : List V) : Hp := fun b => if h : ∃ j : Nat, acc[j]? = some (Value.ref b) then (match vs[h.choose]?, ws[h.choose]? with | some v, some w => some (.tup [v, w]) | _, _ => none) else none
theorem prN_at {h : Heap} {n : Nat} {xs ys acc : List Value} {vs ws : List V} {ds es : List D} {F : Hp} (rv : Vals vs xs) (rw_ : Vals ws ys) (r1 : RpA F vs ds) (r2 : RpA F ws es) (p : Prs h xs.toArray ys.toArray acc) {b : Addr} {o : HO} (e : prN acc vs ws b = some o) :
    ∃ v w x y, o = .tup [v, w] ∧ IsPair h b x y ∧ L2.RelV v x ∧ L2.RelV w y := by
  unfold prN at e
  split at e
  · rename_i hj
    have hc := hj.choose_spec
    obtain ⟨t, x, y, et, hp, hx, hy⟩ := p _ _ hc
    cases et
    split at e
    · rename_i v w e1 e2
      cases e
      obtain ⟨u1, g1, q1⟩ := rv.get e1
      obtain ⟨u2, g2, q2⟩ := rw_.get e2
      have hx' : xs[hj.choose]? = some x := by simpa using hx
      have hy' : ys[hj.choose]? = some y := by simpa using hy
      rw [g1] at hx'
      rw [g2] at hy'
      cases hx'
      cases hy'
      exact ⟨v, w, _, _, rfl, hp, q1, q2⟩
    · cases e
  · cases e
theorem prN_of {h : Heap} {xs ys acc : List Value} {vs ws : List V} {ds es : List D} {F : Hp} (rv : Vals vs xs) (rw_ : Vals ws ys) (r1 : RpA F vs ds) (r2 : RpA F ws es) (inj : ∀ (v1 v2 : V) (u : Value), L2.RelV v1 u → L2.RelV v2 u → v1 = v2) (p : Prs h xs.toArray ys.toArray acc) {j : Nat} {u : Value} (e : acc[j]? = some u) :
    ∃ b v w d1 d2, u = Value.ref b ∧ prN acc vs ws b = some (.tup [v, w]) ∧ ds[j]? = some d1 ∧ es[j]? = some d2 ∧ Rp F v d1 ∧ Rp F w d2 := by
  obtain ⟨t, x, y, rfl, hp, hx, hy⟩ := p _ _ e
  have hx' : xs[j]? = some x := by simpa using hx
  have hy' : ys[j]? = some y := by simpa using hy
  have gv : ∃ v, vs[j]? = some v ∧ L2.RelV v x := by
    cases q : vs[j]? with
    | none => rw [List.getElem?_eq_none_iff, rv.length, ← List.getElem?_eq_none_iff] at q; rw [q] at hx'; cases hx'
    | some v => obtain ⟨u, g, r⟩ := rv.get q; rw [g] at hx'; cases hx'; exact ⟨v, rfl, r⟩
  have gw : ∃ v, ws[j]? = some v ∧ L2.RelV v y := by
    cases q : ws[j]? with
    | none => rw [List.getElem?_eq_none_iff, rw_.length, ← List.getElem?_eq_none_iff] at q; rw [q] at hy'; cases hy'
    | some v => obtain ⟨u, g, r⟩ := rw_.get q; rw [g] at hy'; cases hy'; exact ⟨v, rfl, r⟩
  obtain ⟨v, g1, q1⟩ := gv
  obtain ⟨w, g2, q2⟩ := gw
  obtain ⟨d1, k1, s1⟩ := r1.get g1
  obtain ⟨d2, k2, s2⟩ := r2.get g2
  refine ⟨t, v, w, d1, d2, rfl, ?_, k1, k2, s1, s2⟩
  unfold prN
  have hj : ∃ j : Nat, acc[j]? = some (Value.ref t) := ⟨j, e⟩
  rw [dif_pos hj]
  -- another place of the same address bears the same values
  obtain ⟨t', x', y', et, hp', hx2, hy2⟩ := p _ _ hj.choose_spec
  cases et
  have ee := hp.symm.trans hp'
  simp only [Option.some.injEq, Obj.mk.injEq, Data.seq.injEq, true_and, and_true] at ee
  have exy : x = x' ∧ y = y' := by simpa using ee
  obtain ⟨rfl, rfl⟩ := exy
  have hx3 : xs[hj.choose]? = some x := by simpa using hx2
  have hy3 : ys[hj.choose]? = some y := by simpa using hy2
  have gv' : vs[hj.choose]? = some v := by
    cases q : vs[hj.choose]? with
    | none => rw [List.getElem?_eq_none_iff, rv.length, ← List.getElem?_eq_none_iff] at q; rw [q] at hx3; cases hx3
    | some v' => obtain ⟨u, g, r⟩ := rv.get q; rw [g] at hx3; cases hx3; rw [inj v' v _ r q1]
  have gw' : ws[hj.choose]? = some w := by
    cases q : ws[hj.choose]? with
    | none => rw [List.getElem?_eq_none_iff, rw_.length, ← List.getElem?_eq_none_iff] at q; rw [q] at hy3; cases hy3
    | some v' => obtain ⟨u, g, r⟩ := rw_.get q; rw [g] at hy3; cases hy3; rw [inj v' w _ r q2]
  rw [gv', gw']
def vOf : Value → Option V
  | .none => some .non
  | .bool b => some (.bl b)
  | .int i _ => some (.int i)
  | .str x _ => some (.str x)
  | .bytes x _ => some (.byt x)
  | .float x _ => some (.flt x)
  | .ref a => some (.ref a)
  | .type n => some (.ty n)
  | _ => none
theorem vOf_rel : ∀ (v : V) (u : Value), L2.RelV v u → vOf u = some v
  | .non, _, rfl => rfl
  | .bl _, _, rfl => rfl
  | .int _, _, ⟨_, rfl⟩ => rfl
  | .str _, _, ⟨_, rfl⟩ => rfl
  | .byt _, _, ⟨_, rfl⟩ => rfl
  | .flt _, _, ⟨_, rfl⟩ => rfl
  | .ref _, _, rfl => rfl
  | .ty _, _, rfl => rfl
theorem relV_inj (v1 v2 : V) (u : Value) (h1 : L2.RelV v1 u) (h2 : L2.RelV v2 u) : v1 = v2 := Option.some.inj ((vOf_rel _ _ h1).symm.trans (vOf_rel _ _ h2))
theorem RpA.of_get {F : Hp} : ∀ {vs : List V} {ds : List D}, vs.length = ds.length → (∀ (j : Nat) v, vs[j]? = some v → ∃ d, ds[j]? = some d ∧ Rp F v d) → RpA F vs ds
  | [], [], _, _ => .nil
  | [], _ :: _, h, _ => nomatch h
  | _ :: _, [], h, _ => nomatch h
  | v :: vs, d :: ds, h, k => by
    obtain ⟨d', e, r⟩ := k 0 v rfl
    cases e
    exact .cons r (RpA.of_get (Nat.succ.inj h) fun j v e => k (j + 1) v e)
/-- what is known behind a walk over zip(t, u) into a list or a tuple; n: where new objects begin -/
structure ZipGot (F : Hp) (n : Nat) (ds es : List D) (h' : Heap) (acc : List Value) (vs ws : List V) (us ts : List Value) : Prop where
  prs : Prs h' us.toArray ts.toArray acc
  len : acc.length = min us.length ts.length
  r1 : RpA F vs ds
  r2 : RpA F ws es
  v1 : Vals vs us
  v2 : Vals ws ts
  ge : ∀ (j : Nat) (t : Addr), acc[j]? = some (Value.ref t) → n ≤ t
  old : ∀ b o, F b = some o → b < n
def refV : Value → V
  | .ref t => .ref t
  | _ => .non
theorem ZipGot.tups {F : Hp} {n : Nat} {ds es : List D} {h' : Heap} {acc : List Value} {vs ws : List V} {us ts : List Value} (g : ZipGot F n ds es h' acc vs ws us ts) :
    Vals (acc.map refV) acc ∧ RpA (Hn F n (prN acc vs ws)) (acc.map refV) (zipD ds es) := by
  have sF : Same F (Hn F n (prN acc vs ws)) := fun b o e => by rw [Hn_old (g.old b o e)]; exact e
  have each := fun {j : Nat} {u : Value} (e : acc[j]? = some u) => prN_of g.v1 g.v2 g.r1 g.r2 relV_inj g.prs e
  refine ⟨?_, RpA.of_get ?_ fun j v e => ?_⟩
  · have : ∀ (l : List Value), (∀ u ∈ l, ∃ b, u = Value.ref b) → Vals (l.map refV) l := fun l => by
      induction l with
      | nil => intro _; exact .nil
      | cons u l ih =>
        intro h
        obtain ⟨b, rfl⟩ := h u List.mem_cons_self
        exact .cons rfl (ih fun u hu => h u (List.mem_cons_of_mem _ hu))
    refine this acc fun u hu => ?_
    obtain ⟨j, hj⟩ := List.getElem?_of_mem hu
    obtain ⟨b, v, w, d1, d2, e, _⟩ := each hj
    exact ⟨b, e⟩
  · unfold zipD
    rw [List.length_map, List.length_map, List.length_zip, g.len, ← g.v1.length, ← g.v2.length, g.r1.len, g.r2.len]
  · rw [List.getElem?_map, Option.map_eq_some_iff] at e
    obtain ⟨u, hu, ev⟩ := e
    obtain ⟨b, v1, w1, d1, d2, e1, e2, e3, e4, q1, q2⟩ := each hu
    subst e1
    subst ev
    refine ⟨.tuple [d1, d2], ?_, .tup ?_ (.cons (q1.mono sF) (.cons (q2.mono sF) .nil))⟩
    · unfold zipD
      rw [List.getElem?_map, show (ds.zip es)[j]? = some (d1, d2) from List.getElem?_zip_eq_some.mpr ⟨e3, e4⟩]
      rfl
    · rw [Hn_new (g.ge j b hu)]
      exact e2
theorem prN_ok {P : Program} {w : World} {F : Hp} {n : Nat} {ds es : List D} {h' : Heap} {acc : List Value} {vs ws : List V} {us ts : List Value} (g : ZipGot F n ds es h' acc vs ws us ts) {b : Addr} {o : HO} (e : prN acc vs ws b = some o) : ∀ H' : Hp, ObjOk P w H' h' b o := fun H' => by
  obtain ⟨v, w', x, y, rfl, hp, q1, q2⟩ := prN_at (n := n) g.v1 g.v2 g.r1 g.r2 g.prs e
  exact ⟨by show 2 ≤ sizeLine; decide, [x, y], .cons q1 (.cons q2 .nil), _, hp, rfl, _, rfl⟩
theorem far_of (I l1 l2 : Nat) (h1 : l1 < I) (h2 : l2 < I) : Far (I + 5) (I + 4) (I + 2) (I + 3) I (I + 1) l1 l2 := by
  constructor <;> (refine PySem.W.neN ?_; omega)
section
variable {X : Cx} {Z : Zb} {a b : Expr} {env : Env} {pos pos2 : Pos} {P : R → Env → Prop}
/-- the walk over zip(t, u), from where its arguments are made -/
theorem zip_walk (hc : X.calm = true) {pins : List (Addr × Obj)} {σ : L2.St} {H F : Hp} {s : Shared} {l1 l2 : Addr} {vs ws : List V} {ds es : List D} {O : List Addr} {k : T → Prop} (I : Inv X pins σ H s) (sF : Same F H) (h1 : F l1 = some (.tup vs)) (h2 : F l2 = some (.tup ws)) (r1 : RpA F vs ds) (r2 : RpA F ws es) (T0 : Value) (hT0 : (T0 = .type "tuple" ∧ k (.va (.tuple (zipD ds es)))) ∨ (T0 = .type "list" ∧ ∀ p, k (.lst p (zipD ds es)))) :
    wpAny (model X.prog X.w) X.A (call (.type "zip") [.ref l1, .ref l2]) (fun u s' => wpAny (model X.prog X.w) X.A (call T0 [u]) (EP X pins σ (NewV F H k)) X.xe s') X.xe s := by
  obtain ⟨us, rv, p1, z1⟩ := I.tuple (SqT.of (sF _ _ h1))
  obtain ⟨ts, rw_, p2, z2⟩ := I.tuple (SqT.of (sF _ _ h2))
  obtain ⟨o1, ho1, _⟩ := id p1
  obtain ⟨o2, ho2, _⟩ := id p2
  have lt1 := Heap.lt_size ho1
  have lt2 := Heap.lt_size ho2
  refine RZ.call_zipT (show s.heap.IsTuple l1 us.toArray from p1) (show s.heap.IsTuple l2 ts.toArray from p2) fun g hz hTI hTO q1 q2 hsz hk => ?_
  have ap := PySem.W.ktu_apart s.heap.objs.size l1 l2 lt1 lt2
  have far : Far g.objs.size (s.heap.objs.size + 4) (s.heap.objs.size + 2) (s.heap.objs.size + 3) s.heap.objs.size (s.heap.objs.size + 1) l1 l2 := by
    rw [hsz]
    exact far_of _ _ _ lt1 lt2
  have hn : min us.toArray.size ts.toArray.size ≤ sizeLine := by
    rw [List.size_toArray, ← rv.length]; omega
  have st0 : ∀ h' : Heap, (∀ b o, g.get? b = some o → h'.get? b = some o) → (∃ o, h'.get? g.objs.size = some o) → Zst g.objs.size (s.heap.objs.size + 4) (s.heap.objs.size + 2) (s.heap.objs.size + 3) s.heap.objs.size (s.heap.objs.size + 1) l1 l2 us.toArray ts.toArray 0 [] h' := fun h' kp ex =>
    ⟨rfl, ex, kp _ _ hTI, ⟨_, _, kp _ _ hTO⟩, q1.at fun o e => kp _ o e, q2.at fun o e => kp _ o e, (show s.heap.IsTuple l1 us.toArray from p1).at fun o e => kp _ o (hk _ _ e), (show s.heap.IsTuple l2 ts.toArray from p2).at fun o e => kp _ o (hk _ _ e),
      fun j v e => (nomatch e), .inl ⟨rfl, kp _ _ hz⟩, fun j t e => (nomatch e)⟩
  have ty : ∀ i acc (s' : Shared), Zst g.objs.size (s.heap.objs.size + 4) (s.heap.objs.size + 2) (s.heap.objs.size + 3) s.heap.objs.size (s.heap.objs.size + 1) l1 l2 us.toArray ts.toArray i acc s'.heap → s'.TypeIs (.ref (s.heap.objs.size + 4)) "zip" := fun i acc s' Zs => by
    rcases Zs.st with ⟨_, q⟩ | ⟨T, f, oT, _, q, _⟩
    · exact ⟨_, q, rfl⟩
    · exact ⟨_, q, rfl⟩
  have kept : ∀ {h' : Heap}, (∀ b o, b ∉ [s.heap.objs.size + 4, s.heap.objs.size + 3, s.heap.objs.size, s.heap.objs.size + 1] → g.get? b = some o → h'.get? b = some o) → ∀ b o, s.heap.get? b = some o → h'.get? b = some o := fun {h'} kp b o e => by
    refine kp b o (fun hm => ?_) (hk b o e)
    have := Heap.lt_size e
    simp only [List.mem_cons, List.not_mem_nil, or_false] at hm
    rcases hm with z | z | z | z
    · exact absurd (z ▸ this) (Nat.not_lt.mpr (Nat.le_add_right _ _))
    · exact absurd (z ▸ this) (Nat.not_lt.mpr (Nat.le_add_right _ _))
    · exact absurd (z ▸ this) (Nat.lt_irrefl _)
    · exact absurd (z ▸ this) (Nat.not_lt.mpr (Nat.le_add_right _ _))
  have fresh : ∀ b, s.heap.objs.size ≤ b → H b = none := fun b hb => I.hok.fresh hb
  have old : ∀ b o, F b = some o → b < s.heap.objs.size := fun b o e => I.hok.lt (sF b o e)
  rcases hT0 with ⟨e, hk0⟩ | ⟨e, hk0⟩
  · subst e
    refine call_tuple_src (s := { s with heap := g }) mute_zip (src_zipT (I.ok.hd hc) ap far) hn ty st0 ⟨_, hz, rfl⟩ fun h' tk acc ⟨Pr, bg⟩ len kp => ?_
    have ge : ∀ (j : Nat) (t : Addr), acc[j]? = some (Value.ref t) → s.heap.objs.size ≤ t := fun j t e => Nat.le_of_lt (Nat.lt_of_le_of_lt (Nat.le_add_right _ 4) (bg j t e))
    have G : ZipGot F s.heap.objs.size ds es h' acc vs ws us ts := ⟨Pr, by rw [len]; simp, r1, r2, rv, rw_, ge, old⟩
    obtain ⟨vz, rz⟩ := G.tups
    have lz : (acc.map refV).length ≤ sizeLine := by rw [List.length_map, len]; exact hn
    have le' : s.heap.objs.size ≤ h'.objs.size := Nat.le_of_lt (Nat.lt_of_le_of_lt (Nat.le_add_right _ 2) (Heap.lt_size (kp _ _ (by simp) hTI)))
    -- the pairs, and the tuple
    have k1 := kept kp
    have I2 : Inv X pins σ (Hn H s.heap.objs.size (upd (prN acc vs ws) h'.objs.size (.tup (acc.map refV)))) { s with heap := h'.push { cls := .type "tuple", data := .seq acc.toArray }, toks := tk } :=
      Inv.many (t' := tk) I (fun b u e => Heap.get?_push_of_some _ (k1 b u e)) fun b o hb e => by
        by_cases z : b = h'.objs.size
        · subst z
          rw [upd_same] at e
          cases e
          exact fun H' => ⟨lz, acc, vz, IsTup.new _ _⟩
        · rw [upd_ne z] at e
          intro H'
          exact (prN_ok (P := X.prog) (w := X.w) G e H').stay (fun c u _ q => Heap.get?_push_of_some _ q) (fun _ q => q) fun _ _ q => q
    refine ⟨.ref h'.objs.size, _, I2, rfl, NewV.many (NF := upd (prN acc vs ws) h'.objs.size (.tup (acc.map refV))) (O' := []) sF fresh (fun b o _ e => e) List.nodup_nil (fun _ z => (nomatch z)) (.va (.tup (by rw [Hn_new le', upd_same]) ?_)) hk0⟩
    refine rz.mono fun c o e => ?_
    by_cases z : s.heap.objs.size ≤ c
    · rw [Hn_new z] at e ⊢
      obtain ⟨_, _, _, _, _, hp, _⟩ := prN_at (n := s.heap.objs.size) G.v1 G.v2 G.r1 G.r2 G.prs e
      rw [upd_ne (Nat.ne_of_lt (Heap.lt_size hp))]
      exact e
    · rw [Hn_old (Nat.not_le.mp z)] at e ⊢
      exact e
  · subst e
    refine call_list_src (s := { s with heap := g }) mute_zip (src_zipT (I.ok.hd hc) ap far) hn ty st0 fun h' tk acc c0 ⟨Pr, bg⟩ len hS kp => ?_
    have ge : ∀ (j : Nat) (t : Addr), acc[j]? = some (Value.ref t) → s.heap.objs.size ≤ t := fun j t e => Nat.le_of_lt (Nat.lt_of_le_of_lt (Nat.le_add_right _ 4) (bg j t e))
    have G : ZipGot F s.heap.objs.size ds es h' acc vs ws us ts := ⟨Pr, by rw [len]; simp, r1, r2, rv, rw_, ge, old⟩
    obtain ⟨vz, rz⟩ := G.tups
    have lz : (acc.map refV).length ≤ sizeLine := by rw [List.length_map, len]; exact hn
    have leS : s.heap.objs.size ≤ g.objs.size := by rw [hsz]; exact Nat.le_add_right _ _
    have noS : prN acc vs ws g.objs.size = none := by
      cases q : prN acc vs ws g.objs.size with
      | none => rfl
      | some o =>
        obtain ⟨_, _, _, _, _, hp, _⟩ := prN_at (n := s.heap.objs.size) G.v1 G.v2 G.r1 G.r2 G.prs q
        have := hp.symm.trans hS
        simp at this
    have I2 : Inv X pins σ (Hn H s.heap.objs.size (upd (prN acc vs ws) g.objs.size (.lst (acc.map refV)))) { s with heap := h', toks := tk } :=
      Inv.many (t' := tk) I (kept kp) fun b o hb e => by
        by_cases z : b = g.objs.size
        · subst z
          rw [upd_same] at e
          cases e
          exact fun H' => ⟨lz, acc, c0, vz, hS⟩
        · rw [upd_ne z] at e
          exact prN_ok (P := X.prog) (w := X.w) G e
    refine ⟨.ref g.objs.size, _, I2, rfl, NewV.many (NF := prN acc vs ws) (O' := [g.objs.size]) sF fresh (fun b o _ e => ?_) (List.nodup_cons.mpr ⟨fun z => (nomatch z), List.nodup_nil⟩) (fun c hc' => ?_) (.lst (by rw [Hn_new leS, upd_same]) rz) (hk0 _)⟩
    · rw [upd_ne fun z => by rw [z, noS] at e; cases e]
      exact e
    · rw [List.mem_singleton.mp hc']
      exact ⟨leS, noS⟩
/-- tuple(zip(t, u)) -/
theorem w_zipT {p p2 : Pos} (hc : X.calm = true) (hm : X.mg "tuple" = none) (hm2 : X.mg "zip" = none) (h : WAs Z X [a, b] env fun as e1 => absorb as e1 fun ds e2 => zipG ds fun xs => P (.t (.va (.tuple xs))) e2) (hg : Gl X "tuple" := by rfl) (hg2 : Gl X "zip" := by rfl)
    (hs : starEach [a, b] X.env = (false, eval a X.env) :: starEach [b] X.env := by rfl) (hpl : (backTo pos2 (starEach [b] X.env)).any (·.1) = false := by rfl)
    (hs2 : starEach [.Call (.Name "zip" p2) [a, b] [] pos2] X.env = (false, eval (.Call (.Name "zip" p2) [a, b] [] pos2) X.env) :: starEach [] X.env := by rfl) :
    WE Z X (.Call (.Name "tuple" p) [.Call (.Name "zip" p2) [a, b] [] pos2] [] pos) env P := fun pins s σ H F O I b0 o => by
  refine Call_ (ld_blt I hg hm boot_tuple (PyProof.Rows.callWith_type1 (args_cons (Call_ (ld_blt I hg2 hm2 PyProof.Rows.boot_zip (PyProof.Rows.callWith_type1 (thn ((pa_As (Z := Z)).run pos2 pins s σ H (PostAs Z σ H F O _) I ⟨env, F, O, _, b0, o, h, fun _ _ q => q⟩)
    fun us s1 ⟨vs, H1, I1, rv, F1, O1, as, e1, b1, o1, st, fr, q⟩ => ?_) hs hpl))) hs2) hs2 rfl))
  obtain ⟨F2, O2, ds, e2, b2, o2, r2, fr2, q⟩ := absorb_ok st b1 o1 q
  unfold zipG at q
  split at q
  · cases r2 with
    | cons r3 rn =>
      cases rn with
      | cons r4 rn =>
        cases rn
        cases r3 with
        | tup h3 r3 =>
          cases r4 with
          | tup h4 r4 =>
            cases rv with
            | cons u1 rv =>
              cases rv with
              | cons u2 rv =>
                cases rv
                cases u1
                cases u2
                refine thn (zip_walk (k := fun t => t = .va (.tuple (zipD _ _))) (O := O2) hc I1 b2.sub h3 h4 r3 r4 (.type "tuple") (.inl ⟨rfl, rfl⟩)) fun u s2 q2 => args_nil (thn q2 (EP.imp fun v H' n => ?_))
                exact (n.post b2 o2 (fun t e => by subst e; exact q)).from (fr.trans fr2)
  · exact q.elim
/-- list(zip(t, u)) -/
theorem w_zipL {p p2 : Pos} (hc : X.calm = true) (hm : X.mg "list" = none) (hm2 : X.mg "zip" = none) (h : WAs Z X [a, b] env fun as e1 => absorb as e1 fun ds e2 => zipG ds fun xs => ∀ l, P (.t (.lst l xs)) e2) (hg : Gl X "list" := by rfl) (hg2 : Gl X "zip" := by rfl)
    (hs : starEach [a, b] X.env = (false, eval a X.env) :: starEach [b] X.env := by rfl) (hpl : (backTo pos2 (starEach [b] X.env)).any (·.1) = false := by rfl)
    (hs2 : starEach [.Call (.Name "zip" p2) [a, b] [] pos2] X.env = (false, eval (.Call (.Name "zip" p2) [a, b] [] pos2) X.env) :: starEach [] X.env := by rfl) :
    WE Z X (.Call (.Name "list" p) [.Call (.Name "zip" p2) [a, b] [] pos2] [] pos) env P := fun pins s σ H F O I b0 o => by
  refine Call_ (ld_blt I hg hm boot_list (PyProof.Rows.callWith_type1 (args_cons (Call_ (ld_blt I hg2 hm2 PyProof.Rows.boot_zip (PyProof.Rows.callWith_type1 (thn ((pa_As (Z := Z)).run pos2 pins s σ H (PostAs Z σ H F O _) I ⟨env, F, O, _, b0, o, h, fun _ _ q => q⟩)
    fun us s1 ⟨vs, H1, I1, rv, F1, O1, as, e1, b1, o1, st, fr, q⟩ => ?_) hs hpl))) hs2) hs2 rfl))
  obtain ⟨F2, O2, ds, e2, b2, o2, r2, fr2, q⟩ := absorb_ok st b1 o1 q
  unfold zipG at q
  split at q
  · cases r2 with
    | cons r3 rn =>
      cases rn with
      | cons r4 rn =>
        cases rn
        cases r3 with
        | tup h3 r3 =>
          cases r4 with
          | tup h4 r4 =>
            cases rv with
            | cons u1 rv =>
              cases rv with
              | cons u2 rv =>
                cases rv
                cases u1
                cases u2
                refine thn (zip_walk (k := fun t => ∃ l, t = .lst l (zipD _ _)) (O := O2) hc I1 b2.sub h3 h4 r3 r4 (.type "list") (.inr ⟨rfl, fun l => ⟨l, rfl⟩⟩)) fun u s2 q2 => args_nil (thn q2 (EP.imp fun v H' n => ?_))
                exact (n.post b2 o2 (fun t ⟨l, e⟩ => by subst e; exact q l)).from (fr.trans fr2)
  · exact q.elim
end
end QL

/-! QX: defs that are called by name; small laws. -/
namespace QL
open PySem PySem.Spec PyProof.Rows L2

theorem takes_no {Z : Zb} {X : Cx} : Takes X (wxOf Z fun _ _ => False) := fun u s' ⟨a, B, sI, pins, σ, H, cls, d, e, I, nb, up, sky, na, os, ag, F, O, env, ex, b, o, xa, q⟩ => q.elim
/-- a def of the module that may be called -/
structure Df (P : Program) (w : World) (K : PySem.W.Frag) (mg : Str → Option Value) (base : Heap) (k : Nat) (x : Str) (ps : List Str) (sp : Spc) : Prop where
  ex : ∃ (f : Addr) (fd : FuncData), FnG P w K mg base k f fd ps sp ∧ mg x = some (.ref f) ∧ PySem.W.keepIn K (.ref f) = true ∧ Binds K fd ps []
/-- the same, by the names ks, of which the places ns are the parameters in their order -/
structure Dk (P : Program) (w : World) (K : PySem.W.Frag) (mg : Str → Option Value) (base : Heap) (k : Nat) (x : Str) (ps ks : List Str) (ns : List Nat) (sp : Spc) : Prop where
  ex : ∃ (f : Addr) (fd : FuncData), FnG P w K mg base k f fd ps sp ∧ mg x = some (.ref f) ∧ PySem.W.keepIn K (.ref f) = true ∧ KwOk K fd ps ks ns
theorem Df.mono {P : Program} {w : World} {K : PySem.W.Frag} {mg : Str → Option Value} {base : Heap} {j k : Nat} {x : Str} {ps : List Str} {sp : Spc} (G : Df P w K mg base j x ps sp) (h : j ≤ k) : Df P w K mg base k x ps sp :=
  let ⟨f, fd, g, r⟩ := G.ex; ⟨f, fd, g.mono h, r⟩
theorem Dk.mono {P : Program} {w : World} {K : PySem.W.Frag} {mg : Str → Option Value} {base : Heap} {j k : Nat} {x : Str} {ps ks : List Str} {ns : List Nat} {sp : Spc} (G : Dk P w K mg base j x ps ks ns sp) (h : j ≤ k) : Dk P w K mg base k x ps ks ns sp :=
  let ⟨f, fd, g, r⟩ := G.ex; ⟨f, fd, g.mono h, r⟩
theorem fun_kws {K : PySem.W.Frag} {x qual : Str} {st : Stmt} {f : Addr} {fd : FuncData} {ps ks : List Str} {ns : List Nat} (F : Fun K x qual st f fd)
    (h : ∀ (kV doc pm : Value) (an : Option Addr) (cdv ct : Value) (us : List Value), us.length = ks.length → bindArgs (PySem.W.fnOf x qual (defArgs st) (defBody st) (defScope st) .none kV doc pm an cdv ct) ⟨[], ks.zip us⟩ = pure (ps.zip (pick ns us))) : KwOk K fd ps ks ns := by
  obtain ⟨oc, od, kV, doc, pm, an, cdv, ct, osl, rfl, lk, hcd⟩ := F.ex
  exact fun s us _ hl => .of_eq (h kV doc pm an cdv ct us hl)
section
variable {Z : Zb} {X : Cx} {e : Expr} {es : List Expr} {env : Env} {pos p : Pos} {P : R → Env → Prop} {k : Nat} {x : Str} {ps ks : List Str} {ns : List Nat} {sp : Spc} {kws : List Keyword}
theorem w_fn (G : Df X.prog X.w X.K X.mg X.base k x ps sp) (hr : Room k X.A) (hgd : X.A.guards = some []) (h : WAs Z X (e :: es) env fun as e1 => callD sp as e1 (fun t e => P (.t t) e) fun _ _ => False)
    (hg : Gl X x := by rfl) (hdb : (x == ("__debug__" : Str)) = false := by decide) (he : starEach (e :: es) X.env = (false, eval e X.env) :: starEach es X.env := by rfl) (hpl : (backTo pos (starEach es X.env)).any (·.1) = false := by rfl) :
    WE Z X (.Call (.Name x p) (e :: es) [] pos) env P := by
  obtain ⟨f, fd, g, hm, hk, hb⟩ := G.ex
  refine w_call (dds := []) (vds := []) g hr hgd takes_no hm hk hb .nil (fun _ => .nil) ?_ hg hdb he hpl
  simpa only [vaAll, List.map_nil, List.append_nil] using h
theorem w_fnK (G : Dk X.prog X.w X.K X.mg X.base k x ps ks ns sp) (hr : Room k X.A) (hgd : X.A.guards = some []) (h : WKs Z X kws env fun as e1 => as.length = ks.length ∧ callD sp (pick ns as) e1 (fun t e => P (.t t) e) fun _ _ => False)
    (hks : (backToKw pos (keywordEach kws X.env)).filterMap (·.1) = ks := by rfl) (hall : (backToKw pos (keywordEach kws X.env)).all (·.1.isSome) = true := by rfl)
    (hg : Gl X x := by rfl) (hdb : (x == ("__debug__" : Str)) = false := by decide) (hpl : ((backTo pos (starEach [] X.env)).any (·.1) || (backToKw pos (keywordEach kws X.env)).any (·.1.isNone)) = false := by rfl) :
    WE Z X (.Call (.Name x p) [] kws pos) env P := by
  obtain ⟨f, fd, g, hm, hk, hb⟩ := G.ex
  exact w_callK g hr hgd takes_no hm hk hb h hks hall hg hdb hpl
end
/-! ### lists of ints -/
abbrev iDs (ns : List Int) : List D := ns.map PyData.int
theorem small2000 {n : Nat} (h : n ≤ 2000) : n < sizeLine := Nat.lt_of_le_of_lt h (by decide)
theorem atI_last' {α : Type} {xs : List α} {z : α} (h : xs.getLast? = some z) : atI xs (-1) = some z := by
  obtain ⟨ys, rfl⟩ := List.getLast?_eq_some_iff.mp h
  exact atI_last ys z
theorem atI_map {α β : Type} (f : α → β) {xs : List α} {i : Int} {x : α} (h : atI xs i = some x) : atI (xs.map f) i = some (f x) := by
  unfold atI at h ⊢
  rw [List.length_map]
  cases hn : ixN xs.length i with
  | none => rw [hn] at h; cases h
  | some k =>
    rw [hn] at h
    have h : xs[k]? = some x := h
    show (xs.map f)[k]? = some (f x)
    rw [List.getElem?_map, h]
    rfl
theorem cutD_map {α : Type} (f : α → D) (xs : List α) (lo hi : Option Int) : cutD (xs.map f) lo hi = ((xs.drop (HT.sIx xs.length 0 lo)).take (HT.sIx xs.length xs.length hi - HT.sIx xs.length 0 lo)).map f := by
  unfold cutD
  rw [List.length_map, List.map_take, List.map_drop]
theorem cut_dropLast {α : Type} (f : α → D) (xs : List α) : cutD (xs.map f) none (some (-1)) = xs.dropLast.map f := by
  rw [cutD_map]
  have h1 : HT.sIx xs.length 0 none = 0 := rfl
  have h2 : HT.sIx xs.length xs.length (some (-1)) = xs.length - 1 := by
    unfold HT.sIx
    simp only
    rw [if_pos (by decide)]
    omega
  rw [h1, h2, List.drop_zero, Nat.sub_zero, List.dropLast_eq_take]
theorem cut_nat {α : Type} (f : α → D) (xs : List α) (i j : Nat) (hi : i ≤ xs.length) (hj : j ≤ xs.length) : cutD (xs.map f) (some (i : Int)) (some (j : Int)) = ((xs.drop i).take (j - i)).map f := by
  rw [cutD_map, HT.sIx_nat, HT.sIx_nat, Nat.min_eq_left hi, Nat.min_eq_left hj]
theorem room64 {k : Nat} {A : Around} (hr : Room k A) : A.units + 64 < cLine := by have := hr.un; omega
theorem room110 {k : Nat} {A : Around} (hr : Room k A) : A.units + 110 < cLine := by have := hr.un; omega
theorem rangeD_len (lo : Int) (n : Nat) : (rangeD lo n).length = n := by unfold rangeD; rw [List.length_map, List.length_range]
theorem rangeD_at {lo : Int} {n j : Nat} {d : D} (h : (rangeD lo n)[j]? = some d) : d = .int (lo + j) ∧ j < n := by
  unfold rangeD at h
  rw [List.getElem?_map, Option.map_eq_some_iff] at h
  obtain ⟨k, hk, e⟩ := h
  have hj : j < n := by
    have := (List.getElem?_eq_some_iff.mp hk).1
    simpa using this
  rw [List.getElem?_range hj] at hk
  cases hk
  exact ⟨e.symm, hj⟩
end QL

/-! QW: data whose text is short; data that may be compared. -/
namespace QL
open PySem PySem.Spec PyProof.Rows L2
mutual
def nodes : D → Nat
  | .list xs => 1 + nodesA xs
  | .tuple xs => 1 + nodesA xs
  | _ => 1
def nodesA : List D → Nat
  | [] => 0
  | x :: xs => nodes x + nodesA xs
end
mutual
/-- no text, no dict; ints below 2 ** 200 -/
def smallD : D → Bool
  | .list xs => smallA xs
  | .tuple xs => smallA xs
  | .int i => decide (i.natAbs < 2 ^ 200)
  | .none => true
  | .bool _ => true
  | _ => false
def smallA : List D → Bool
  | [] => true
  | x :: xs => smallD x && smallA xs
end
theorem small_int {i : Int} (h : i.natAbs < 2 ^ 200) : (PyData.shown (.int i)).length ≤ 256 ∧ (PyData.int i).weight ≤ 200 ∧ i.natAbs.log2 < 1920 := by
  have l : i.natAbs.log2 < 200 := by
    by_cases z : i.natAbs = 0
    · rw [z]; decide
    · exact (Nat.log2_lt z).mpr h
  refine ⟨?_, ?_, by omega⟩
  · show (PySem.Str.ofString (toString i)).length ≤ 256
    have big : (2 : Nat) ^ 200 < 10 ^ 61 := by decide
    by_cases z : i < 0
    · rw [len_text_neg z]
      have := PyProof.Rows.toString_length_le (v := 0 - i) (by omega) (k := 61) (by decide) (by omega)
      omega
    · have := PyProof.Rows.toString_length_le (v := i) (by omega) (k := 61) (by decide) (by omega)
      omega
  · show (if i == 0 then 0 else i.natAbs.log2 + 1) ≤ 200
    split <;> omega
mutual
theorem show_sm : ∀ d : D, smallD d = true → d.leavesShort 256 = true ∧ d.weight + 1 ≤ 203 * nodes d ∧ d.showable = true ∧ d.hasDict = false ∧ d.canLay0 = true
  | .none, _ => ⟨rfl, (by decide : 0 + 1 ≤ 203 * 1), rfl, rfl, rfl⟩
  | .bool _, _ => ⟨rfl, (by decide : 0 + 1 ≤ 203 * 1), rfl, rfl, rfl⟩
  | .int i, h => by
    obtain ⟨h1, h2, h3⟩ := small_int (of_decide_eq_true (by simpa only [smallD] using h))
    exact ⟨by simp only [PyData.leavesShort, decide_eq_true_eq]; exact h1, (by simp only [nodes]; omega), by simp only [PyData.showable, decide_eq_true_eq]; exact h3, rfl, rfl⟩
  | .str _, h => by simp [smallD] at h
  | .dict _, h => by simp [smallD] at h
  | .list xs, h => by
    obtain ⟨h1, h2, h3, h4, h5⟩ := show_smA xs (by simpa only [smallD] using h)
    exact ⟨by simpa only [PyData.leavesShort] using h1, by simp only [PyData.weight, nodes]; omega, by simpa only [PyData.showable] using h3, by simpa only [PyData.hasDict] using h4, by simpa only [PyData.canLay0] using h5⟩
  | .tuple xs, h => by
    obtain ⟨h1, h2, h3, h4, h5⟩ := show_smA xs (by simpa only [smallD] using h)
    exact ⟨by simpa only [PyData.leavesShort] using h1, by simp only [PyData.weight, nodes]; omega, by simpa only [PyData.showable] using h3, by simpa only [PyData.hasDict] using h4, by simpa only [PyData.canLay0] using h5⟩
theorem show_smA : ∀ ds : List D, smallA ds = true → PyData.leavesShortAll 256 ds = true ∧ PyData.weightAll ds ≤ 203 * nodesA ds ∧ PyData.showableAll ds = true ∧ PyData.hasDictAll ds = false ∧ PyData.canLayAll0 ds = true
  | [], _ => ⟨rfl, Nat.zero_le _, rfl, rfl, rfl⟩
  | d :: ds, h => by
    simp only [smallA, Bool.and_eq_true] at h
    obtain ⟨h1, h2, h3, h4, h5⟩ := show_sm d h.1
    obtain ⟨g1, g2, g3, g4, g5⟩ := show_smA ds h.2
    have np : 1 ≤ nodes d := by cases d <;> simp only [nodes] <;> omega
    exact ⟨by simp only [PyData.leavesShortAll, h1, g1, Bool.and_self], by simp only [PyData.weightAll, nodesA]; omega, by simp only [PyData.showableAll, h3, g3, Bool.and_self], by simp only [PyData.hasDictAll, h4, g4, Bool.or_self], by simp only [PyData.canLayAll0, h5, g5, Bool.and_self]⟩
end
theorem show0 {d : D} (h : smallD d = true) (hn : nodes d ≤ 300) (hd : d.depth ≤ 60) : showOk0 d := by
  obtain ⟨h1, h2, h3, h4, _⟩ := show_sm d h
  refine ⟨h4, h3, by omega, ?_⟩
  have := PyData.shown_le 256 (by decide) d h1
  show d.shown.length ≤ 16777216
  omega
theorem shaped_sm {d : D} (h : smallD d = true) (hd : d.depth ≤ 60) : SeqAt.shaped d = true := by
  unfold SeqAt.shaped
  rw [(show_sm d h).2.2.2.2, Bool.true_and]
  exact decide_eq_true (by omega)
theorem smallA_map {α : Type} {f : α → D} : ∀ {xs : List α}, (∀ x ∈ xs, smallD (f x) = true) → smallA (xs.map f) = true
  | [], _ => rfl
  | x :: xs, h => by simp only [List.map_cons, smallA, h x List.mem_cons_self, smallA_map (fun y hy => h y (List.mem_cons_of_mem _ hy)), Bool.and_self]
theorem nodesA_map {α : Type} {f : α → D} {k : Nat} : ∀ {xs : List α}, (∀ x ∈ xs, nodes (f x) ≤ k) → nodesA (xs.map f) ≤ k * xs.length
  | [], _ => Nat.zero_le _
  | x :: xs, h => by
    have h1 := h x List.mem_cons_self
    have h2 := nodesA_map (xs := xs) fun y hy => h y (List.mem_cons_of_mem _ hy)
    simp only [List.map_cons, nodesA, List.length_cons, Nat.mul_add, Nat.mul_one]
    omega
theorem depthAll_map {α : Type} {f : α → D} {k : Nat} : ∀ {xs : List α}, (∀ x ∈ xs, (f x).depth ≤ k) → PyData.depthAll (xs.map f) ≤ k
  | [], _ => Nat.zero_le _
  | x :: xs, h => by
    have h1 := h x List.mem_cons_self
    have h2 := depthAll_map (xs := xs) fun y hy => h y (List.mem_cons_of_mem _ hy)
    simp only [List.map_cons, PyData.depthAll]
    omega
theorem iDs_small {ns : List Int} (h : ∀ x ∈ ns, x.natAbs < 2 ^ 200) : smallA (iDs ns) = true := smallA_map fun x hx => by simp only [smallD, decide_eq_true_eq]; exact h x hx
theorem iDs_nodes (ns : List Int) : nodesA (iDs ns) ≤ ns.length := by
  have h : nodesA (iDs ns) ≤ 1 * ns.length := nodesA_map fun x _ => by simp only [nodes]; omega
  omega
theorem iDs_depth (ns : List Int) : PyData.depthAll (iDs ns) = 0 := Nat.le_zero.mp (depthAll_map fun x _ => Nat.le_refl 0)
end QL

/-! QV: repr and str of data with dicts: only a dict's own address must be other than that of the modules' table. -/
namespace QL
open PySem PySem.Spec PyProof.Rows L2
/-- a value as it is read, and how it is shown -/
def ShK (P : Program) (w : World) (h : Heap) (u : Value) (d : D) : Prop := ∃ as bs, Reads h u d as ∧ ReadAtMost h d.depth bs ∧ ReprK P w bs h d.depth u d.shown
def ShA (P : Program) (w : World) (h : Heap) (us : List Value) (ds : List D) : Prop := ∃ as bs, ReadsAll h us ds as ∧ ReadAtMost h (PyData.depthAll ds) bs ∧ ReprAllK P w bs h (PyData.depthAll ds) us (PyData.shownAll ds)
theorem ShA.nil {P : Program} {w : World} {h : Heap} : ShA P w h [] [] := ⟨[], [], .nil, fun _ z => (nomatch z), by simp only [PyData.shownAll]; exact .nil⟩
theorem ShA.cons {P : Program} {w : World} {h : Heap} {u : Value} {us : List Value} {d : D} {ds : List D} (a : ShK P w h u d) (b : ShA P w h us ds) : ShA P w h (u :: us) (d :: ds) := by
  obtain ⟨as1, bs1, r1, m1, k1⟩ := a
  obtain ⟨as2, bs2, r2, m2, k2⟩ := b
  have e : PyData.depthAll (d :: ds) = max d.depth (PyData.depthAll ds) := by simp only [PyData.depthAll]
  refine ⟨as1 ++ as2, bs1 ++ bs2, .cons r1 r2, ?_, ?_⟩
  · rw [e]
    exact (m1.mono (Nat.le_max_left _ _)).append (m2.mono (Nat.le_max_right _ _))
  · rw [e]
    simp only [PyData.shownAll]
    exact .cons ((k1.more fun b hb => List.mem_append_left bs2 hb).level_le (Nat.le_max_left _ _)) (k2.more_le (fun b hb => List.mem_append_right bs1 hb) (Nat.le_max_right _ _))
/-- the texts of the parts are not longer than the whole -/
def fitsA (ds : List D) : Prop := ∀ t ∈ PyData.shownAll ds, t.length ≤ sizeLine
theorem fitsA.head {d : D} {ds : List D} (h : fitsA (d :: ds)) : d.shown.length ≤ sizeLine := h _ (by simp only [PyData.shownAll]; exact List.mem_cons_self)
theorem fitsA.tail {d : D} {ds : List D} (h : fitsA (d :: ds)) : fitsA ds := fun t ht => h t (by simp only [PyData.shownAll]; exact List.mem_cons_of_mem _ ht)
theorem fits_list {xs : List D} (h : (PyData.shown (.list xs)).length ≤ sizeLine) : fitsA xs := fun t ht => Nat.le_trans (listText_mem_le ht) (by simpa only [PyData.shown] using h)
theorem fits_tuple {xs : List D} (h : (PyData.shown (.tuple xs)).length ≤ sizeLine) : fitsA xs := fun t ht => Nat.le_trans (tupleText_mem_le ht) (by simpa only [PyData.shown] using h)
theorem fits_keys {kvs : List (D × D)} (h : (PyData.shown (.dict kvs)).length ≤ sizeLine) : fitsA (kvs.map (·.1)) := fun t ht => by
  obtain ⟨p, hp, hl⟩ := PyData.shownKv_key_le kvs t ht
  exact Nat.le_trans hl (Nat.le_trans (dictText_mem_le hp) (by simpa only [PyData.shown] using h))
theorem fits_vals {kvs : List (D × D)} (h : (PyData.shown (.dict kvs)).length ≤ sizeLine) : fitsA (kvs.map (·.2)) := fun t ht => by
  obtain ⟨p, hp, hl⟩ := PyData.shownKv_val_le kvs t ht
  exact Nat.le_trans hl (Nat.le_trans (dictText_mem_le hp) (by simpa only [PyData.shown] using h))
theorem keys_sh {P : Program} {w : World} {h : Heap} {Q : Program} : ∀ {es : List DictEntry} {vs : List (Key × Value)} {kvs : List (Key × V)} {ds : List (D × D)} {F : Hp}, PySem.Pairs (mixKind Q w) es vs → KV kvs vs → RpK F kvs ds →
    PyData.showableAll (ds.map (·.1)) = true → fitsA (ds.map (·.1)) → ShA P w h (es.map (·.key)) (ds.map (·.1))
  | _, _, _, _, _, .nil, r, q, _, _ => by cases r; cases q; exact ShA.nil
  | _, _, _, _, _, .cons hk hv t, r, q, hs, hf => by
    cases r with
    | cons r1 r2 =>
      cases q with
      | cons q1 q2 =>
        have hs' := hs
        simp only [List.map_cons, PyData.showableAll, Bool.and_eq_true] at hs'
        have ih := keys_sh (P := P) (h := h) t r2 q2 hs'.2 (fitsA.tail hf)
        obtain ⟨r1a, r1b⟩ := r1
        simp only at r1a
        subst r1a
        rcases keyIs_shape hk with ⟨i, t', e1, e2⟩ | ⟨x, t', e1, e2⟩
        · simp only [List.map_cons]
          rw [e1, e2]
          rw [e1] at hs'
          refine ShA.cons ⟨[], [], .int i t', fun _ z => (nomatch z), ?_⟩ ih
          exact .of_is (ReprIs.int t' (by simpa [kD, PyData.showable] using hs'.1)) _ _ _
        · simp only [List.map_cons]
          rw [e1, e2]
          have hf1 := fitsA.head hf
          rw [e1] at hf1
          exact ShA.cons ⟨[], [], .str x t', fun _ z => (nomatch z), .of_is (ReprIs.str x t' (by simpa only [kD, PyData.shown] using hf1)) _ _ _⟩ ih
section
variable {X : Cx} {pins : List (Addr × Obj)} {σ : L2.St} {H : Hp} {s : Shared}
mutual
theorem Rp.sh (I : Inv X pins σ H s) : ∀ {v : V} {d : D} {u : Value}, Rp H v d → L2.RelV v u → d.showable = true → d.shown.length ≤ sizeLine → ShK X.prog X.w s.heap u d
  | _, _, _, .non, r, _, _ => by cases r; exact ⟨[], [], .none, fun _ z => (nomatch z), .of_is ReprIs.none _ _ _⟩
  | _, _, _, .bl b, r, _, _ => by cases r; exact ⟨[], [], .bool b, fun _ z => (nomatch z), .of_is (ReprIs.bool b) _ _ _⟩
  | _, _, _, .int i, r, hs, _ => by
    obtain ⟨t, rfl⟩ := r
    exact ⟨[], [], .int i t, fun _ z => (nomatch z), .of_is (ReprIs.int t (by simpa [PyData.showable] using hs)) _ _ _⟩
  | _, _, _, .str x, r, _, hz => by
    obtain ⟨t, rfl⟩ := r
    exact ⟨[], [], .str x t, fun _ z => (nomatch z), .of_is (ReprIs.str x t (by simpa only [PyData.shown] using hz)) _ _ _⟩
  | _, _, _, .lst (ds := ds) h q, r, hs, hz => by
    cases r
    obtain ⟨its, rv, ⟨o, n, ho, hc, _, hd⟩, _⟩ := I.list (SqL.of h)
    obtain ⟨as, bs, r1, m1, k1⟩ := RpA.sh I q rv (by simpa [PyData.showable] using hs) (fits_list hz)
    have rd : Reads s.heap (.ref _) (.list ds) _ := .list ho hc hd r1
    have dp : PyData.depthAll ds < (PyData.list ds).depth := by simp only [PyData.depth]; omega
    refine ⟨_, _ :: bs, rd, ReadAtMost.cons rd (Nat.le_of_lt dp) m1, ?_⟩
    simp only [PyData.depth, PyData.shown]
    cases its with
    | nil =>
      cases r1
      simp only [PyData.shownAll, listText_nil]
      exact ReprK.listEmpty ho hc hd
    | cons x l => exact ReprK.list ho hc hd (not_mem_of_deeper rd dp m1) (by simpa using k1.length_eq) (fun i y e => k1.item i y (by simpa using e))
  | _, _, _, .tup (ds := ds) h q, r, hs, hz => by
    cases r
    obtain ⟨its, rv, ⟨o, ho, hc, n, hd⟩, _⟩ := I.tuple (SqT.of h)
    obtain ⟨as, bs, r1, m1, k1⟩ := RpA.sh I q rv (by simpa [PyData.showable] using hs) (fits_tuple hz)
    have rd : Reads s.heap (.ref _) (.tuple ds) _ := .tuple ho hc hd r1
    have dp : PyData.depthAll ds < (PyData.tuple ds).depth := by simp only [PyData.depth]; omega
    refine ⟨_, _ :: bs, rd, ReadAtMost.cons rd (Nat.le_of_lt dp) m1, ?_⟩
    simp only [PyData.depth, PyData.shown]
    exact ReprK.tuple ho hc hd (not_mem_of_deeper rd dp m1) k1
  | _, _, _, .dic (ds := ds) h q, r, hs, hz => by
    cases r
    obtain ⟨_, hsys, vs, rel, o, es, ep, ho, hx, hdat, _, hp, _⟩ := dk_rd I.hok h
    obtain ⟨hs1, hs2⟩ := PyData.showableKv_split ds (by simpa [PyData.showable] using hs)
    obtain ⟨as1, bs1, r1, m1, k1⟩ := keys_sh (P := X.prog) (h := s.heap) hp rel q hs1 (fits_keys hz)
    obtain ⟨as2, bs2, r2, m2, k2⟩ := RpK.sh I q rel hp hs2 (fits_vals hz)
    have rd : Reads s.heap (.ref _) (.dict ds) _ := .dict ho hx.1 hdat r1 r2
    have mm : ReadAtMost s.heap (PyData.depthKv ds) (bs1 ++ bs2) := (m1.mono (PyData.depthAll_keys_le ds)).append (m2.mono (PyData.depthAll_vals_le ds))
    have dp : PyData.depthKv ds < (PyData.dict ds).depth := by simp only [PyData.depth]; omega
    refine ⟨_, _ :: (bs1 ++ bs2), rd, ReadAtMost.cons rd (Nat.le_of_lt dp) mm, ?_⟩
    simp only [PyData.depth, PyData.shown, PyData.shownKv_eq]
    exact ReprK.dict ho hx.1 hdat hsys (not_mem_of_deeper rd dp mm) (ReprEntriesK.of_two es.toList _ _ (k1.more_le (fun b hb => List.mem_append_left bs2 hb) (PyData.depthAll_keys_le ds)) (k2.more_le (fun b hb => List.mem_append_right bs1 hb) (PyData.depthAll_vals_le ds)))
theorem RpA.sh (I : Inv X pins σ H s) : ∀ {vs : List V} {ds : List D} {us : List Value}, RpA H vs ds → Vals vs us → PyData.showableAll ds = true → fitsA ds → ShA X.prog X.w s.heap us ds
  | _, _, _, .nil, r, _, _ => by cases r; exact ShA.nil
  | _, _, _, .cons h q, r, hs, hz => by
    cases r with
    | cons r1 r2 =>
      simp only [PyData.showableAll, Bool.and_eq_true] at hs
      exact ShA.cons (Rp.sh I h r1 hs.1 (fitsA.head hz)) (RpA.sh I q r2 hs.2 (fitsA.tail hz))
theorem RpK.sh (I : Inv X pins σ H s) : ∀ {kvs : List (Key × V)} {ds : List (D × D)} {vs : List (Key × Value)} {es : List DictEntry}, RpK H kvs ds → KV kvs vs → PySem.Pairs (mixKind X.prog X.w) es vs → PyData.showableAll (ds.map (·.2)) = true → fitsA (ds.map (·.2)) →
    ShA X.prog X.w s.heap (es.map (·.val)) (ds.map (·.2))
  | _, _, _, _, .nil, r, p, _, _ => by cases r; cases p; exact ShA.nil
  | _, _, _, _, .cons h q, r, p, hs, hz => by
    cases r with
    | cons r1 r2 =>
      cases p with
      | cons p1 p2 p3 =>
        simp only [List.map_cons, PyData.showableAll, Bool.and_eq_true] at hs
        have a := Rp.sh I h r1.2 hs.1 (fitsA.head hz)
        have b := RpK.sh I q r2 p3 hs.2 (fitsA.tail hz)
        simp only [List.map_cons]
        rw [p2]
        exact ShA.cons a b
end
/-- repr(x), whatever plain data x is -/
def reprGD (ds : List D) (k : T → Prop) : Prop := ∃ d, ds = [d] ∧ showOk d ∧ k (.va (.str d.shown))
theorem dc_reprD (hg : X.A.guards = some []) (hu : X.A.units + 110 < cLine) : DCall X (.builtin "repr") reprGD := fun pins s σ H F vs us ds k I sF ws rv ⟨d, e, ⟨hs, hd, hz⟩, h⟩ => by
  subst e
  obtain ⟨v, rfl, w⟩ := ws.one
  obtain ⟨u, rfl, ru⟩ := rv.one
  have rp := w.rp sF
  have fin : ∀ {h' : Heap} {t tk : Nat}, Inv X pins σ H { s with heap := h', toks := tk } → EP X pins σ (NewV F H k) (.str d.shown t) { s with heap := h', toks := tk } := fun {h' t tk} I' => ⟨.str d.shown, H, I', ⟨t, rfl⟩, NewV.val sF (.str _) h⟩
  have slot : ∀ {a : Addr} {T idr : String}, s.TypeIs (.ref a) T → SlotG T "__repr__" idr →
      (∀ Q : Value → Shared → Prop, (∀ h' t tk, (∀ b o, s.heap.get? b = some o → h'.get? b = some o) → Q (.str d.shown t) { s with heap := h', toks := tk }) → wpAny (model X.prog X.w) X.A.in1 (call (.builtin idr) [.ref a]) Q X.xe s) →
      wpAny (model X.prog X.w) X.A (call (.builtin "repr") [.ref a]) (EP X pins σ (NewV F H k)) X.xe s := fun {a T idr} ty sl c =>
    call_repr_slot (by omega) ty sl (c _ fun h' t tk hk => ⟨_, _, rfl, fin (I.kept hk)⟩)
  have hg1 : X.A.in1.guards = some [] := hg
  have hu1 : ∀ n, n ≤ 100 → X.A.in1.units + n < cLine := fun n hn => by show X.A.units + 1 + n < cLine; omega
  cases rp with
  | non => cases ru; exact P.repr_of_none (fin (I.tok _))
  | bl b => cases ru; exact P.repr_of_bool (fin (I.tok _))
  | int i =>
    obtain ⟨t, rfl⟩ := ru
    exact P.repr_of_int (by simpa [PyData.showable] using hs) (fin (I.tok _))
  | str x =>
    obtain ⟨t, rfl⟩ := ru
    exact P.repr_of_str (fin (I.tok _)) hz
  | @lst a xs ds hl q =>
    cases ru
    obtain ⟨its, rv, ⟨o, n, ho, hc, _, hdat⟩, _⟩ := I.list (SqL.of hl)
    obtain ⟨as, bs, r1, m1, k1⟩ := RpA.sh I q rv (by simpa [PyData.showable] using hs) (fits_list hz)
    have rd : Reads s.heap (.ref a) (.list ds) _ := .list ho hc hdat r1
    have dp : PyData.depthAll ds < (PyData.list ds).depth := by simp only [PyData.depth]; omega
    refine slot ⟨o, ho, hc⟩ _root_.PySem.F.slot_list_repr.toG fun Q hQ => ?_
    have hd1 := hu1 _ hd
    simp only [PyData.depth] at hd1
    simp only [PyData.shown] at hQ hz
    cases its with
    | nil =>
      cases r1
      simp only [PyData.shownAll, listText_nil] at hQ
      exact call_list_repr_empty ⟨o, ho, hc⟩ ho hdat (hQ s.heap _ _ fun _ _ e => e)
    | cons x l => exact call_list_reprK ho hc hdat (not_mem_of_deeper rd dp m1) (by simpa using k1.length_eq) (fun i y e => k1.item i y (by simpa using e)) hg1 (fun b _ => Clear.nil b) hd1 (fun _ _ e => e) hQ hz
  | @tup a xs ds hl q =>
    cases ru
    obtain ⟨its, rv, ⟨o, ho, hc, n, hdat⟩, _⟩ := I.tuple (SqT.of hl)
    obtain ⟨as, bs, r1, m1, k1⟩ := RpA.sh I q rv (by simpa [PyData.showable] using hs) (fits_tuple hz)
    have rd : Reads s.heap (.ref a) (.tuple ds) _ := .tuple ho hc hdat r1
    have dp : PyData.depthAll ds < (PyData.tuple ds).depth := by simp only [PyData.depth]; omega
    refine slot ⟨o, ho, hc⟩ _root_.PySem.F.slot_tuple_repr fun Q hQ => ?_
    have hd1 := hu1 _ hd
    simp only [PyData.depth] at hd1
    simp only [PyData.shown] at hQ hz
    exact call_tuple_reprK ho hc hdat (not_mem_of_deeper rd dp m1) k1 hg1 (fun b _ => Clear.nil b) hd1 (fun _ _ e => e) hQ hz
  | @dic a kvs ds hl q =>
    cases ru
    obtain ⟨_, hsys, vs, rel, o, es, ep, ho, hx, hdat, _, hp, _⟩ := dk_rd I.hok hl
    obtain ⟨hs1, hs2⟩ := PyData.showableKv_split ds (by simpa [PyData.showable] using hs)
    obtain ⟨as1, bs1, r1, m1, k1⟩ := keys_sh (P := X.prog) (h := s.heap) hp rel q hs1 (fits_keys hz)
    obtain ⟨as2, bs2, r2, m2, k2⟩ := RpK.sh I q rel hp hs2 (fits_vals hz)
    have rd : Reads s.heap (.ref a) (.dict ds) _ := .dict ho hx.1 hdat r1 r2
    have mm : ReadAtMost s.heap (PyData.depthKv ds) (bs1 ++ bs2) := (m1.mono (PyData.depthAll_keys_le ds)).append (m2.mono (PyData.depthAll_vals_le ds))
    have dp : PyData.depthKv ds < (PyData.dict ds).depth := by simp only [PyData.depth]; omega
    refine slot ⟨o, ho, hx.1⟩ _root_.PySem.F.slot_dict_repr fun Q hQ => ?_
    have hd1 := hu1 _ hd
    simp only [PyData.depth] at hd1
    simp only [PyData.shown, PyData.shownKv_eq] at hQ hz
    exact call_dict_reprK ho hx.1 hdat hsys (not_mem_of_deeper rd dp mm) (ReprEntriesK.of_two es.toList _ _ (k1.more_le (fun b hb => List.mem_append_left bs2 hb) (PyData.depthAll_keys_le ds)) (k2.more_le (fun b hb => List.mem_append_right bs1 hb) (PyData.depthAll_vals_le ds))) hg1 (fun b _ => Clear.nil b) hd1 (fun _ _ e => e) hQ hz
end
end QL

/-! QU: data of any kind whose text is short. -/
namespace QL
open PySem PySem.Spec PyProof.Rows L2
mutual
def okD : D → Bool
  | .none => true
  | .bool _ => true
  | .int i => decide (i.natAbs < 2 ^ 200)
  | .str x => x.cps.toList.all fun c => decide (c < 16 ^ 8)
  | .list xs => okA xs
  | .tuple xs => okA xs
  | .dict kvs => okK kvs
def okA : List D → Bool
  | [] => true
  | x :: xs => okD x && okA xs
def okK : List (D × D) → Bool
  | [] => true
  | (a, b) :: r => okD a && okD b && okK r
end
mutual
theorem ok_sh : ∀ d : D, okD d = true → d.leavesShort 256 = true ∧ d.showable = true
  | .none, _ => ⟨rfl, rfl⟩
  | .bool _, _ => ⟨rfl, rfl⟩
  | .int i, h => by
    obtain ⟨h1, h2, h3⟩ := small_int (of_decide_eq_true (by simpa only [okD] using h))
    exact ⟨by simp only [PyData.leavesShort, decide_eq_true_eq]; exact h1, by simp only [PyData.showable, decide_eq_true_eq]; exact h3⟩
  | .str x, h => ⟨by simp only [PyData.leavesShort]; simpa only [okD] using h, rfl⟩
  | .list xs, h => by
    obtain ⟨h1, h2⟩ := ok_shA xs (by simpa only [okD] using h)
    exact ⟨by simpa only [PyData.leavesShort] using h1, by simpa only [PyData.showable] using h2⟩
  | .tuple xs, h => by
    obtain ⟨h1, h2⟩ := ok_shA xs (by simpa only [okD] using h)
    exact ⟨by simpa only [PyData.leavesShort] using h1, by simpa only [PyData.showable] using h2⟩
  | .dict kvs, h => by
    obtain ⟨h1, h2⟩ := ok_shK kvs (by simpa only [okD] using h)
    exact ⟨by simpa only [PyData.leavesShort] using h1, by simpa only [PyData.showable] using h2⟩
theorem ok_shA : ∀ ds : List D, okA ds = true → PyData.leavesShortAll 256 ds = true ∧ PyData.showableAll ds = true
  | [], _ => ⟨rfl, rfl⟩
  | d :: ds, h => by
    simp only [okA, Bool.and_eq_true] at h
    obtain ⟨h1, h2⟩ := ok_sh d h.1
    obtain ⟨g1, g2⟩ := ok_shA ds h.2
    exact ⟨by simp only [PyData.leavesShortAll, h1, g1, Bool.and_self], by simp only [PyData.showableAll, h2, g2, Bool.and_self]⟩
theorem ok_shK : ∀ ds : List (D × D), okK ds = true → PyData.leavesShortKv 256 ds = true ∧ PyData.showableKv ds = true
  | [], _ => ⟨rfl, rfl⟩
  | (a, b) :: ds, h => by
    simp only [okK, Bool.and_eq_true] at h
    obtain ⟨h1, h2⟩ := ok_sh a h.1.1
    obtain ⟨k1, k2⟩ := ok_sh b h.1.2
    obtain ⟨g1, g2⟩ := ok_shK ds h.2
    exact ⟨by simp only [PyData.leavesShortKv, h1, k1, g1, Bool.and_self], by simp only [PyData.showableKv, h2, k2, g2, Bool.and_self]⟩
end
/-- short data: depth, weight -/
structure Short (n w : Nat) (d : D) : Prop where
  ok : okD d = true
  dp : d.depth ≤ n
  wt : d.weight ≤ w
theorem Short.show_ {n w : Nat} {d : D} (h : Short n w d) (hn : n ≤ 100) (hw : w ≤ 60000) : showOk d := by
  obtain ⟨h1, h2⟩ := ok_sh d h.ok
  have := PyData.shown_le 256 (by decide) d h1
  refine ⟨h2, Nat.le_trans h.dp hn, ?_⟩
  show d.shown.length ≤ 16777216
  have := h.wt
  omega
theorem Short.le {n w n' w' : Nat} {d : D} (h : Short n w d) (hn : n ≤ n') (hw : w ≤ w') : Short n' w' d := ⟨h.ok, Nat.le_trans h.dp hn, Nat.le_trans h.wt hw⟩
theorem Short.tup1 {n w : Nat} {d : D} (h : Short n w d) : Short (n + 1) (w + 3) (.tuple [d]) := by
  have := h.dp
  have := h.wt
  exact ⟨by simp only [okD, okA, h.ok, Bool.and_self], by simp only [PyData.depth, PyData.depthAll]; omega, by simp only [PyData.weight, PyData.weightAll]; omega⟩
theorem Short.lst1 {n w : Nat} {d : D} (h : Short n w d) : Short (n + 1) (w + 3) (.list [d]) := by
  have := h.dp
  have := h.wt
  exact ⟨by simp only [okD, okA, h.ok, Bool.and_self], by simp only [PyData.depth, PyData.depthAll]; omega, by simp only [PyData.weight, PyData.weightAll]; omega⟩
theorem Short.dic1 {n w : Nat} {d : D} {x : Str} (h : Short n w d) (hx : okD (.str x) = true) (hl : x.cps.size ≤ 1) : Short (n + 1) (w + 3) (.dict [(.str x, d)]) := by
  have := h.dp
  have := h.wt
  exact ⟨by simp only [okD, okK, h.ok, Bool.and_true]; simpa only [okD] using hx, by simp only [PyData.depth, PyData.depthKv]; omega, by simp only [PyData.weight, PyData.weightKv]; omega⟩
end QL

namespace K1
open PySem PySem.Spec PyProof.Rows L2 QL
def topS (i : Nat) : Stmt := PySem.Challenge.pw_settledlines_k01_widths_and_texts_of_any.main.body.getD i (.Pass ⟨0, 0, 0, 0⟩)
theorem sc9 : FnScope ["_law_script", "_law_spot", "_law_cell", "_law_own"] ["_law_script", "_law_spot"] (defScope (topS 9)) := ⟨rfl, rfl, rfl, by decide +kernel, rfl, by decide +kernel, by decide +kernel⟩
theorem sc10 : FnScope ["_law_pot_here", "_law_upto", "_law_digit", "_law_prime", "_law_mixed"] ["_law_pot_here", "_law_upto"] (defScope (topS 10)) := ⟨rfl, rfl, rfl, by decide +kernel, rfl, by decide +kernel, by decide +kernel⟩
theorem sc11 : FnScope ["_law_pot_here", "_law_some"] ["_law_pot_here", "_law_some"] (defScope (topS 11)) := ⟨rfl, rfl, rfl, by decide +kernel, rfl, by decide +kernel, by decide +kernel⟩
section
variable {P : Program} {w : World} {K : PySem.W.Frag} {mg : Str → Option Value} {base : Heap}
/-- the pot's state -/
def PotOk (n : Int) (a b c : Int) : Prop := 0 ≤ a ∧ (0 ≤ b ∧ b < 2305843009213693951) ∧ 0 ≤ c ∧ c ≤ n
abbrev potD (a b c : Int) : List D := [.int a, .int b, .int c]
def spPot (K : PySem.W.Frag) : Spc := fun ts QT _ => ∃ (a : Addr) (ns : List Int) (i : Int), ts = [scT K a ns, .va (.int i)] ∧ (0 ≤ i ∧ i ≤ 100) ∧ ns.length ≤ 63 ∧ ∀ p x y, PotOk 0 x y 0 → QT (.lst p (potD x y 0)) [some (scT K a ns), none]
theorem bits60 : CPowQ (10 ^ 60) 5 := .inr ⟨by decide, by decide +kernel⟩
theorem g_pot {f : Addr} {fd : FuncData} {k : Nat} (Fn : Fun K "_law_pot" "_law_pot" (topS 9) f fd) (m_len : mg "len" = none) (m_abs : mg "abs" = none) (m_int : mg "int" = none) : FnG P w K mg base (k + 1) f fd ["_law_script", "_law_spot"] (spPot K) := by
  refine fn_g Fn sc9 (fun ts Q E h => ?_) fun cdv A outer s H E Z ts QT ET hr hgd hp tk h => ?_
  · obtain ⟨a, ns, i, rfl, _⟩ := h
    rfl
  · obtain ⟨a, ns, i, rfl, hi, hl, q⟩ := h
    have rest : ∀ m : Int, WSs Z (BX P w K mg base ["_law_script", "_law_spot", "_law_cell", "_law_own"] "_law_pot" (topS 9) f cdv A outer s H E) ((defBody (topS 9)).drop 1) [some (scT K a ns), some (.va (.int i)), some (.va (.int m)), none] (finP QT [scT K a ns, .va (.int i)]) := fun m => by
      refine wss_cons (ws_set 3 (w_bin dop_mul (w_bin dop_mod (w_callB dc_abs m_abs rfl ⟨rfl, (w_var 2 (⟨rfl, (w_bin dop_pow (w_bin dop_pow (w_int ((w_int (⟨rfl, rfl, ?pow1, (w_int (⟨rfl, rfl, ?pow2, ⟨rfl, rfl, ?mod3, (w_callTy dc_int m_int rfl ⟨rfl, (w_cmp dop_ge (w_callB dc_abs m_abs rfl ⟨rfl, (w_var 2 (⟨rfl, (w_bin dop_pow (w_int ((w_int (⟨rfl, rfl, ?pow4, ⟨rfl, rfl, ⟨rfl, ⟨rfl, rfl, ?mul5, ⟨Nat.lt_of_sub_eq_succ rfl, ?nx6⟩⟩⟩⟩⟩)))))⟩))⟩))⟩)⟩⟩))⟩))))))⟩))⟩))) sc9.nd)
      case pow1 => exact .inl ⟨by decide, by decide, by decide⟩
      case pow2 => exact bits60
      case mod3 => exact of_decide_eq_true (p := (0 : Int) < (10 ^ (60 : Int).toNat) ^ (5 : Int).toNat) (by decide +kernel)
      case pow4 => exact .inl ⟨by decide, by decide, by decide⟩
      case mul5 => exact cmul_r (by split <;> decide) (by split <;> decide)
      case nx6 =>
        refine wss_one (ws_ret (w_lst ⟨rfl, (w_var 3 (⟨rfl, (w_bin dop_mod (w_bin dop_add (w_bin dop_add (w_bin dop_mul (w_bin dop_mod (w_var 2 ((w_int (⟨rfl, rfl, ?mod1, (w_int (⟨rfl, rfl, ?mul2, (w_bin dop_mul (w_bin dop_mul (w_int ((w_var 1 (⟨rfl, rfl, ?mul3, (w_var 1 (⟨rfl, rfl, ?mul4, ⟨rfl, rfl, (w_int (⟨rfl, rfl, (w_int (⟨rfl, rfl, ?mod5, ⟨rfl, (w_int (⟨?sz6, fun p => ?ret7⟩))⟩⟩))⟩))⟩⟩))⟩))))))⟩))⟩)))))))))⟩))⟩))
        case mod1 => exact (by decide : (0 : Int) < 2305843009213693951)
        case mul2 => exact cmul_r (by decide) (by decide)
        case mul3 => exact cmul_l (by decide) (by decide)
        case mul4 => exact cmul_r (by omega) (by omega)
        case mod5 => exact (by decide : (0 : Int) < 2305843009213693907)
        case sz6 => exact Nat.le_of_lt (small2000 (n := 3) (by decide))
        case ret7 =>
          refine ⟨rfl, q p _ _ ⟨?_, ⟨Int.emod_nonneg _ (by decide), ?_⟩, Int.le_refl 0, Int.le_refl 0⟩⟩
          · refine Int.mul_nonneg (Int.emod_nonneg _ (by decide +kernel)) (by split <;> decide)
          · exact Int.lt_trans (Int.emod_lt_of_pos _ (by decide)) (by decide)
    refine wss_cons (ws_set 2 (w_ifExp (wt_cmp dop_lt (w_var 1 (w_scLen 0 m_len rfl ⟨rfl, rfl, ⟨_, rfl, fun h => ?_, fun h => ?_⟩⟩)))) sc9.nd)
    · have h1 : i < ns.length := of_decide_eq_true h
      have e : ns[i.toNat]? = some ns[i.toNat] := List.getElem?_eq_getElem (by omega)
      have ei : i = ((i.toNat : Nat) : Int) := by omega
      exact w_scIx 0 1 (m := ns[i.toNat]) rfl rfl ((congrArg (atI ns) ei).trans (atI_nat e)) ⟨Nat.lt_of_sub_eq_succ rfl, rest _⟩
    · exact w_bin dop_add (w_int (w_bin dop_mul (w_int (w_var 1 ⟨rfl, rfl, cmul_l (by decide) (by decide), ⟨rfl, rfl, ⟨Nat.lt_of_sub_eq_succ rfl, rest _⟩⟩⟩))))
def spTake : Spc := fun ts QT _ => ∃ (p : Addr) (n a b c u : Int), ts = [.lst p (potD a b c), .va (.int u)] ∧ PotOk n a b c ∧ n ≤ 1000000 ∧ (0 < u ∧ u ≤ 1000000000000) ∧ ∀ a' b' c' d, PotOk (n + 1) a' b' c' → 0 ≤ d → d < u → QT (.va (.int d)) [some (.lst p (potD a' b' c')), none]
theorem ix5 (m : Int) : ∃ d, atI [PyData.int 2147483647, .int 2147483629, .int 2147483587, .int 2147483579, .int 2147483563] (m % 5) = some (.int d) ∧ 0 < d ∧ d ≤ 2147483647 := by
  have h0 := Int.emod_nonneg m (b := 5) (by decide)
  have h1 := Int.emod_lt_of_pos m (b := 5) (by decide)
  have : m % 5 = 0 ∨ m % 5 = 1 ∨ m % 5 = 2 ∨ m % 5 = 3 ∨ m % 5 = 4 := by omega
  rcases this with e | e | e | e | e <;> rw [e] <;> exact ⟨_, rfl, by decide, by decide⟩
theorem g_take {f : Addr} {fd : FuncData} {k : Nat} (Fn : Fun K "_law_take" "_law_take" (topS 10) f fd) : FnG P w K mg base (k + 1) f fd ["_law_pot_here", "_law_upto"] spTake := by
  refine fn_g Fn sc10 (fun ts Q E h => ?_) fun cdv A outer s H E Z ts QT ET hr hgd hp tk h => ?_
  · obtain ⟨p, n, a, b, c, u, rfl, _⟩ := h
    rfl
  · obtain ⟨p, n, a, b, c, u, rfl, ⟨ha, ⟨hb0, hb⟩, hc0, hc⟩, hn, ⟨hu0, hu⟩, q⟩ := h
    refine wss_cons (ws_if (wt_cmp dop_gt (w_ix (w_var 0 ((w_int (⟨rfl, rfl, _, rfl, (w_int (⟨rfl, rfl, _, rfl, ⟨fun h => ?then2, fun h => ?else3⟩⟩))⟩)))))))
    case then2 =>
      refine wss_cons (ws_set 2 (w_bin dop_mod (w_ix (w_var 0 ((w_int (⟨rfl, rfl, _, rfl, (w_var 1 (⟨rfl, rfl, hu0, ⟨Nat.lt_of_sub_eq_succ rfl, ?nxa⟩⟩))⟩)))))) sc10.nd)
      refine wss_cons (ws_setix (w_bin dop_fdiv (w_ix (w_var 0 ((w_int (⟨rfl, rfl, _, rfl, (w_var 1 (⟨rfl, rfl, ⟨hu0, by omega⟩, (w_var 0 (⟨_, _, _, rfl, (w_int (⟨_, rfl, _, _, 0, rfl, rfl, rfl, ?nxb⟩))⟩))⟩))⟩)))))))
      refine wss_one (ws_ret (w_var 2 ?_))
      have ha' : 0 ≤ a / u := Int.ediv_nonneg ha (Int.le_of_lt hu0)
      exact ⟨rfl, q _ _ _ _ ⟨ha', ⟨hb0, hb⟩, hc0, by omega⟩ (Int.emod_nonneg _ (by omega)) (Int.emod_lt_of_pos _ hu0)⟩
    case else3 =>
      refine wss_nil ?_
      refine wss_cons (ws_setix (w_bin dop_add (w_ix (w_var 0 ((w_int (⟨rfl, rfl, _, rfl, (w_int (⟨rfl, rfl, (w_var 0 (⟨_, _, _, rfl, (w_int (⟨_, rfl, _, _, 2, rfl, rfl, rfl, ?nxc⟩))⟩))⟩))⟩)))))))
      obtain ⟨pr, hpr, hp0, hp1⟩ := ix5 (c + 1)
      refine wss_cons (ws_set 3 (w_ix (w_lst ⟨rfl, (w_int (⟨rfl, (w_int (⟨rfl, (w_int (⟨rfl, (w_int (⟨rfl, (w_int (⟨Nat.le_of_lt (small2000 (n := 5) (by decide)), fun p => (w_bin dop_mod (w_ix (w_var 0 ((w_int (⟨rfl, rfl, _, rfl, (w_int (⟨rfl, rfl, (by decide : (0 : Int) < 5), ⟨rfl, rfl, _, hpr, ⟨Nat.lt_of_sub_eq_succ rfl, ?nxd⟩⟩⟩))⟩))))))⟩))⟩))⟩))⟩))⟩))⟩)) sc10.nd)
      refine wss_cons (ws_set 4 (w_bin dop_mod (w_bin dop_pow (w_bin dop_add (w_bin dop_add (w_ix (w_var 0 ((w_int (⟨rfl, rfl, _, rfl, (w_bin dop_mul (w_bin dop_mul (w_int ((w_ix (w_var 0 ((w_int (⟨rfl, rfl, _, rfl, ⟨rfl, rfl, ?mulA, (w_ix (w_var 0 ((w_int (⟨rfl, rfl, _, rfl, ⟨rfl, rfl, ?mulB, ⟨rfl, rfl, (w_int (⟨rfl, rfl, (w_int (⟨rfl, rfl, ?pow6, (w_var 3 (⟨rfl, rfl, hp0, ⟨Nat.lt_of_sub_eq_succ rfl, ?nx8⟩⟩))⟩))⟩))⟩⟩⟩)))))⟩⟩)))))))))⟩))))))))) sc10.nd)
      case mulA => exact cmul_l (by decide) (by decide)
      case mulB => exact cmul_r (by omega) (by omega)
      case pow6 =>
        have h1 : 65537 * (c + 1) * (c + 1) ≤ 65537 * 1000001 * 1000001 := Int.mul_le_mul (by omega) (by omega) (by omega) (by decide)
        have h2 : 0 ≤ 65537 * (c + 1) * (c + 1) := Int.mul_nonneg (by omega) (by omega)
        refine .inl ⟨by decide, by decide, ?_⟩
        have h3 : 0 ≤ b + 65537 * (c + 1) * (c + 1) + 41 := by omega
        have h4 : b + 65537 * (c + 1) * (c + 1) + 41 < 2 ^ 64 := by omega
        omega
      case nx8 =>
        have m0 := Int.emod_nonneg ((b + 65537 * (c + 1) * (c + 1) + 41) ^ (3 : Int).toNat) (b := pr) (by omega)
        have m1 := Int.emod_lt_of_pos ((b + 65537 * (c + 1) * (c + 1) + 41) ^ (3 : Int).toNat) hp0
        refine wss_one (ws_ret (w_bin dop_mod (w_bin dop_fdiv (w_bin dop_mod (w_bin dop_mul (w_var 4 ((w_bin dop_add (w_bin dop_mod (w_var 4 ((w_int (⟨rfl, rfl, (by decide : (0 : Int) < 10007), (w_bin dop_mul (w_int ((w_ix (w_var 0 ((w_int (⟨rfl, rfl, _, rfl, ⟨rfl, rfl, ?mul3, ⟨rfl, rfl, ⟨rfl, rfl, ?mul4, (w_int (⟨rfl, rfl, (by decide : (0 : Int) < 2305843009213693921), (w_int (⟨rfl, rfl, ⟨by decide, by decide⟩, (w_var 1 (⟨rfl, rfl, hu0, ?ret8⟩))⟩))⟩))⟩⟩⟩⟩))))))))⟩)))))))))))))
        case mul3 => exact cmul_l (by decide) (by decide)
        case mul4 => exact cmul_l (Int.lt_of_lt_of_le (by decide) m0) (Int.lt_trans m1 (Int.lt_of_le_of_lt hp1 (by decide)))
        case ret8 => exact ⟨rfl, q _ _ _ _ ⟨ha, ⟨hb0, hb⟩, by omega, by omega⟩ (Int.emod_nonneg _ (by omega)) (Int.emod_lt_of_pos _ hu0)⟩
/-- what a draw from some things gives -/
def spOf : Spc := fun ts QT _ => ∃ (p : Addr) (n a b c : Int) (ds : List D) (t2 : T) (r2 : Option T), ts = [.lst p (potD a b c), t2] ∧ ((t2 = .va (.list ds) ∧ r2 = none) ∨ ∃ q, t2 = .lst q ds ∧ r2 = some (.lst q ds)) ∧ PotOk n a b c ∧ n ≤ 1000000 ∧ (0 < ds.length ∧ ds.length ≤ 100000) ∧
  ∀ a' b' c' d, PotOk (n + 1) a' b' c' → d ∈ ds → QT (.va d) [some (.lst p (potD a' b' c')), r2]
theorem at_pos {ds : List D} {d : Int} (h0 : 0 ≤ d) (h1 : d < ds.length) : ∃ y, atI ds d = some y ∧ y ∈ ds := by
  have hl : d.toNat < ds.length := by omega
  have e : ds[d.toNat]? = some ds[d.toNat] := List.getElem?_eq_getElem hl
  have ed : d = ((d.toNat : Nat) : Int) := by omega
  exact ⟨_, (congrArg (atI ds) ed).trans (atI_nat e), List.getElem_mem hl⟩
theorem g_of {f : Addr} {fd : FuncData} {k : Nat} (Fn : Fun K "_law_of" "_law_of" (topS 11) f fd) (G__law_take : Df P w K mg base (k + 1) "_law_take" ["_law_pot_here", "_law_upto"] spTake) (m_len : mg "len" = none) : FnG P w K mg base (k + 2) f fd ["_law_pot_here", "_law_some"] spOf := by
  refine fn_g Fn sc11 (fun ts Q E h => ?_) fun cdv A outer s H E Z ts QT ET hr hgd hp tk h => ?_
  · obtain ⟨p, n, a, b, c, ds, t2, r2, rfl, _⟩ := h
    rfl
  · obtain ⟨p, n, a, b, c, ds, t2, r2, rfl, h2, hpot, hn, ⟨hl0, hl⟩, q⟩ := h
    rcases h2 with ⟨rfl, rfl⟩ | ⟨z, rfl, rfl⟩
    · refine wss_one (ws_ret (w_ix (w_var 1 ((w_fn G__law_take hr hgd ⟨rfl, (w_var 0 (⟨rfl, (w_callB dc_len m_len rfl ⟨rfl, (w_var 1 (⟨rfl, ?call1⟩))⟩)⟩))⟩)))))
      refine ⟨rfl, p, n, a, b, c, (ds.length : Int), rfl, hpot, hn, ⟨by omega, by omega⟩, fun a' b' c' d hpot' h0 h1 => ?_⟩
      obtain ⟨y, hy, hm⟩ := at_pos h0 h1
      exact ⟨rfl, rfl, rfl, rfl, y, hy, rfl, q _ _ _ _ hpot' hm⟩
    · refine wss_one (ws_ret (w_ix (w_var 1 ((w_fn G__law_take hr hgd ⟨rfl, (w_var 0 (⟨rfl, (w_callB dc_len m_len rfl ⟨rfl, (w_var 1 (⟨rfl, ?call2⟩))⟩)⟩))⟩)))))
      refine ⟨rfl, p, n, a, b, c, (ds.length : Int), rfl, hpot, hn, ⟨by omega, by omega⟩, fun a' b' c' d hpot' h0 h1 => ?_⟩
      obtain ⟨y, hy, hm⟩ := at_pos h0 h1
      exact ⟨rfl, rfl, rfl, rfl, y, hy, rfl, rfl, q _ _ _ _ hpot' hm⟩
end
end K1

namespace K1
open PySem PySem.Spec PyProof.Rows L2 QL
theorem sc3 : FnScope ["value"] ["value"] (defScope (topS 3)) := ⟨rfl, rfl, rfl, by decide +kernel, rfl, by decide +kernel, by decide +kernel⟩
theorem sc4 : FnScope ["value", "least", "most"] ["value", "least", "most"] (defScope (topS 4)) := ⟨rfl, rfl, rfl, by decide +kernel, rfl, by decide +kernel, by decide +kernel⟩
theorem sc5 : FnScope ["value"] ["value"] (defScope (topS 5)) := ⟨rfl, rfl, rfl, by decide +kernel, rfl, by decide +kernel, by decide +kernel⟩
theorem sc6 : FnScope ["width", "value", "word"] ["width", "value"] (defScope (topS 6)) := ⟨rfl, rfl, rfl, by decide +kernel, rfl, by decide +kernel, by decide +kernel⟩
theorem sc7 : FnScope ["width", "value"] ["width", "value"] (defScope (topS 7)) := ⟨rfl, rfl, rfl, by decide +kernel, rfl, by decide +kernel, by decide +kernel⟩
theorem sc13 : FnScope ["_law_thing", "_law_least", "_law_most"] ["_law_thing", "_law_least", "_law_most"] (defScope (topS 13)) := ⟨rfl, rfl, rfl, by decide +kernel, rfl, by decide +kernel, by decide +kernel⟩
theorem sc14 : FnScope ["_law_wide", "_law_thing", "_law_one"] ["_law_wide", "_law_thing"] (defScope (topS 14)) := ⟨rfl, rfl, rfl, by decide +kernel, rfl, by decide +kernel, by decide +kernel⟩
/-! what is asked, over data -/
def isI : D → Bool
  | .int _ => true
  | _ => false
def btw (d : D) (lo hi : Int) : Bool := match d with
  | .int i => decide (lo ≤ i) && decide (i ≤ hi)
  | _ => false
def wordsB (wd : Int) (d : D) : Bool := match d with
  | .tuple ds => ds.all fun x => btw x 1 wd
  | _ => false
def textB (wd : Int) (d : D) : Bool := match d with
  | .tuple ds => (ds.all fun x => btw x 1 wd) && decide (ds.length ≤ 300)
  | _ => false
theorem isB_int (d : D) : isB d "int" = true → (!isB d "bool") = isI d := by cases d <;> simp [isB, tyD, isI]
theorem isB_int0 (d : D) : isB d "int" = false → isI d = false := by cases d <;> simp [isB, tyD, isI]
theorem isB_tup (d : D) : isB d "tuple" = true → ∃ ds, d = .tuple ds := by cases d <;> simp [isB, tyD]
theorem isB_tup0 (d : D) (wd : Int) : isB d "tuple" = false → wordsB wd d = false ∧ textB wd d = false := by cases d <;> simp [isB, tyD, wordsB, textB]
theorem isI_int (d : D) : isI d = true → ∃ i, d = .int i := by cases d <;> simp [isI]
theorem btw_no (d : D) (lo hi : Int) : isI d = false → btw d lo hi = false := by cases d <;> simp [isI, btw]
section
variable {P : Program} {w : World} {K : PySem.W.Frag} {mg : Str → Option Value} {base : Heap}
def spIsI : Spc := fun ts QT _ => ∃ d, ts = [.va d] ∧ QT (.va (.bool (isI d))) [none]
theorem g_isI {f : Addr} {fd : FuncData} {k : Nat} (Fn : Fun K "is_integer" "is_integer" (topS 3) f fd) (m_isi : mg "isinstance" = none) (m_int : mg "int" = none) (m_bool : mg "bool" = none) : FnG P w K mg base (k + 1) f fd ["value"] spIsI := by
  refine fn_g Fn sc3 (fun ts Q E h => ?_) fun cdv A outer s H E Z ts QT ET hr hgd hp tk h => ?_
  · obtain ⟨d, rfl, _⟩ := h
    rfl
  · obtain ⟨d, rfl, q⟩ := h
    refine wss_one (ws_ret (w_and (w_isi (w_var 0 (⟨rfl, ⟨_, rfl, fun h => (w_one (w_not (w_isi (w_var 0 (⟨rfl, ⟨_, rfl, ?ret1a⟩⟩)) kit_bool m_isi m_bool rfl))), fun h => ?short1b⟩⟩)) kit_int m_isi m_int rfl)))
    · have e := isB_int d h
      show QT (.va (.bool (!isB d "bool"))) [none]
      rw [e]
      exact q
    · have e := isB_int0 d h
      rw [e] at q
      exact q
def spBtw : Spc := fun ts QT _ => ∃ d lo hi, ts = [.va d, .va (.int lo), .va (.int hi)] ∧ QT (.va (.bool (btw d lo hi))) [none, none, none]
theorem g_btw {f : Addr} {fd : FuncData} {k : Nat} (Fn : Fun K "is_between" "is_between" (topS 4) f fd) (G_is_integer : Df P w K mg base (k + 1) "is_integer" ["value"] spIsI) : FnG P w K mg base (k + 2) f fd ["value", "least", "most"] spBtw := by
  refine fn_g Fn sc4 (fun ts Q E h => ?_) fun cdv A outer s H E Z ts QT ET hr hgd hp tk h => ?_
  · obtain ⟨d, lo, hi, rfl, _⟩ := h
    rfl
  · obtain ⟨d, lo, hi, rfl, q⟩ := h
    refine wss_one (ws_ret (w_and (w_fn G_is_integer hr hgd ⟨rfl, (w_var 0 (?call1a))⟩)))
    refine ⟨d, rfl, ⟨_, rfl, fun h => ?yes, fun h => ?no⟩⟩
    case no =>
      rw [btw_no d lo hi h] at q
      exact q
    case yes =>
      obtain ⟨i, rfl⟩ := isI_int d h
      · clear h
        refine (w_one (w_chain dop_le dop_le (w_var 1 ((w_var 0 (⟨rfl, rfl, _, rfl, fun h => (w_var 2 (⟨rfl, rfl, ?ret1b⟩)), fun h => ?short1c⟩))))))
        · have e : btw (.int i) lo hi = decide (i ≤ hi) := by
            show (decide (lo ≤ i) && decide (i ≤ hi)) = _
            rw [show decide (lo ≤ i) = true from h, Bool.true_and]
          rw [e] at q
          exact q
        · have e : btw (.int i) lo hi = false := by
            show (decide (lo ≤ i) && decide (i ≤ hi)) = _
            rw [show decide (lo ≤ i) = false from h, Bool.false_and]
          rw [e] at q
          exact q
theorem g_lawInt {f : Addr} {fd : FuncData} {k : Nat} (Fn : Fun K "_law_is_int" "_law_is_int" (topS 13) f fd) (m_isi : mg "isinstance" = none) (m_int : mg "int" = none) (m_bool : mg "bool" = none) : FnG P w K mg base (k + 1) f fd ["_law_thing", "_law_least", "_law_most"] spBtw := by
  refine fn_g Fn sc13 (fun ts Q E h => ?_) fun cdv A outer s H E Z ts QT ET hr hgd hp tk h => ?_
  · obtain ⟨d, lo, hi, rfl, _⟩ := h
    rfl
  · obtain ⟨d, lo, hi, rfl, q⟩ := h
    refine wss_one (ws_ret (w_and (w_isi (w_var 0 (⟨rfl, ⟨_, rfl, fun h => (w_and (w_not (w_isi (w_var 0 (⟨rfl, ⟨_, rfl, ⟨_, rfl, fun h => ?yes, fun h => ?short1c⟩⟩⟩)) kit_bool m_isi m_bool rfl))), fun h => ?short1d⟩⟩)) kit_int m_isi m_int rfl)))
    case short1d =>
      rw [btw_no d lo hi (isB_int0 d h)] at q
      exact q
    case short1c =>
      rename_i h1
      rw [btw_no d lo hi ((isB_int d h1).symm.trans h)] at q
      exact q
    case yes =>
      rename_i h1
      obtain ⟨i, rfl⟩ := isI_int d ((isB_int d h1).symm.trans h)
      refine (w_one (w_chain dop_le dop_le (w_var 1 ((w_var 0 (⟨rfl, rfl, _, rfl, fun h => (w_var 2 (⟨rfl, rfl, ?ret1a⟩)), fun h => ?short1b⟩))))))
      · have e : btw (.int i) lo hi = decide (i ≤ hi) := by
          show (decide (lo ≤ i) && decide (i ≤ hi)) = _
          rw [show decide (lo ≤ i) = true from h, Bool.true_and]
        rw [e] at q
        exact q
      · have e : btw (.int i) lo hi = false := by
          show (decide (lo ≤ i) && decide (i ≤ hi)) = _
          rw [show decide (lo ≤ i) = false from h, Bool.false_and]
        rw [e] at q
        exact q
end
end K1

namespace K1
open PySem PySem.Spec PyProof.Rows L2 QL
section
variable {P : Program} {w : World} {K : PySem.W.Frag} {mg : Str → Option Value} {base : Heap}
def spWidth : Spc := fun ts QT _ => ∃ d, ts = [.va d] ∧ QT (.va (.bool (btw d 1 1000000000))) [none]
theorem g_width {f : Addr} {fd : FuncData} {k : Nat} {t : Tok} (Fn : Fun K "is_width" "is_width" (topS 5) f fd) (G_is_between : Df P w K mg base (k + 2) "is_between" ["value", "least", "most"] spBtw) (m_mw : mg "MOST_WIDTH" = some (.int 1000000000 t)) : FnG P w K mg base (k + 3) f fd ["value"] spWidth := by
  refine fn_g Fn sc5 (fun ts Q E h => ?_) fun cdv A outer s H E Z ts QT ET hr hgd hp tk h => ?_
  · obtain ⟨d, rfl, _⟩ := h
    rfl
  · obtain ⟨d, rfl, q⟩ := h
    exact wss_one (ws_ret (w_fn G_is_between hr hgd ⟨rfl, (w_var 0 (⟨rfl, (w_int (⟨rfl, (w_glob (v := .int 1000000000) (d := .int 1000000000) m_mw ⟨t, rfl⟩ (fun _ => .int _) ⟨d, 1, 1000000000, rfl, q⟩)⟩))⟩))⟩))
/-- what is_text and its parts ask; the thing is not too long -/
def notLong (d : D) : Prop := match d with
  | .tuple ds => ds.length ≤ 2000
  | _ => True
def spWords : Spc := fun ts QT _ => ∃ wd d, ts = [.va (.int wd), .va d] ∧ notLong d ∧ QT (.va (.bool (wordsB wd d))) [none, none]
theorem g_words {f : Addr} {fd : FuncData} {k : Nat} (Fn : Fun K "are_words" "are_words" (topS 6) f fd) (G_is_between : Df P w K mg base (k + 2) "is_between" ["value", "least", "most"] spBtw) (m_isi : mg "isinstance" = none) (m_tuple : mg "tuple" = none) (m_all : mg "all" = none) : FnG P w K mg base (k + 3) f fd ["width", "value"] spWords := by
  refine fn_g Fn sc6 (fun ts Q E h => ?_) fun cdv A outer s H E Z ts QT ET hr hgd hp tk h => ?_
  · obtain ⟨wd, d, rfl, _⟩ := h
    rfl
  · obtain ⟨wd, d, rfl, hn, q⟩ := h
    refine wss_one (ws_ret (w_and (w_isi (w_var 1 (⟨rfl, ⟨_, rfl, fun h => ?yes, fun h => ?no⟩⟩)) kit_tuple m_isi m_tuple rfl)))
    case no =>
      rw [(isB_tup0 d wd h).1] at q
      exact q
    case yes =>
      obtain ⟨ds, rfl⟩ := isB_tup d h
      have hl : ds.length ≤ 2000 := hn
      refine w_one (w_callB (dc_all rfl) m_all rfl ⟨rfl, w_lc (own := [("word", 2)]) rfl sc6.nd (blkOk_by (N := ["width", "value", "word"]) (sc := defScope (topS 6)) (by decide +kernel)) (fun _ _ _ _ _ => pg_name (i := 2) sc6.nd rfl (Or.inl rfl)) (gok_name 2) (by decide) (wi_tup (w_var 1 ?lc))⟩)
      refine ⟨fun j acc e => acc = ((ds.take j).map fun x => btw x 1 wd).map PyData.bool ∧ e = [some (.va (.int wd)), some (.va (.tuple ds)), none], ⟨rfl, rfl⟩, ?_, ?_⟩
      · rintro j x acc e hd ⟨rfl, rfl⟩
        have hj := (List.getElem?_eq_some_iff.mp hd).1
        refine ⟨Nat.lt_of_sub_eq_succ rfl, fun _ => ?_, fun z => nomatch z⟩
        intro s2 H2 C cl fp
        refine w_fn G_is_between hr hgd ⟨rfl, w_var 2 ⟨rfl, w_int ⟨rfl, w_var 0 ⟨x, 1, wd, rfl, ?_, ?_, rfl⟩⟩⟩⟩
        · rw [List.length_map, List.length_map, List.length_take]
          exact small2000 (by omega)
        · rw [List.take_add_one, hd]
          simp only [List.map_append]
          rfl
      · rintro acc e ⟨rfl, rfl⟩ p
        refine ⟨rfl, (ds.take ds.length).map fun x => btw x 1 wd, rfl, ?_⟩
        have e : ((ds.take ds.length).map fun x => btw x 1 wd).all id = wordsB wd (.tuple ds) := by
          rw [List.take_length, List.all_map]
          rfl
        show QT (.va (.bool (((ds.take ds.length).map fun x => btw x 1 wd).all id))) [none, none]
        rw [e]
        exact q
def spText : Spc := fun ts QT _ => ∃ wd d, ts = [.va (.int wd), .va d] ∧ notLong d ∧ QT (.va (.bool (textB wd d))) [none, none]
theorem g_text {f : Addr} {fd : FuncData} {k : Nat} {t : Tok} (Fn : Fun K "is_text" "is_text" (topS 7) f fd) (G_are_words : Df P w K mg base (k + 3) "are_words" ["width", "value"] spWords) (m_len : mg "len" = none) (m_mw : mg "MOST_WORDS" = some (.int 300 t)) : FnG P w K mg base (k + 4) f fd ["width", "value"] spText := by
  refine fn_g Fn sc7 (fun ts Q E h => ?_) fun cdv A outer s H E Z ts QT ET hr hgd hp tk h => ?_
  · obtain ⟨wd, d, rfl, _⟩ := h
    rfl
  · obtain ⟨wd, d, rfl, hn, q⟩ := h
    refine wss_one (ws_ret (w_and (w_fn G_are_words hr hgd ⟨rfl, (w_var 0 (⟨rfl, (w_var 1 (?call1a))⟩))⟩)))
    refine ⟨wd, d, rfl, hn, ⟨_, rfl, fun h => ?yes, fun h => ?no⟩⟩
    case no =>
      have e : textB wd d = false := by
        cases d with
        | tuple ds =>
          have h : (ds.all fun x => btw x 1 wd) = false := h
          show ((ds.all fun x => btw x 1 wd) && decide (ds.length ≤ 300)) = false
          rw [h, Bool.false_and]
        | _ => rfl
      rw [e] at q
      exact q
    case yes =>
      have hd : ∃ ds, d = .tuple ds := by
        cases d with
        | tuple ds => exact ⟨ds, rfl⟩
        | _ => exact Bool.noConfusion h
      obtain ⟨ds, rfl⟩ := hd
      refine (w_one (w_cmp dop_le (w_callB dc_len m_len rfl ⟨rfl, (w_var 1 (⟨rfl, (w_glob (v := .int 300) (d := .int 300) m_mw ⟨t, rfl⟩ (fun _ => .int _) (⟨rfl, rfl, ?ret1b⟩))⟩))⟩)))
      have e : textB wd (.tuple ds) = decide ((ds.length : Int) ≤ 300) := by
        have h : (ds.all fun x => btw x 1 wd) = true := h
        show ((ds.all fun x => btw x 1 wd) && decide (ds.length ≤ 300)) = _
        rw [h, Bool.true_and]
        by_cases z : ds.length ≤ 300
        · rw [decide_eq_true z, decide_eq_true (by omega)]
        · rw [decide_eq_false z, decide_eq_false (by omega)]
      rw [e] at q
      exact q
theorem g_row {f : Addr} {fd : FuncData} {k : Nat} (Fn : Fun K "_law_is_row" "_law_is_row" (topS 14) f fd) (G__law_is_int : Df P w K mg base (k + 1) "_law_is_int" ["_law_thing", "_law_least", "_law_most"] spBtw) (m_isi : mg "isinstance" = none) (m_tuple : mg "tuple" = none) (m_all : mg "all" = none) (m_len : mg "len" = none) : FnG P w K mg base (k + 2) f fd ["_law_wide", "_law_thing"] spText := by
  refine fn_g Fn sc14 (fun ts Q E h => ?_) fun cdv A outer s H E Z ts QT ET hr hgd hp tk h => ?_
  · obtain ⟨wd, d, rfl, _⟩ := h
    rfl
  · obtain ⟨wd, d, rfl, hn, q⟩ := h
    refine wss_one (ws_ret (w_and (w_isi (w_var 1 (⟨rfl, ⟨_, rfl, fun h => ?yes, fun h => ?no⟩⟩)) kit_tuple m_isi m_tuple rfl)))
    case no =>
      rw [(isB_tup0 d wd h).2] at q
      exact q
    case yes =>
      obtain ⟨ds, rfl⟩ := isB_tup d h
      have hl : ds.length ≤ 2000 := hn
      refine (w_and (w_cmp dop_le (w_callB dc_len m_len rfl ⟨rfl, (w_var 1 (⟨rfl, (w_int (⟨rfl, rfl, ⟨_, rfl, fun h2 => ?yes2, fun h2 => ?no2⟩⟩))⟩))⟩)))
      case no2 =>
        have e : textB wd (.tuple ds) = false := by
          have h2 := of_decide_eq_false h2
          show ((ds.all fun x => btw x 1 wd) && decide (ds.length ≤ 300)) = false
          rw [decide_eq_false (show ¬ ds.length ≤ 300 by omega), Bool.and_false]
        rw [e] at q
        exact q
      case yes2 =>
        refine w_one (w_callB (dc_all rfl) m_all rfl ⟨rfl, w_lc (own := [("_law_one", 2)]) rfl sc14.nd (blkOk_by (N := ["_law_wide", "_law_thing", "_law_one"]) (sc := defScope (topS 14)) (by decide +kernel)) (fun _ _ _ _ _ => pg_name (i := 2) sc14.nd rfl (Or.inl rfl)) (gok_name 2) (by decide) (wi_tup (w_var 1 ?lc))⟩)
        refine ⟨fun j acc e => acc = ((ds.take j).map fun x => btw x 1 wd).map PyData.bool ∧ e = [some (.va (.int wd)), some (.va (.tuple ds)), none], ⟨rfl, rfl⟩, ?_, ?_⟩
        · rintro j x acc e hd ⟨rfl, rfl⟩
          have hj := (List.getElem?_eq_some_iff.mp hd).1
          refine ⟨Nat.lt_of_sub_eq_succ rfl, fun _ => ?_, fun z => nomatch z⟩
          intro s2 H2 C cl fp
          refine w_fn G__law_is_int hr hgd ⟨rfl, w_var 2 ⟨rfl, w_int ⟨rfl, w_var 0 ⟨x, 1, wd, rfl, ?_, ?_, rfl⟩⟩⟩⟩
          · rw [List.length_map, List.length_map, List.length_take]
            exact small2000 (by omega)
          · rw [List.take_add_one, hd]
            simp only [List.map_append]
            rfl
        · rintro acc e ⟨rfl, rfl⟩ p
          refine ⟨rfl, (ds.take ds.length).map fun x => btw x 1 wd, rfl, ?_⟩
          have e : ((ds.take ds.length).map fun x => btw x 1 wd).all id = textB wd (.tuple ds) := by
            have h2 := of_decide_eq_true h2
            show _ = ((ds.all fun x => btw x 1 wd) && decide (ds.length ≤ 300))
            rw [decide_eq_true (show ds.length ≤ 300 by omega), Bool.and_true, List.take_length, List.all_map]
            rfl
          show QT (.va (.bool (((ds.take ds.length).map fun x => btw x 1 wd).all id))) [none, none]
          rw [e]
          exact q
end
end K1

namespace K1
open PySem PySem.Spec PyProof.Rows L2 QL
theorem sc12 : FnScope ["_law_pot_here", "_law_some", "_law_found", "_law_turn"] ["_law_pot_here"] (defScope (topS 12)) := ⟨rfl, rfl, rfl, by decide +kernel, rfl, by decide +kernel, by decide +kernel⟩
theorem PotOk.le {n m a b c : Int} (h : PotOk n a b c) (l : n ≤ m) : PotOk m a b c := ⟨h.1, h.2.1, h.2.2.1, Int.le_trans h.2.2.2 l⟩
/-- a value of any kind, as drawn -/
structure Odd (n : Nat) (d : D) : Prop where
  sh : Short (2 + n) (100 + 3 * n) d
  nl : notLong d
def oddB (d : D) : Bool := okD d && decide (d.depth ≤ 2) && decide (d.weight ≤ 100) && (match d with | .tuple ds => decide (ds.length ≤ 2000) | _ => true)
theorem odd_of {d : D} (h : oddB d = true) : Odd 0 d := by
  unfold oddB at h
  simp only [Bool.and_eq_true, decide_eq_true_eq] at h
  obtain ⟨⟨⟨h1, h2⟩, h3⟩, h4⟩ := h
  refine ⟨⟨h1, h2, h3⟩, ?_⟩
  cases d with
  | tuple ds => exact (show ds.length ≤ 2000 from of_decide_eq_true h4)
  | _ => trivial
abbrev oddL : List D := ([.none, .bool true, .bool false, .int (-1), .int 0, .int 1, .int (10 ^ (20 : Int).toNat), .str "", .str "1", .str "a", .tuple [], .list [], .dict [], .tuple [.int 0], .list [.int 1], .tuple [.int 1, .int 1], .tuple [.bool true], .tuple [.tuple [.int 1]]] : List D)
section
variable {P : Program} {w : World} {K : PySem.W.Frag} {mg : Str → Option Value} {base : Heap}
def spOdd : Spc := fun ts QT _ => ∃ (p : Addr) (n a b c : Int), ts = [.lst p (potD a b c)] ∧ PotOk n a b c ∧ n ≤ 900000 ∧ ∀ a' b' c' d, PotOk (n + 20) a' b' c' → Odd 9 d → QT (.va d) [some (.lst p (potD a' b' c'))]
theorem items_odd : ∀ d ∈ oddL, Odd 0 d := fun d hd =>
  odd_of (List.all_eq_true.mp (by decide +kernel : oddL.all oddB = true) d hd)
theorem g_odd {f : Addr} {fd : FuncData} {k : Nat} (Fn : Fun K "_law_odd" "_law_odd" (topS 12) f fd) (G__law_of : Df P w K mg base (k + 2) "_law_of" ["_law_pot_here", "_law_some"] spOf) (m_range : mg "range" = none) : FnG P w K mg base (k + 3) f fd ["_law_pot_here"] spOdd := by
  refine fn_g Fn sc12 (fun ts Q E h => ?_) fun cdv A outer s H E Z ts QT ET hr hgd hp tk h => ?_
  · obtain ⟨p, n, a, b, c, rfl, _⟩ := h
    rfl
  · obtain ⟨pt, n, a, b, c, rfl, hpot, hn, q⟩ := h
    have z1 : ∀ m, m ≤ 2000 → m ≤ sizeLine := fun m h => Nat.le_of_lt (small2000 h)
    refine wss_cons (ws_set 1 (w_lst ⟨rfl, (w_non (⟨rfl, (w_bl (⟨rfl, (w_bl (⟨rfl, (w_neg (w_int (⟨rfl, ⟨rfl, (w_int (⟨rfl, (w_int (⟨rfl, (w_bin dop_pow (w_int ((w_int (⟨rfl, rfl, .inl ⟨by decide, by decide, by decide⟩, ⟨rfl, (w_str (⟨rfl, (w_str (⟨rfl, (w_str (⟨rfl, (w_tup ⟨Nat.zero_le _, ⟨rfl, (w_lst ⟨Nat.zero_le _, fun p => ⟨rfl, (w_dict0 fun p => ⟨rfl, (w_tup ⟨rfl, (w_int (⟨z1 1 (by decide), ⟨rfl, (w_lst ⟨rfl, (w_int (⟨z1 1 (by decide), fun p => ⟨rfl, (w_tup ⟨rfl, (w_int (⟨rfl, (w_int (⟨z1 2 (by decide), ⟨rfl, (w_tup ⟨rfl, (w_bl (⟨z1 1 (by decide), ⟨rfl, (w_tup ⟨rfl, (w_tup ⟨rfl, (w_int (⟨z1 1 (by decide), ⟨z1 1 (by decide), ⟨z1 18 (by decide), fun p1 => ⟨Nat.lt_of_sub_eq_succ rfl, ?nx1k⟩⟩⟩⟩))⟩)⟩)⟩⟩))⟩)⟩⟩))⟩))⟩)⟩⟩))⟩)⟩⟩))⟩)⟩)⟩⟩)⟩⟩)⟩))⟩))⟩))⟩⟩)))))⟩))⟩))⟩⟩)))⟩))⟩))⟩))⟩) sc12.nd)
    refine wss_cons (ws_set 2 (w_fn G__law_of hr hgd ⟨rfl, (w_var 0 (⟨rfl, (w_var 1 (?call2a))⟩))⟩) sc12.nd)
    refine ⟨rfl, rfl, pt, n, a, b, c, oddL, .lst p1 oddL, some (.lst p1 oddL), rfl, .inr ⟨p1, rfl, rfl⟩, hpot, by omega, ⟨Nat.succ_pos _, (by decide : 18 ≤ 100000)⟩, fun a1 b1 c1 d1 hpot1 hm1 => ⟨rfl, rfl, rfl, rfl, Nat.lt_of_sub_eq_succ rfl, ?nx2b⟩⟩
    have ho : Odd 0 d1 := items_odd d1 hm1
    refine wss_cons (ws_for hp rfl (pg_name (i := 3) sc12.nd rfl (.inl rfl)) (gok_name 3) (wi_range1 m_range ⟨rfl, w_fn G__law_of hr hgd ⟨rfl, (w_var 0 (⟨rfl, (w_lst ⟨rfl, (w_int ⟨rfl, (w_int ⟨rfl, (w_int ⟨rfl, (w_int ⟨rfl, (w_int ⟨rfl, (w_int ⟨z1 6 (by decide), fun p2 => ?call3⟩)⟩)⟩)⟩)⟩)⟩)⟩)⟩))⟩⟩))
    refine ⟨rfl, pt, n + 1, a1, b1, c1, _, _, none, rfl, .inl ⟨rfl, rfl⟩, hpot1, by omega, ⟨Nat.succ_pos _, (by decide : 6 ≤ 100000)⟩, fun a2 b2 c2 dt hpot2 hm2 => ⟨rfl, rfl, ?nx3⟩⟩
    obtain ⟨m, rfl, hm9⟩ : ∃ m : Nat, dt = .int (m : Int) ∧ m ≤ 9 := by
      simp only [List.mem_cons, List.not_mem_nil, or_false] at hm2
      rcases hm2 with e | e | e | e | e | e
      · exact ⟨0, e, by decide⟩
      · exact ⟨0, e, by decide⟩
      · exact ⟨0, e, by decide⟩
      · exact ⟨1, e, by decide⟩
      · exact ⟨2, e, by decide⟩
      · exact ⟨9, e, by decide⟩
    refine ⟨rfl, ⟨by omega, by omega⟩, ?_⟩
    have hmt : ((m : Int)).toNat = m := Int.toNat_natCast m
    refine ⟨fun j e => ∃ x y z o1 d o3, PotOk (n + 2 + j) x y z ∧ Odd j d ∧ e = [some (.lst pt (potD x y z)), o1, some (.va d), o3], ⟨a2, b2, c2, _, d1, none, hpot2.le (by omega), ho, rfl⟩, ?turn, ?done⟩
    case done =>
      rintro e ⟨x, y, z, o1, d, o3, hp1, hd1, rfl⟩
      rw [rangeD_len, hmt] at hp1 hd1
      exact wss_one (ws_ret (w_var 2 ⟨rfl, q _ _ _ _ (hp1.le (by omega)) ⟨hd1.sh.le (by omega) (by omega), hd1.nl⟩⟩))
    case turn =>
      rintro j d e hd ⟨x, y, z, o1, d2, o3, hp1, hd1, rfl⟩
      obtain ⟨rfl, hj⟩ := rangeD_at hd
      rw [hmt] at hj
      refine ⟨Nat.lt_of_sub_eq_succ rfl, ?_⟩
      refine wss_one (ws_set 2 (w_fn G__law_of hr hgd ⟨rfl, (w_var 0 (⟨rfl, (w_lst ⟨rfl, (w_tup ⟨rfl, (w_var 2 (⟨z1 1 (by decide), ⟨rfl, (w_lst ⟨rfl, (w_var 2 (⟨z1 1 (by decide), fun p => ⟨rfl, (w_dict1 (w_var 2 (⟨_, rfl, fun p => ⟨z1 3 (by decide), fun p => ?call4d⟩⟩)))⟩⟩))⟩)⟩⟩))⟩)⟩)⟩))⟩) sc12.nd)
      refine ⟨rfl, pt, _, x, y, z, _, _, none, rfl, .inl ⟨rfl, rfl⟩, hp1, by omega, ⟨Nat.succ_pos _, (by decide : 3 ≤ 100000)⟩, fun x1 y1 z1' d3 hp2 hm3 => ⟨rfl, rfl, Nat.lt_of_sub_eq_succ rfl, x1, y1, z1', _, d3, _, hp2.le (by omega), ?_, rfl⟩⟩
      have hsh := hd1.sh
      rcases List.mem_cons.mp hm3 with e | hm3
      · rw [e]
        exact ⟨hsh.tup1.le (by omega) (by omega), (by decide : 1 ≤ 2000)⟩
      rcases List.mem_cons.mp hm3 with e | hm3
      · rw [e]
        exact ⟨hsh.lst1.le (by omega) (by omega), trivial⟩
      · rw [List.mem_singleton.mp hm3]
        exact ⟨(hsh.dic1 (x := "a") (by decide +kernel) (by decide +kernel)).le (by omega) (by omega), trivial⟩
end
end K1

namespace K1
open PySem PySem.Spec PyProof.Rows L2 QL
theorem row_text (ns : List Int) : okD (.str (PyData.shown (.tuple (iDs ns)))) = true := by
  simp only [okD, List.all_eq_true, decide_eq_true_eq]
  intro c hc
  rw [PyData.shown_tuple, mem_cps_append, mem_cps_append, mem_join] at hc
  rcases hc with (hm | (⟨t, ht, hc⟩ | ⟨_, hm⟩)) | hm
  · rw [signs_lparen] at hm
    rw [List.mem_singleton.mp hm]; decide
  · by_cases z : c < 16 ^ 8
    · exact z
    · refine absurd hc (shownAll_free (k := c) (xs := iDs ns) (fun x hx => ?_) t ht)
      obtain ⟨i, _, rfl⟩ := List.mem_map.mp hx
      exact shown_int_free' ⟨by omega, by omega⟩ i
  · rw [signs_sep] at hm
    simp only [List.mem_cons, List.not_mem_nil, or_false] at hm
    omega
  · split at hm
    · have e : ((",)" : String) : Str).cps.toList = [44, 41] := by decide
      rw [e] at hm
      simp only [List.mem_cons, List.not_mem_nil, or_false] at hm
      omega
    · have e : ((")" : String) : Str).cps.toList = [41] := by decide
      rw [e] at hm
      simp only [List.mem_cons, List.not_mem_nil, or_false] at hm
      omega
theorem okA_of {ds : List D} (h : ∀ d ∈ ds, okD d = true) : okA ds = true := by
  induction ds with
  | nil => rfl
  | cons d ds ih => simp only [okA, h d List.mem_cons_self, ih fun x hx => h x (List.mem_cons_of_mem _ hx), Bool.and_self]
theorem depthA_of {n : Nat} {ds : List D} (h : ∀ d ∈ ds, d.depth ≤ n) : PyData.depthAll ds ≤ n := by
  induction ds with
  | nil => exact Nat.zero_le _
  | cons d ds ih =>
    have h1 := h d List.mem_cons_self
    have h2 := ih fun x hx => h x (List.mem_cons_of_mem _ hx)
    simp only [PyData.depthAll]
    omega
theorem weightA_of {w : Nat} {ds : List D} (h : ∀ d ∈ ds, d.weight ≤ w) : PyData.weightAll ds ≤ (w + 1) * ds.length := by
  induction ds with
  | nil => exact Nat.zero_le _
  | cons d ds ih =>
    have h1 := h d List.mem_cons_self
    have h2 := ih fun x hx => h x (List.mem_cons_of_mem _ hx)
    simp only [PyData.weightAll, List.length_cons, Nat.mul_add, Nat.mul_one]
    omega
theorem short_tup {n w : Nat} {ds : List D} (h : ∀ d ∈ ds, Short n w d) : Short (n + 1) ((w + 1) * ds.length) (.tuple ds) := by
  have h1 := depthA_of fun d hd => (h d hd).dp
  exact ⟨by simp only [okD]; exact okA_of fun d hd => (h d hd).ok, by simp only [PyData.depth]; omega, by simp only [PyData.weight]; exact weightA_of fun d hd => (h d hd).wt⟩
theorem short_lst {n w : Nat} {ds : List D} (h : ∀ d ∈ ds, Short n w d) : Short (n + 1) ((w + 1) * ds.length) (.list ds) := by
  have h1 := depthA_of fun d hd => (h d hd).dp
  exact ⟨by simp only [okD]; exact okA_of fun d hd => (h d hd).ok, by simp only [PyData.depth]; omega, by simp only [PyData.weight]; exact weightA_of fun d hd => (h d hd).wt⟩
theorem short_int {i : Int} (h : i.natAbs ≤ 2000000000) : Short 0 31 (.int i) := by
  have b : (2000000000 : Nat) < 2 ^ 200 := by decide
  refine ⟨by simp only [okD, decide_eq_true_eq]; omega, Nat.le_refl _, ?_⟩
  show (if i == 0 then 0 else i.natAbs.log2 + 1) ≤ 31
  split
  · exact Nat.zero_le _
  · have : i.natAbs.log2 < 31 := by
      by_cases z : i.natAbs = 0
      · rw [z]; decide
      · exact (Nat.log2_lt z).mpr (Nat.lt_of_le_of_lt h (by decide))
    omega
/-- a thing that is asked for -/
structure Thing (d : D) : Prop where
  sh : Short 30 20000 d
  nl : notLong d
/-- str(x) of a tuple without dicts -/
def strG0 (ds : List D) (k : T → Prop) : Prop := ∃ xs, ds = [.tuple xs] ∧ showOk0 (.tuple xs) ∧ k (.va (.str (PyData.shown (.tuple xs))))
theorem dc_str0 {X : Cx} (hg : X.A.guards = some []) (hu : X.A.units + 110 < cLine) : DCall X (.type "str") strG0 := fun pins s σ H F vs us ds k I sF ws rv ⟨d, e, ⟨nd, ok⟩, h⟩ => by
  subst e
  obtain ⟨v, rfl, w⟩ := ws.one
  obtain ⟨u, rfl, ru⟩ := rv.one
  have rp := w.rp sF
  obtain ⟨as, hr⟩ := rp.reads I ru nd
  cases rp with
  | tup _ _ =>
    cases ru
    exact str_of_reads hr ok.1 (PyData.noDict_hsm nd) hg (by have := ok.2.1; omega) (fun _ _ e => e) (fun h' u tk hk => ⟨.str _, H, I.kept hk, ⟨u, rfl⟩, NewV.val sF (.str _) h⟩) ok.2.2
end K1

namespace K1
open PySem PySem.Spec PyProof.Rows L2 QL
abbrev N15 : List Str := ["_law_pot_here", "_law_wide", "_law_row", "_law_turn", "_law_at", "_law_some", "_law_bent", "_law_found"]
theorem sc15 : FnScope N15 ["_law_pot_here", "_law_wide"] (defScope (topS 15)) := ⟨rfl, rfl, rfl, by decide +kernel, rfl, by decide +kernel, by decide +kernel⟩
theorem mem_cut {xs : List D} {lo hi : Option Int} {d : D} (h : d ∈ QL.cutD xs lo hi) : d ∈ xs := List.mem_of_mem_drop (List.mem_of_mem_take h)
theorem len_cut {xs : List D} {lo hi : Option Int} : (QL.cutD xs lo hi).length ≤ xs.length := by
  unfold QL.cutD
  rw [List.length_take, List.length_drop]
  omega
theorem bulk_ints : ∀ ws : List Int, PyData.bulkAll (iDs ws) ≤ ws.length
  | [] => Nat.zero_le _
  | w :: ws => by
    have := bulk_ints ws
    show 0 + 1 + PyData.bulkAll (iDs ws) ≤ ws.length + 1
    omega
theorem hasDict_ints (ws : List Int) : PyData.hasDict (.tuple (iDs ws)) = false := by
  show PyData.hasDictAll (iDs ws) = false
  induction ws with
  | nil => rfl
  | cons w ws ih => exact ih
section
variable {P : Program} {w : World} {K : PySem.W.Frag} {mg : Str → Option Value} {base : Heap}
def spRows : Spc := fun ts QT _ => ∃ (p : Addr) (n a b c wd : Int), ts = [.lst p (potD a b c), .va (.int wd)] ∧ PotOk n a b c ∧ n ≤ 800000 ∧ (1 ≤ wd ∧ wd ≤ 1000000000) ∧
  ∀ a' b' c' q ds, PotOk (n + 100) a' b' c' → (∀ d ∈ ds, Thing d) → ds.length ≤ 100 → QT (.lst q ds) [some (.lst p (potD a' b' c')), none]
theorem g_rows {f : Addr} {fd : FuncData} {k : Nat} (Fn : Fun K "_law_rows" "_law_rows" (topS 15) f fd) (Gt' : Df P w K mg base (k + 1) "_law_take" ["_law_pot_here", "_law_upto"] spTake) (Gf' : Df P w K mg base (k + 2) "_law_of" ["_law_pot_here", "_law_some"] spOf) (Go : Df P w K mg base (k + 3) "_law_odd" ["_law_pot_here"] spOdd)
    (m_tuple : mg "tuple" = none) (m_list : mg "list" = none) (m_len : mg "len" = none) (m_range : mg "range" = none) (m_str : mg "str" = none) : FnG P w K mg base (k + 4) f fd ["_law_pot_here", "_law_wide"] spRows := by
  have Gt := Gt'.mono (by omega : k + 1 ≤ k + 3)
  have Gf := Gf'.mono (by omega : k + 2 ≤ k + 3)
  refine fn_g Fn sc15 (fun ts Q E h => ?_) fun cdv A outer s H E Z ts QT ET hr hgd hp tk h => ?_
  · obtain ⟨p, n, a, b, c, wd, rfl, _⟩ := h
    rfl
  · obtain ⟨pt, n, a, b, c, wd, rfl, hpot, hn, ⟨hw1, hw2⟩, q⟩ := h
    have hu := room110 hr
    have zz : ∀ m, m ≤ 2000 → m ≤ sizeLine := fun m h => Nat.le_of_lt (small2000 h)
    have rest : ∀ (ws : List Int) x y z, ws.length ≤ 8 → (∀ v ∈ ws, 1 ≤ v ∧ v ≤ wd) → PotOk (n + 10) x y z → WSs Z (BX P w K mg base N15 "_law_rows" (topS 15) f cdv A outer s H E) ((defBody (topS 15)).drop 1) [some (.lst pt (potD x y z)), some (.va (.int wd)), some (.va (.tuple (iDs ws))), none, none, none, none, none] (finP QT [.lst pt (potD a b c), .va (.int wd)]) := by
      intro ws x y z hl hws hp1
      have lw : (iDs ws).length = ws.length := List.length_map _
      refine wss_cons (ws_par 4 5 rfl sc15.nd (w_fn Gt hr hgd ⟨rfl, (w_var 0 (⟨rfl, (w_bin dop_add (w_callB dc_len m_len rfl ⟨rfl, (w_var 2 (⟨rfl, (w_int (⟨rfl, rfl, ?call2a⟩))⟩))⟩))⟩))⟩))
      refine ⟨rfl, pt, n + 10, x, y, z, ((iDs ws).length : Int) + 1, rfl, hp1, by omega, ⟨by omega, by omega⟩, fun x1 y1 z1 at_ hp2 at0 at1 => ⟨rfl, rfl, _, rfl, (w_lst ⟨rfl, (w_int (⟨rfl, (w_neg (w_int (⟨rfl, ⟨rfl, (w_var 1 (⟨rfl, (w_bin dop_add (w_var 1 ((w_int (⟨rfl, rfl, ⟨rfl, (w_bl (⟨rfl, (w_str (⟨rfl, (w_non (⟨rfl, (w_int (⟨rfl, (w_fn Go hr hgd ⟨rfl, (w_var 0 (?call2b))⟩)⟩))⟩))⟩))⟩))⟩⟩)))))⟩))⟩⟩)))⟩))⟩)⟩⟩
      refine ⟨rfl, pt, n + 11, x1, y1, z1, rfl, hp2.le (by omega), by omega, fun x2 y2 z2 od hp3 hod => ⟨rfl, rfl, ⟨zz 9 (by decide), fun p5 => ⟨_, rfl, Nat.lt_of_sub_eq_succ rfl, Nat.lt_of_sub_eq_succ rfl, ?nx2d⟩⟩⟩⟩
      refine wss_cons (ws_set 6 (w_fn Gf hr hgd ⟨rfl, (w_var 0 (⟨rfl, (w_var 5 (?call3a))⟩))⟩) sc15.nd)
      refine ⟨rfl, rfl, pt, n + 31, x2, y2, z2, [.int 0, .int (-1), .int wd, .int (wd + 1), .bool true, .str "1", .none, .int 1, od], .lst p5 [.int 0, .int (-1), .int wd, .int (wd + 1), .bool true, .str "1", .none, .int 1, od], some (.lst p5 [.int 0, .int (-1), .int wd, .int (wd + 1), .bool true, .str "1", .none, .int 1, od]), rfl, .inr ⟨p5, rfl, rfl⟩, hp3.le (by omega), by omega, ⟨Nat.succ_pos _, (by decide : 9 ≤ 100000)⟩, fun x3 y3 z3 bent hp4 hm => ⟨rfl, rfl, rfl, rfl, Nat.lt_of_sub_eq_succ rfl, ?nx3⟩⟩
      have hb : Short 11 127 bent := by
        simp only [List.mem_cons, List.not_mem_nil, or_false] at hm
        have i0 : ∀ i : Int, i.natAbs ≤ 2000000000 → Short 11 127 (.int i) := fun i h => (short_int h).le (by decide) (by decide)
        rcases hm with e | e | e | e | e | e | e | e | e
        · rw [e]; exact i0 _ (by decide)
        · rw [e]; exact i0 _ (by decide)
        · rw [e]; exact i0 _ (by omega)
        · rw [e]; exact i0 _ (by omega)
        · rw [e]; exact ⟨rfl, by decide, by decide⟩
        · rw [e]; exact ⟨by decide +kernel, by decide, by decide +kernel⟩
        · rw [e]; exact ⟨rfl, by decide, by decide⟩
        · rw [e]; exact i0 _ (by decide)
        · rw [e]; exact hod.sh.le (by decide) (by decide)
      have hrow : ∀ d ∈ iDs ws, Short 11 127 d := fun d hd => by
        obtain ⟨i, hi, rfl⟩ := List.mem_map.mp hd
        have := hws i hi
        exact (short_int (by omega)).le (by decide) (by decide)
      have t1 : Short 12 1024 (.tuple (iDs ws)) := (short_tup hrow).le (by decide) (by omega)
      have many : ∀ (i : Int) (m : Int), i.natAbs ≤ 2000000000 → m.toNat ≤ 301 → Thing (.tuple (List.replicate m.toNat [PyData.int i]).flatten) := fun i m hi hm => by
        have hl2 : (List.replicate m.toNat [PyData.int i]).flatten.length = m.toNat := by simp
        refine ⟨(short_tup (n := 0) (w := 31) fun d hd => ?_).le (by decide) ?_, ?_⟩
        · obtain ⟨l, h1, h2⟩ := List.mem_flatten.mp hd
          rw [List.eq_of_mem_replicate h1] at h2
          rw [List.mem_singleton.mp h2]
          exact short_int hi
        · rw [hl2]; omega
        · show List.length _ ≤ 2000
          rw [hl2]; omega
      have c1 : (QL.cutD (iDs ws) none (some at_)).length ≤ 8 := Nat.le_trans len_cut (by omega)
      have c2 : (QL.cutD (iDs ws) (some at_) none).length ≤ 8 := Nat.le_trans len_cut (by omega)
      refine wss_cons (ws_set 7 (w_lst ⟨rfl, (w_var 2 (⟨rfl, (w_callTy dc_list m_list rfl ⟨rfl, (w_var 2 (⟨rfl, fun pa => ⟨rfl, (w_bin dop_add (w_bin dop_add (w_sl (w_var 2 ((w_var 4 (⟨_, rfl, ⟨rfl, (w_tup ⟨rfl, (w_var 6 (⟨zz 1 (by decide), ⟨rfl, rfl, ?szA, (w_sl (w_var 2 ((w_var 4 (⟨_, rfl, ⟨rfl, ⟨rfl, rfl, ?szB, ⟨zz 3 (by decide), fun p7 => ⟨Nat.lt_of_sub_eq_succ rfl, ?nx4⟩⟩⟩⟩⟩)))))⟩⟩))⟩)⟩⟩)))))))⟩⟩))⟩)⟩))⟩) sc15.nd)
      case szA => exact zz _ (by show _ + 1 ≤ 2000; omega)
      case szB => exact zz _ (by rw [List.length_append]; show _ + 1 + _ ≤ 2000; omega)
      case nx4 =>
        refine wss_cons (ws_set 7 (w_bin dop_add (w_var 7 (w_lst ?e5))) sc15.nd)
        refine ⟨rfl, w_tup ⟨rfl, w_var 2 ⟨zz 1 (by decide), ?e5b⟩⟩⟩
        refine ⟨rfl, w_lst ⟨rfl, w_var 2 ⟨zz 1 (by decide), fun pb => ?e5c⟩⟩⟩
        refine ⟨rfl, w_bin dop_add (w_var 2 (w_tup ⟨rfl, w_lst ⟨Nat.zero_le _, fun pc => ?e5d⟩⟩))⟩
        refine ⟨zz 1 (by decide), ⟨rfl, rfl, ?szC, ?e5e⟩⟩
        case szC => exact zz _ (by show (iDs ws).length + 1 ≤ 2000; omega)
        refine ⟨rfl, w_bin dop_mulT (w_tup ⟨rfl, w_var 1 ⟨zz 1 (by decide), w_int ?e5f⟩⟩)⟩
        refine ⟨rfl, rfl, ⟨List.cons_ne_nil _ _, (by decide : 1 ≤ 1000), (by decide), (by decide), ?e5g⟩⟩
        refine ⟨zz 4 (by decide), fun pd => ⟨rfl, rfl, ⟨zz 7 (by decide), fun pe => ?e5h⟩⟩⟩
        refine ⟨Nat.lt_of_sub_eq_succ rfl, ?nx5⟩
        refine wss_cons (ws_set 7 (w_bin dop_add (w_var 7 (w_lst ?e6))) sc15.nd)
        refine ⟨rfl, w_bin dop_mulT (w_tup ⟨rfl, w_int ⟨zz 1 (by decide), w_int ?e6a⟩⟩)⟩
        refine ⟨rfl, rfl, ⟨List.cons_ne_nil _ _, (by decide : 1 ≤ 1000), (by decide), (by decide), ?e6b⟩⟩
        refine ⟨rfl, w_bin dop_mulT (w_tup ⟨rfl, w_int ⟨zz 1 (by decide), w_int ?e6c⟩⟩)⟩
        refine ⟨rfl, rfl, ⟨List.cons_ne_nil _ _, (by decide : 1 ≤ 1000), (by decide), (by decide), ?e6d⟩⟩
        refine ⟨rfl, w_tup ⟨Nat.zero_le _, ?e6e⟩⟩
        refine ⟨rfl, w_lst ⟨Nat.zero_le _, fun pf => ?e6f⟩⟩
        refine ⟨rfl, w_tup ⟨rfl, w_bin dop_add (w_var 1 (w_int ⟨rfl, rfl, ⟨zz 1 (by decide), ?e6g⟩⟩))⟩⟩
        refine ⟨rfl, w_tup ⟨rfl, w_int ⟨zz 1 (by decide), ?e6h⟩⟩⟩
        refine ⟨rfl, w_tup ⟨rfl, w_bl ⟨zz 1 (by decide), ?e6i⟩⟩⟩
        refine ⟨rfl, w_var 1 ⟨rfl, w_callTy (dc_str0 hgd hu) m_str rfl ⟨rfl, w_var 2 ⟨rfl, ?e6j⟩⟩⟩⟩
        refine ⟨iDs ws, rfl, ?e6k, ?e6l⟩
        case e6k => exact ⟨hasDict_ints ws, t1.show_ (by decide) (by decide)⟩
        refine ⟨zz 9 (by decide), fun pg => ⟨rfl, rfl, ⟨zz 16 (by decide), fun ph => ?e6m⟩⟩⟩
        refine ⟨Nat.lt_of_sub_eq_succ rfl, ?nx6⟩
        refine wss_one (ws_ret (w_bin dop_add (w_var 7 (w_lst ⟨rfl, w_fn Go hr hgd ⟨rfl, w_var 0 ?c7a⟩⟩))))
        refine ⟨rfl, pt, n + 40, x3, y3, z3, rfl, hp4.le (by omega), by omega, fun x4 y4 z4 od1 hp5 hod1 => ⟨rfl, rfl, ?e7b⟩⟩
        refine ⟨rfl, w_fn Go hr hgd ⟨rfl, w_var 0 ?c7b⟩⟩
        refine ⟨rfl, pt, n + 60, x4, y4, z4, rfl, hp5.le (by omega), by omega, fun x5 y5 z5 od2 hp6 hod2 => ⟨rfl, rfl, ?e7c⟩⟩
        refine ⟨zz 2 (by decide), fun pi => ⟨rfl, rfl, ⟨zz 18 (by decide), fun pj => ?e7d⟩⟩⟩
        refine ⟨rfl, q x5 y5 z5 _ _ (hp6.le (by omega)) (fun d hd => ?e8) ?e9⟩
        case e9 => exact (by decide : 18 ≤ 100)
        case e8 =>
          simp only [List.mem_append, List.mem_cons, List.not_mem_nil, or_false] at hd
          rcases hd with ((((e | e | e) | (e | e | e | e)) | (e | e | e | e | e | e | e | e | e)) | (e | e)) <;> rw [e]
          · exact ⟨t1.le (by decide) (by decide), show (iDs ws).length ≤ 2000 by omega⟩
          · exact ⟨(short_lst hrow).le (by decide) (by omega), trivial⟩
          · refine ⟨(short_tup (n := 11) (w := 127) fun d hd => ?_).le (by decide) ?_, ?_⟩
            · rw [List.mem_append, List.mem_append, List.mem_singleton] at hd
              rcases hd with (h | h) | h
              · exact hrow _ (mem_cut h)
              · rw [h]; exact hb
              · exact hrow _ (mem_cut h)
            · rw [List.length_append, List.length_append, List.length_singleton]; omega
            · show (_ ++ _ ++ _ : List D).length ≤ 2000
              rw [List.length_append, List.length_append, List.length_singleton]; omega
          · exact ⟨(short_tup (n := 12) (w := 1024) fun d hd => by rw [List.mem_singleton.mp hd]; exact t1).le (by decide) (show (1024 + 1) * 1 ≤ 20000 by decide), (by decide : 1 ≤ 2000)⟩
          · exact ⟨(short_lst (n := 12) (w := 1024) fun d hd => by rw [List.mem_singleton.mp hd]; exact t1).le (by decide) (show (1024 + 1) * 1 ≤ 20000 by decide), trivial⟩
          · refine ⟨(short_tup (n := 11) (w := 127) fun d hd => ?_).le (by decide) ?_, ?_⟩
            · rw [List.mem_append, List.mem_singleton] at hd
              rcases hd with h | h
              · exact hrow _ h
              · rw [h]; exact ⟨rfl, by decide, by decide⟩
            · rw [List.length_append, List.length_singleton]; omega
            · show (_ ++ _ : List D).length ≤ 2000
              rw [List.length_append, List.length_singleton]; omega
          · exact many _ 300 (by omega) (by decide)
          · exact many _ 301 (by decide) (by decide)
          · exact many _ 300 (by decide) (by decide)
          · exact ⟨⟨rfl, by decide, by decide⟩, (by decide : 0 ≤ 2000)⟩
          · exact ⟨⟨rfl, by decide, by decide⟩, trivial⟩
          · exact ⟨(short_tup (n := 0) (w := 31) fun d hd => by rw [List.mem_singleton.mp hd]; exact short_int (by omega)).le (by decide) (by decide : 32 ≤ 20000), (by decide : 1 ≤ 2000)⟩
          · exact ⟨⟨by decide +kernel, by decide, by decide⟩, (by decide : 1 ≤ 2000)⟩
          · exact ⟨⟨rfl, by decide, by decide⟩, (by decide : 1 ≤ 2000)⟩
          · exact ⟨(short_int (by omega)).le (by decide) (by decide), trivial⟩
          · exact ⟨⟨row_text ws, Nat.zero_le _, by
              show (PyData.shown (.tuple (iDs ws))).length ≤ 20000
              have h := PyData.shown_le_bulk 256 (by decide) (.tuple (iDs ws)) (ok_sh _ t1.ok).1
              have hb2 : PyData.bulk (.tuple (iDs ws)) ≤ 8 := by
                show PyData.bulkAll (iDs ws) ≤ 8
                exact Nat.le_trans (bulk_ints ws) hl
              omega⟩, trivial⟩
          · exact ⟨hod1.sh.le (by decide) (by decide), hod1.nl⟩
          · exact ⟨hod2.sh.le (by decide) (by decide), hod2.nl⟩
    refine wss_cons (ws_set 2 (w_callTy dc_tuple m_tuple rfl ⟨rfl, w_lc (own := [("_law_turn", 3)]) rfl sc15.nd (blkOk_by (N := N15) (sc := defScope (topS 15)) (by decide +kernel)) (fun _ _ _ _ _ => pg_name (i := 3) sc15.nd rfl (Or.inl rfl)) (gok_name 3) (by decide) (wi_range1 m_range ⟨rfl, w_fn Gt hr hgd ⟨rfl, w_var 0 ⟨rfl, w_int ?call⟩⟩⟩)⟩) sc15.nd)
    refine ⟨rfl, pt, n, a, b, c, 8, rfl, hpot, by omega, ⟨by decide, by decide⟩, fun a1 b1 c1 cnt hpot1 hc0 hc1 => ⟨rfl, rfl, rfl, ⟨by omega, by omega⟩, ?lc⟩⟩
    have hcn : ((cnt.toNat : Nat) : Int) = cnt := by omega
    refine ⟨fun j acc e => ∃ x y z ws, PotOk (n + 1 + j) x y z ∧ acc = iDs ws ∧ ws.length = j ∧ (∀ v ∈ ws, 1 ≤ v ∧ v ≤ wd) ∧ e = [some (.lst pt (potD x y z)), some (.va (.int wd)), none, none, none, none, none, none], ⟨a1, b1, c1, [], hpot1.le (by omega), rfl, rfl, fun _ z => (nomatch z), rfl⟩, ?_, ?_⟩
    · rintro j d acc e hd ⟨x, y, z, ws, hp1, rfl, hl, hr1, rfl⟩
      obtain ⟨rfl, hj⟩ := rangeD_at hd
      refine ⟨Nat.lt_of_sub_eq_succ rfl, fun _ => ?_, fun z => nomatch z⟩
      intro s2 H2 C cl fp
      refine w_bin dop_add (w_int (w_fn Gt hr hgd ⟨rfl, w_var 0 ⟨rfl, w_var 1 ?c2⟩⟩))
      refine ⟨rfl, pt, _, x, y, z, wd, rfl, hp1, by omega, ⟨by omega, by omega⟩, fun x' y' z' d hp2 d0 d1 => ⟨rfl, rfl, rfl, rfl, ?c3⟩⟩
      refine ⟨by rw [List.length_map, hl]; exact small2000 (by omega), x', y', z', ws ++ [1 + d], hp2.le (by omega), by simp [iDs], by rw [List.length_append, hl]; rfl, fun v hv => ?_, rfl⟩
      rcases List.mem_append.mp hv with h | h
      · exact hr1 v h
      · rw [List.mem_singleton.mp h]; omega
    · rintro acc e ⟨x, y, z, ws, hp1, rfl, hl, hr1, rfl⟩ q2
      rw [rangeD_len] at hl hp1
      exact ⟨rfl, Nat.lt_of_sub_eq_succ rfl, rest ws x y z (by omega) hr1 (hp1.le (by omega))⟩
end
end K1

namespace K1
open PySem PySem.Spec PyProof.Rows L2 QL
abbrev N16 : List Str := ["_law_pot_here", "_law_some", "_law_thing", "_law_kept", "_law_due", "_law_wide", "_law_told"]
theorem sc16 : FnScope N16 ["_law_pot_here"] (defScope (topS 16)) := ⟨rfl, rfl, rfl, by decide +kernel, rfl, by decide +kernel, by decide +kernel⟩
theorem ne_self {α : Type} [DecidableEq α] {x : α} {p : Prop} (h : (!decide (x = x)) = true) : p := by simp at h
abbrev someL (od : D) : List D := [.int 0, .int 1, .int (-1), .int 2, .int (10 ^ (9 : Int).toNat), .int (10 ^ (9 : Int).toNat + 1), .int (10 ^ (30 : Int).toNat), .bool true, .bool false, .none, .str "5", .tuple [.int 5], .list [.int 5], .dict [], od]
theorem someL_ok {od : D} (ho : Odd 9 od) : ∀ d ∈ someL od, Thing d := fun d hd => by
  have key : ∀ d ∈ someL .none, Odd 0 d := fun d hd => odd_of (List.all_eq_true.mp (by decide +kernel : (someL .none).all oddB = true) d hd)
  by_cases z : d = od
  · rw [z]; exact ⟨ho.sh.le (by decide) (by decide), ho.nl⟩
  · have h : d ∈ someL .none := by
      simp only [List.mem_cons, List.not_mem_nil, or_false] at hd ⊢
      rcases hd with e | e | e | e | e | e | e | e | e | e | e | e | e | e | e
      all_goals first | exact absurd e z | simp [e]
    exact ⟨(key d h).sh.le (by decide) (by decide), (key d h).nl⟩
theorem show_b (b c : Bool) : showOk (.list [.bool b, .bool c]) := (show_of b c)
where show_of (b c : Bool) : showOk (.list [.bool b, .bool c]) := Short.show_ (n := 1) (w := 2) ⟨rfl, by cases b <;> cases c <;> decide, by cases b <;> cases c <;> decide⟩ (by decide) (by decide)
section
variable {P : Program} {w : World} {K : PySem.W.Frag} {mg : Str → Option Value} {base : Heap}
def spRight : Spc := fun ts QT _ => ∃ (p : Addr) (n a b c : Int), ts = [.lst p (potD a b c)] ∧ PotOk n a b c ∧ n ≤ 700000 ∧ ∀ a' b' c', PotOk (n + 200) a' b' c' → QT (.va (.bool true)) [some (.lst p (potD a' b' c'))]
theorem g_right {f : Addr} {fd : FuncData} {k : Nat} (Fn : Fun K "_law_right" "_law_right" (topS 16) f fd) (Gt' : Df P w K mg base (k + 1) "_law_take" ["_law_pot_here", "_law_upto"] spTake) (Gf' : Df P w K mg base (k + 2) "_law_of" ["_law_pot_here", "_law_some"] spOf) (Go' : Df P w K mg base (k + 3) "_law_odd" ["_law_pot_here"] spOdd)
    (Gi' : Df P w K mg base (k + 1) "_law_is_int" ["_law_thing", "_law_least", "_law_most"] spBtw) (Gr' : Df P w K mg base (k + 2) "_law_is_row" ["_law_wide", "_law_thing"] spText) (Gs : Df P w K mg base (k + 4) "_law_rows" ["_law_pot_here", "_law_wide"] spRows)
    (Gw' : Df P w K mg base (k + 3) "is_width" ["value"] spWidth) (GwK' : Dk P w K mg base (k + 3) "is_width" ["value"] ["value"] [0] spWidth)
    (Gx : Df P w K mg base (k + 4) "is_text" ["width", "value"] spText) (GxK : Dk P w K mg base (k + 4) "is_text" ["width", "value"] ["value", "width"] [1, 0] spText)
    (m_repr : mg "repr" = none) : FnG P w K mg base (k + 5) f fd ["_law_pot_here"] spRight := by
  have Gt := Gt'.mono (by omega : k + 1 ≤ k + 4)
  have Gf := Gf'.mono (by omega : k + 2 ≤ k + 4)
  have Go := Go'.mono (by omega : k + 3 ≤ k + 4)
  have Gi := Gi'.mono (by omega : k + 1 ≤ k + 4)
  have Gr := Gr'.mono (by omega : k + 2 ≤ k + 4)
  have Gw := Gw'.mono (by omega : k + 3 ≤ k + 4)
  have GwK := GwK'.mono (by omega : k + 3 ≤ k + 4)
  refine fn_g Fn sc16 (fun ts Q E h => ?_) fun cdv A outer s H E Z ts QT ET hr hgd hp tk h => ?_
  · obtain ⟨p, n, a, b, c, rfl, _⟩ := h
    rfl
  · obtain ⟨pt, n, a, b, c, rfl, hpot, hn, q⟩ := h
    have hu := room110 hr
    have zz : ∀ m, m ≤ 2000 → m ≤ sizeLine := fun m h => Nat.le_of_lt (small2000 h)
    refine wss_cons (ws_set 1 (w_lst ⟨rfl, (w_int (⟨rfl, (w_int (⟨rfl, (w_neg (w_int (⟨rfl, ⟨rfl, (w_int (⟨rfl, (w_bin dop_pow (w_int ((w_int (⟨rfl, rfl, .inl ⟨by decide, by decide, by decide⟩, ⟨rfl, (w_bin dop_add (w_bin dop_pow (w_int ((w_int (⟨rfl, rfl, .inl ⟨by decide, by decide, by decide⟩, (w_int (⟨rfl, rfl, ⟨rfl, (w_bin dop_pow (w_int ((w_int (⟨rfl, rfl, .inl ⟨by decide, by decide, by decide⟩, ⟨rfl, (w_bl (⟨rfl, (w_bl (⟨rfl, (w_non (⟨rfl, (w_str (⟨rfl, (w_tup ⟨rfl, (w_int (⟨zz 1 (by decide), ⟨rfl, (w_lst ⟨rfl, (w_int (⟨zz 1 (by decide), fun p => ⟨rfl, (w_dict0 fun p => ⟨rfl, (w_fn Go hr hgd ⟨rfl, (w_var 0 (?call1f))⟩)⟩)⟩⟩))⟩)⟩⟩))⟩)⟩))⟩))⟩))⟩))⟩⟩)))))⟩⟩))⟩))))))⟩⟩)))))⟩))⟩⟩)))⟩))⟩))⟩) sc16.nd)
    refine ⟨rfl, pt, n, a, b, c, rfl, hpot, by omega, fun a1 b1 c1 od hpot1 hod => ⟨rfl, rfl, zz 15 (by decide), fun p1 => ⟨Nat.lt_of_sub_eq_succ rfl, ?nx1⟩⟩⟩
    refine wss_cons (ws_for hp rfl (pg_name (i := 2) sc16.nd rfl (.inl rfl)) (gok_name 2) (wi_list (w_var 1 ⟨rfl, ?fori⟩)))
    have hsome : ∀ d ∈ someL od, Thing d := someL_ok hod
    refine ⟨fun j e => ∃ o2 o3 o4, e = [some (.lst pt (potD a1 b1 c1)), some (.va (.list (someL od))), o2, o3, o4, none, none], ⟨none, none, none, rfl⟩, ?turn, ?done⟩
    case turn =>
      rintro j d e hd ⟨o2, o3, o4, rfl⟩
      have hT := hsome d (List.mem_of_getElem? hd)
      have shT := hT.sh.show_ (by decide) (by decide)
      refine ⟨Nat.lt_of_sub_eq_succ rfl, ?_⟩
      have shB : showOk (.list [.bool (btw d 1 1000000000), .bool (btw d 1 1000000000)]) := show_b _ _
      refine wss_cons (ws_par 3 4 rfl sc16.nd (w_callB (dc_reprD hgd hu) m_repr rfl ⟨rfl, w_var 2 ⟨rfl, ⟨_, rfl, shT, ⟨_, rfl, (w_fn Gi hr hgd ⟨rfl, (w_var 2 (⟨rfl, (w_int (⟨rfl, (w_bin dop_pow (w_int ((w_int (⟨rfl, rfl, .inl ⟨by decide, by decide, by decide⟩, ?call3c⟩)))))⟩))⟩))⟩)⟩⟩⟩⟩))
      refine ⟨d, 1, 1000000000, rfl, ⟨_, rfl, Nat.lt_of_sub_eq_succ rfl, Nat.lt_of_sub_eq_succ rfl, ?nx3⟩⟩
      refine wss_one (ws_if (WW.t (ww_or (wt_cmp (dop_ne (room64 hr)) (w_callB (dc_reprD hgd hu) m_repr rfl ⟨rfl, (w_lst ⟨rfl, (w_fn Gw hr hgd ⟨rfl, w_var 2 ?c4⟩)⟩)⟩)))))
      refine ⟨d, rfl, ⟨rfl, w_fnK GwK hr hgd (w_var 2 ⟨rfl, ?c4b⟩)⟩⟩
      refine ⟨d, rfl, ⟨zz 2 (by decide), fun p2 => ⟨rfl, ⟨_, rfl, shB, (w_callB (dc_reprD hgd hu) m_repr rfl ⟨rfl, (w_lst ⟨rfl, (w_var 4 (⟨rfl, (w_var 4 (⟨zz 2 (by decide), fun p3 => ⟨rfl, ⟨_, rfl, shB, ⟨rfl, rfl, _, rfl, ⟨fun h => ?second, fun h => ne_self h⟩⟩⟩⟩⟩))⟩))⟩)⟩)⟩⟩⟩⟩
      refine ww_or1 (wt_cmp (dop_ne (room64 hr)) (w_callB (dc_reprD hgd hu) m_repr rfl ⟨rfl, w_var 2 ⟨rfl, ⟨_, rfl, shT, w_var 3 ⟨rfl, rfl, _, rfl, ⟨fun h => ne_self h, fun h => ?else4⟩⟩⟩⟩⟩))
      exact wss_nil ⟨_, _, _, rfl⟩
    case done =>
      rintro e ⟨o2, o3, o4, rfl⟩
      refine wss_cons (ws_set 5 (w_fn Gf hr hgd ⟨rfl, (w_var 0 (⟨rfl, (w_lst ⟨rfl, (w_int (⟨rfl, (w_int (⟨rfl, (w_int (⟨rfl, (w_bin dop_pow (w_int ((w_int (⟨rfl, rfl, .inl ⟨by decide, by decide, by decide⟩, ⟨rfl, (w_bin dop_add (w_int ((w_fn Gt hr hgd ⟨rfl, (w_var 0 (⟨rfl, (w_bin dop_pow (w_int ((w_int (⟨rfl, rfl, .inl ⟨by decide, by decide, by decide⟩, ?call6c⟩)))))⟩))⟩))))⟩⟩)))))⟩))⟩))⟩))⟩)⟩))⟩) sc16.nd)
      refine ⟨rfl, pt, n + 20, a1, b1, c1, 1000000000, rfl, hpot1, by omega, ⟨by decide, by decide⟩, fun a2 b2 c2 dw hpot2 hw0 hw1 => ⟨rfl, rfl, rfl, rfl, zz 5 (by decide), fun p4 => ?call6e⟩⟩
      refine ⟨rfl, pt, n + 21, a2, b2, c2, _, _, none, rfl, .inl ⟨rfl, rfl⟩, hpot2.le (by omega), by omega, ⟨Nat.succ_pos _, (by decide : 5 ≤ 100000)⟩, fun a3 b3 c3 wv hpot3 hm => ⟨rfl, rfl, Nat.lt_of_sub_eq_succ rfl, ?nx6⟩⟩
      obtain ⟨wd, rfl, hwd1, hwd2⟩ : ∃ wd : Int, wv = .int wd ∧ 1 ≤ wd ∧ wd ≤ 1000000000 := by
        simp only [List.mem_cons, List.not_mem_nil, or_false] at hm
        rcases hm with e | e | e | e | e
        · exact ⟨1, e, by decide, by decide⟩
        · exact ⟨2, e, by decide, by decide⟩
        · exact ⟨5, e, by decide, by decide⟩
        · exact ⟨_, e, by decide, by decide⟩
        · exact ⟨_, e, by omega, by omega⟩
      refine wss_cons (ws_for hp rfl (pg_name (i := 2) sc16.nd rfl (.inl rfl)) (gok_name 2) (wi_list (w_fn Gs hr hgd ⟨rfl, w_var 0 ⟨rfl, w_var 5 ?call7⟩⟩)))
      refine ⟨rfl, pt, n + 22, a3, b3, c3, wd, rfl, hpot3.le (by omega), by omega, ⟨hwd1, hwd2⟩, fun a4 b4 c4 p5 ds hpot4 hds hdl => ⟨rfl, rfl, ?fori2⟩⟩
      refine ⟨fun j e => ∃ o1 o2 o3 o4 o6, e = [some (.lst pt (potD a4 b4 c4)), o1, o2, o3, o4, some (.va (.int wd)), o6], ⟨_, _, _, _, _, rfl⟩, ?turn2, ?done2⟩
      case done2 =>
        rintro e ⟨o1, o2, o3, o4, o6, rfl⟩
        exact wss_one (ws_ret (w_bl ⟨rfl, q _ _ _ (hpot4.le (by omega))⟩))
      case turn2 =>
        rintro j d e hd ⟨o1, o2, o3, o4, o6, rfl⟩
        have hT := hds d (List.mem_of_getElem? hd)
        have shT := hT.sh.show_ (by decide) (by decide)
        have shB : showOk (.list [.bool (textB wd d), .bool (textB wd d)]) := show_b _ _
        refine ⟨Nat.lt_of_sub_eq_succ rfl, ?_⟩
        refine wss_cons (ws_par 3 4 rfl sc16.nd (w_callB (dc_reprD hgd hu) m_repr rfl ⟨rfl, w_var 2 ⟨rfl, ⟨_, rfl, shT, ⟨_, rfl, (w_fn Gr hr hgd ⟨rfl, (w_var 5 (⟨rfl, (w_var 2 ?call8)⟩))⟩)⟩⟩⟩⟩))
        refine ⟨wd, d, rfl, hT.nl, ⟨_, rfl, Nat.lt_of_sub_eq_succ rfl, Nat.lt_of_sub_eq_succ rfl, ?nx8⟩⟩
        refine wss_cons (ws_set 6 (w_lst ⟨rfl, (w_fn Gx hr hgd ⟨rfl, (w_var 5 (⟨rfl, (w_var 2 ?call9a)⟩))⟩)⟩) sc16.nd)
        refine ⟨wd, d, rfl, hT.nl, ⟨rfl, (w_fnK GxK hr hgd (w_var 2 ((w_var 5 (⟨rfl, ?call9b⟩)))))⟩⟩
        refine ⟨wd, d, rfl, hT.nl, ⟨zz 2 (by decide), fun p6 => ⟨Nat.lt_of_sub_eq_succ rfl, ?nx9⟩⟩⟩
        refine wss_one (ws_if (WW.t (ww_or (wt_cmp (dop_ne (room64 hr)) (w_callB (dc_reprD hgd hu) m_repr rfl ⟨rfl, w_var 6 ⟨rfl, ⟨_, rfl, shB, ?e10⟩⟩⟩)))))
        refine w_callB (dc_reprD hgd hu) m_repr rfl ⟨rfl, (w_lst ⟨rfl, (w_var 4 (⟨rfl, (w_var 4 (⟨zz 2 (by decide), fun p7 => ⟨rfl, ⟨_, rfl, shB, ⟨rfl, rfl, _, rfl, ⟨fun h => ?second2, fun h => ne_self h⟩⟩⟩⟩⟩))⟩))⟩)⟩
        refine ww_or1 (wt_cmp (dop_ne (room64 hr)) (w_callB (dc_reprD hgd hu) m_repr rfl ⟨rfl, w_var 2 ⟨rfl, ⟨_, rfl, shT, w_var 3 ⟨rfl, rfl, _, rfl, ⟨fun h => ne_self h, fun h => ?else10⟩⟩⟩⟩⟩))
        exact wss_nil ⟨_, _, _, _, _, rfl⟩
end
end K1

namespace K1
open PySem PySem.Spec PyProof.Rows L2 QL
abbrev N17 : List Str := ["_law_script", "_law_spot", "_law_pot_here", "_law_turn"]
theorem sc17 : FnScope N17 ["_law_script"] (defScope (topS 17)) := ⟨rfl, rfl, rfl, by decide +kernel, rfl, by decide +kernel, by decide +kernel⟩
structure Blts (mg : Str → Option Value) : Prop where
  range : mg "range" = none
  max : mg "max" = none
  min : mg "min" = none
  len : mg "len" = none
  all : mg "all" = none
section
variable {P : Program} {w : World} {K : PySem.W.Frag} {mg : Str → Option Value} {base : Heap}
def spLaw (K : PySem.W.Frag) : Spc := fun ts QT _ => ∃ (a : Addr) (ns : List Int), ts = [scT K a ns] ∧ ns.length ≤ 63 ∧ QT (.va (.bool true)) [some (scT K a ns)]
theorem g_law {f : Addr} {fd : FuncData} {k : Nat} (Fn : Fun K "law" "law" (topS 17) f fd) (G__law_pot : Df P w K mg base (k + 5) "_law_pot" ["_law_script", "_law_spot"] (spPot K)) (G__law_right : Df P w K mg base (k + 5) "_law_right" ["_law_pot_here"] spRight) (B : Blts mg) : FnG P w K mg base (k + 6) f fd ["_law_script"] (spLaw K) := by
  refine fn_g Fn sc17 (fun ts Q E h => ?_) fun cdv A outer s H E Z ts QT ET hr hgd hp tk h => ?_
  · obtain ⟨a, ns, rfl, _⟩ := h
    rfl
  · obtain ⟨a, ns, rfl, hl, q⟩ := h
    refine wss_cons (ws_for hp rfl (pg_name (i := 1) sc17.nd rfl (.inl rfl)) (gok_name 1) (wi_range1 B.range ⟨rfl, w_callB (dc_max2 rfl) B.max rfl ⟨rfl, w_int ⟨rfl, w_callB (dc_min2 rfl) B.min rfl ⟨rfl, w_int ⟨rfl, w_scLen 0 B.len rfl ⟨rfl, rfl, ⟨rfl, rfl, ⟨rfl, ⟨?r1, ?r2⟩, ?fori⟩⟩⟩⟩⟩⟩⟩⟩))
    case r1 => omega
    case r2 => omega
    case fori =>
      refine ⟨fun j e => ∃ o1 o2, e = [some (scT K a ns), o1, o2, none], ⟨none, none, rfl⟩, ?turn, ?done⟩
      case done =>
        rintro e ⟨o1, o2, rfl⟩
        exact wss_one (ws_ret (w_bl ⟨rfl, q⟩))
      case turn =>
        rintro j d e hd ⟨o1, o2, rfl⟩
        obtain ⟨rfl, hj⟩ := rangeD_at hd
        refine ⟨Nat.lt_of_sub_eq_succ rfl, ?_⟩
        refine wss_cons (ws_set 2 (w_fn G__law_pot hr hgd ⟨rfl, (w_var 0 (⟨rfl, (w_var 1 (?call2a))⟩))⟩) sc17.nd)
        refine ⟨rfl, a, ns, 0 + (j : Int), rfl, ⟨by omega, by omega⟩, hl, fun p x y hpot => ⟨rfl, rfl, Nat.lt_of_sub_eq_succ rfl, ?nx2b⟩⟩
        refine wss_one (ws_if (wt_not (wt_val (w_callB (dc_all rfl) B.all rfl ⟨rfl, w_lc (own := [("_law_turn", 3)]) rfl sc17.nd (blkOk_by (N := ["_law_script", "_law_spot", "_law_pot_here", "_law_turn"]) (sc := defScope (topS 17)) (by decide +kernel)) (fun _ _ _ _ _ => pg_name (i := 3) sc17.nd rfl (Or.inl rfl)) (gok_name 3) (by decide) (wi_range1 B.range ⟨rfl, w_int ⟨rfl, ⟨by decide, by decide⟩, ?lc⟩⟩)⟩))))
        refine ⟨fun i acc e => ∃ x y z, PotOk (200 * i) x y z ∧ acc = (List.replicate i true).map PyData.bool ∧ e = [some (scT K a ns), some (.va (.int (0 + (j : Int)))), some (.lst p (potD x y z)), none], ⟨x, y, 0, hpot.le (by omega), rfl, rfl⟩, ?lstep, ?lend⟩
        case lstep =>
          rintro i d acc e hd ⟨x, y, z, hp1, rfl, rfl⟩
          obtain ⟨rfl, hi⟩ := rangeD_at hd
          have hi5 : i < 4 := hi
          refine ⟨Nat.lt_of_sub_eq_succ rfl, fun _ => ?_, fun z => nomatch z⟩
          intro s2 H2 C cl fp
          refine w_fn G__law_right hr hgd ⟨rfl, w_var 2 ⟨rfl, p, _, x, y, z, rfl, hp1, by omega, fun x' y' z' hp2 => ⟨rfl, rfl, ?_, x', y', z', hp2.le (by omega), ?_, rfl⟩⟩⟩
          · rw [List.length_map, List.length_replicate]
            exact small2000 (by omega)
          · rw [List.replicate_succ', List.map_append]
            rfl
        case lend =>
          rintro acc e ⟨x, y, z, hp1, rfl, rfl⟩ q2
          refine ⟨rfl, List.replicate 4 true, rfl, ⟨_, rfl, ⟨fun h => absurd h (by decide), fun h => wss_nil ⟨_, _, rfl⟩⟩⟩⟩
end
end K1

namespace K1
open PySem PySem.Spec PyProof.Rows L2 QL
theorem all_mk {l : PySem.W.OpenLaw} {w : World} {K : PySem.W.Frag} {h : Heap} {mg : Str → Option Value} {fa : Addr} (X : K.In h) (G : h.Ns mainGlobals mg) (hfa : mg "law" = some (.ref fa))
    {f0 : Addr} {od0 an0 : Option Addr} {sl0 : Array (Option Value)} {oc0 kV0 dc0 pm0 cd0 ct0 : Value}
    (a0 : PySem.W.nsIn K mainGlobals "is_integer" = some (some (.ref f0))) (l0 : K.lookup f0 = some ⟨oc0, od0, .func (PySem.W.fnOf "is_integer" "is_integer" (defArgs (topS 3)) (defBody (topS 3)) (defScope (topS 3)) .none kV0 dc0 pm0 an0 cd0 ct0), sl0⟩) (c0 : PySem.W.codeIn K cd0 "is_integer" = true) (k0 : PySem.W.keepIn K (.ref f0) = true)
    {f1 : Addr} {od1 an1 : Option Addr} {sl1 : Array (Option Value)} {oc1 kV1 dc1 pm1 cd1 ct1 : Value}
    (a1 : PySem.W.nsIn K mainGlobals "is_between" = some (some (.ref f1))) (l1 : K.lookup f1 = some ⟨oc1, od1, .func (PySem.W.fnOf "is_between" "is_between" (defArgs (topS 4)) (defBody (topS 4)) (defScope (topS 4)) .none kV1 dc1 pm1 an1 cd1 ct1), sl1⟩) (c1 : PySem.W.codeIn K cd1 "is_between" = true) (k1 : PySem.W.keepIn K (.ref f1) = true)
    {f2 : Addr} {od2 an2 : Option Addr} {sl2 : Array (Option Value)} {oc2 kV2 dc2 pm2 cd2 ct2 : Value}
    (a2 : PySem.W.nsIn K mainGlobals "is_width" = some (some (.ref f2))) (l2 : K.lookup f2 = some ⟨oc2, od2, .func (PySem.W.fnOf "is_width" "is_width" (defArgs (topS 5)) (defBody (topS 5)) (defScope (topS 5)) .none kV2 dc2 pm2 an2 cd2 ct2), sl2⟩) (c2 : PySem.W.codeIn K cd2 "is_width" = true) (k2 : PySem.W.keepIn K (.ref f2) = true)
    {f3 : Addr} {od3 an3 : Option Addr} {sl3 : Array (Option Value)} {oc3 kV3 dc3 pm3 cd3 ct3 : Value}
    (a3 : PySem.W.nsIn K mainGlobals "are_words" = some (some (.ref f3))) (l3 : K.lookup f3 = some ⟨oc3, od3, .func (PySem.W.fnOf "are_words" "are_words" (defArgs (topS 6)) (defBody (topS 6)) (defScope (topS 6)) .none kV3 dc3 pm3 an3 cd3 ct3), sl3⟩) (c3 : PySem.W.codeIn K cd3 "are_words" = true) (k3 : PySem.W.keepIn K (.ref f3) = true)
    {f4 : Addr} {od4 an4 : Option Addr} {sl4 : Array (Option Value)} {oc4 kV4 dc4 pm4 cd4 ct4 : Value}
    (a4 : PySem.W.nsIn K mainGlobals "is_text" = some (some (.ref f4))) (l4 : K.lookup f4 = some ⟨oc4, od4, .func (PySem.W.fnOf "is_text" "is_text" (defArgs (topS 7)) (defBody (topS 7)) (defScope (topS 7)) .none kV4 dc4 pm4 an4 cd4 ct4), sl4⟩) (c4 : PySem.W.codeIn K cd4 "is_text" = true) (k4 : PySem.W.keepIn K (.ref f4) = true)
    {f5 : Addr} {od5 an5 : Option Addr} {sl5 : Array (Option Value)} {oc5 kV5 dc5 pm5 cd5 ct5 : Value}
    (a5 : PySem.W.nsIn K mainGlobals "_law_pot" = some (some (.ref f5))) (l5 : K.lookup f5 = some ⟨oc5, od5, .func (PySem.W.fnOf "_law_pot" "_law_pot" (defArgs (topS 9)) (defBody (topS 9)) (defScope (topS 9)) .none kV5 dc5 pm5 an5 cd5 ct5), sl5⟩) (c5 : PySem.W.codeIn K cd5 "_law_pot" = true) (k5 : PySem.W.keepIn K (.ref f5) = true)
    {f6 : Addr} {od6 an6 : Option Addr} {sl6 : Array (Option Value)} {oc6 kV6 dc6 pm6 cd6 ct6 : Value}
    (a6 : PySem.W.nsIn K mainGlobals "_law_take" = some (some (.ref f6))) (l6 : K.lookup f6 = some ⟨oc6, od6, .func (PySem.W.fnOf "_law_take" "_law_take" (defArgs (topS 10)) (defBody (topS 10)) (defScope (topS 10)) .none kV6 dc6 pm6 an6 cd6 ct6), sl6⟩) (c6 : PySem.W.codeIn K cd6 "_law_take" = true) (k6 : PySem.W.keepIn K (.ref f6) = true)
    {f7 : Addr} {od7 an7 : Option Addr} {sl7 : Array (Option Value)} {oc7 kV7 dc7 pm7 cd7 ct7 : Value}
    (a7 : PySem.W.nsIn K mainGlobals "_law_of" = some (some (.ref f7))) (l7 : K.lookup f7 = some ⟨oc7, od7, .func (PySem.W.fnOf "_law_of" "_law_of" (defArgs (topS 11)) (defBody (topS 11)) (defScope (topS 11)) .none kV7 dc7 pm7 an7 cd7 ct7), sl7⟩) (c7 : PySem.W.codeIn K cd7 "_law_of" = true) (k7 : PySem.W.keepIn K (.ref f7) = true)
    {f8 : Addr} {od8 an8 : Option Addr} {sl8 : Array (Option Value)} {oc8 kV8 dc8 pm8 cd8 ct8 : Value}
    (a8 : PySem.W.nsIn K mainGlobals "_law_odd" = some (some (.ref f8))) (l8 : K.lookup f8 = some ⟨oc8, od8, .func (PySem.W.fnOf "_law_odd" "_law_odd" (defArgs (topS 12)) (defBody (topS 12)) (defScope (topS 12)) .none kV8 dc8 pm8 an8 cd8 ct8), sl8⟩) (c8 : PySem.W.codeIn K cd8 "_law_odd" = true) (k8 : PySem.W.keepIn K (.ref f8) = true)
    {f9 : Addr} {od9 an9 : Option Addr} {sl9 : Array (Option Value)} {oc9 kV9 dc9 pm9 cd9 ct9 : Value}
    (a9 : PySem.W.nsIn K mainGlobals "_law_is_int" = some (some (.ref f9))) (l9 : K.lookup f9 = some ⟨oc9, od9, .func (PySem.W.fnOf "_law_is_int" "_law_is_int" (defArgs (topS 13)) (defBody (topS 13)) (defScope (topS 13)) .none kV9 dc9 pm9 an9 cd9 ct9), sl9⟩) (c9 : PySem.W.codeIn K cd9 "_law_is_int" = true) (k9 : PySem.W.keepIn K (.ref f9) = true)
    {f10 : Addr} {od10 an10 : Option Addr} {sl10 : Array (Option Value)} {oc10 kV10 dc10 pm10 cd10 ct10 : Value}
    (a10 : PySem.W.nsIn K mainGlobals "_law_is_row" = some (some (.ref f10))) (l10 : K.lookup f10 = some ⟨oc10, od10, .func (PySem.W.fnOf "_law_is_row" "_law_is_row" (defArgs (topS 14)) (defBody (topS 14)) (defScope (topS 14)) .none kV10 dc10 pm10 an10 cd10 ct10), sl10⟩) (c10 : PySem.W.codeIn K cd10 "_law_is_row" = true) (k10 : PySem.W.keepIn K (.ref f10) = true)
    {f11 : Addr} {od11 an11 : Option Addr} {sl11 : Array (Option Value)} {oc11 kV11 dc11 pm11 cd11 ct11 : Value}
    (a11 : PySem.W.nsIn K mainGlobals "_law_rows" = some (some (.ref f11))) (l11 : K.lookup f11 = some ⟨oc11, od11, .func (PySem.W.fnOf "_law_rows" "_law_rows" (defArgs (topS 15)) (defBody (topS 15)) (defScope (topS 15)) .none kV11 dc11 pm11 an11 cd11 ct11), sl11⟩) (c11 : PySem.W.codeIn K cd11 "_law_rows" = true) (k11 : PySem.W.keepIn K (.ref f11) = true)
    {f12 : Addr} {od12 an12 : Option Addr} {sl12 : Array (Option Value)} {oc12 kV12 dc12 pm12 cd12 ct12 : Value}
    (a12 : PySem.W.nsIn K mainGlobals "_law_right" = some (some (.ref f12))) (l12 : K.lookup f12 = some ⟨oc12, od12, .func (PySem.W.fnOf "_law_right" "_law_right" (defArgs (topS 16)) (defBody (topS 16)) (defScope (topS 16)) .none kV12 dc12 pm12 an12 cd12 ct12), sl12⟩) (c12 : PySem.W.codeIn K cd12 "_law_right" = true) (k12 : PySem.W.keepIn K (.ref f12) = true)
    {f13 : Addr} {od13 an13 : Option Addr} {sl13 : Array (Option Value)} {oc13 kV13 dc13 pm13 cd13 ct13 : Value}
    (a13 : PySem.W.nsIn K mainGlobals "law" = some (some (.ref f13))) (l13 : K.lookup f13 = some ⟨oc13, od13, .func (PySem.W.fnOf "law" "law" (defArgs (topS 17)) (defBody (topS 17)) (defScope (topS 17)) .none kV13 dc13 pm13 an13 cd13 ct13), sl13⟩) (c13 : PySem.W.codeIn K cd13 "law" = true) (k13 : PySem.W.keepIn K (.ref f13) = true)
    (z0 : PySem.W.nsIn K mainGlobals "isinstance" = some none)
    (z1 : PySem.W.nsIn K mainGlobals "int" = some none)
    (z2 : PySem.W.nsIn K mainGlobals "bool" = some none)
    (z3 : PySem.W.nsIn K mainGlobals "tuple" = some none)
    (z4 : PySem.W.nsIn K mainGlobals "list" = some none)
    (z5 : PySem.W.nsIn K mainGlobals "all" = some none)
    (z6 : PySem.W.nsIn K mainGlobals "len" = some none)
    (z7 : PySem.W.nsIn K mainGlobals "range" = some none)
    (z8 : PySem.W.nsIn K mainGlobals "min" = some none)
    (z9 : PySem.W.nsIn K mainGlobals "max" = some none)
    (z10 : PySem.W.nsIn K mainGlobals "repr" = some none)
    (z11 : PySem.W.nsIn K mainGlobals "abs" = some none)
    (z12 : PySem.W.nsIn K mainGlobals "str" = some none)
    {tw tt : Tok} (vw0 : PySem.W.nsIn K mainGlobals "MOST_WIDTH" = some (some (.int 1000000000 tw))) (vt0 : PySem.W.nsIn K mainGlobals "MOST_WORDS" = some (some (.int 300 tt)))
    : ∃ fd : FuncData, (∀ (s : Shared) (v : Value), BindsTo s fd ⟨[v], []⟩ [("_law_script", v)]) ∧ ∀ base : Heap, K.In base → base.Ns mainGlobals mg → FnG l.prog w K mg base 6 fa fd ["_law_script"] (spLaw K) := by
  have e := hfa.symm.trans (PySem.W.mg_of X G a13)
  cases e
  have F0 := fun_mk (st := topS 3) l0 c0 k0
  have F1 := fun_mk (st := topS 4) l1 c1 k1
  have F2 := fun_mk (st := topS 5) l2 c2 k2
  have F3 := fun_mk (st := topS 6) l3 c3 k3
  have F4 := fun_mk (st := topS 7) l4 c4 k4
  have F5 := fun_mk (st := topS 9) l5 c5 k5
  have F6 := fun_mk (st := topS 10) l6 c6 k6
  have F7 := fun_mk (st := topS 11) l7 c7 k7
  have F8 := fun_mk (st := topS 12) l8 c8 k8
  have F9 := fun_mk (st := topS 13) l9 c9 k9
  have F10 := fun_mk (st := topS 14) l10 c10 k10
  have F11 := fun_mk (st := topS 15) l11 c11 k11
  have F12 := fun_mk (st := topS 16) l12 c12 k12
  have F13 := fun_mk (st := topS 17) l13 c13 k13
  have b0 := F0.binds (ps := ["value"]) fun _ _ _ _ _ _ us hl => match us, hl with | [_], _ => rfl
  have b1 := F1.binds (ps := ["value", "least", "most"]) fun _ _ _ _ _ _ us hl => match us, hl with | [_, _, _], _ => rfl
  have b2 := F2.binds (ps := ["value"]) fun _ _ _ _ _ _ us hl => match us, hl with | [_], _ => rfl
  have b3 := F3.binds (ps := ["width", "value"]) fun _ _ _ _ _ _ us hl => match us, hl with | [_, _], _ => rfl
  have b4 := F4.binds (ps := ["width", "value"]) fun _ _ _ _ _ _ us hl => match us, hl with | [_, _], _ => rfl
  have b5 := F5.binds (ps := ["_law_script", "_law_spot"]) fun _ _ _ _ _ _ us hl => match us, hl with | [_, _], _ => rfl
  have b6 := F6.binds (ps := ["_law_pot_here", "_law_upto"]) fun _ _ _ _ _ _ us hl => match us, hl with | [_, _], _ => rfl
  have b7 := F7.binds (ps := ["_law_pot_here", "_law_some"]) fun _ _ _ _ _ _ us hl => match us, hl with | [_, _], _ => rfl
  have b8 := F8.binds (ps := ["_law_pot_here"]) fun _ _ _ _ _ _ us hl => match us, hl with | [_], _ => rfl
  have b9 := F9.binds (ps := ["_law_thing", "_law_least", "_law_most"]) fun _ _ _ _ _ _ us hl => match us, hl with | [_, _, _], _ => rfl
  have b10 := F10.binds (ps := ["_law_wide", "_law_thing"]) fun _ _ _ _ _ _ us hl => match us, hl with | [_, _], _ => rfl
  have b11 := F11.binds (ps := ["_law_pot_here", "_law_wide"]) fun _ _ _ _ _ _ us hl => match us, hl with | [_, _], _ => rfl
  have b12 := F12.binds (ps := ["_law_pot_here"]) fun _ _ _ _ _ _ us hl => match us, hl with | [_], _ => rfl
  have w2 : KwOk K _ ["value"] ["value"] [0] := fun_kws F2 fun _ _ _ _ _ _ us hl => match us, hl with | [_], _ => rfl
  have w4 : KwOk K _ ["width", "value"] ["value", "width"] [1, 0] := fun_kws F4 fun _ _ _ _ _ _ us hl => match us, hl with | [_, _], _ => rfl
  have Bisinstance := PySem.W.mg_none_of X G z0
  have Bint := PySem.W.mg_none_of X G z1
  have Bbool := PySem.W.mg_none_of X G z2
  have Btuple := PySem.W.mg_none_of X G z3
  have Blist := PySem.W.mg_none_of X G z4
  have Ball := PySem.W.mg_none_of X G z5
  have Blen := PySem.W.mg_none_of X G z6
  have Brange := PySem.W.mg_none_of X G z7
  have Bmin := PySem.W.mg_none_of X G z8
  have Bmax := PySem.W.mg_none_of X G z9
  have Brepr := PySem.W.mg_none_of X G z10
  have Babs := PySem.W.mg_none_of X G z11
  have Bstr := PySem.W.mg_none_of X G z12
  have vw := PySem.W.mg_of X G vw0
  have vt := PySem.W.mg_of X G vt0
  have m0 := PySem.W.mg_of X G a0
  have m1 := PySem.W.mg_of X G a1
  have m2 := PySem.W.mg_of X G a2
  have m3 := PySem.W.mg_of X G a3
  have m4 := PySem.W.mg_of X G a4
  have m5 := PySem.W.mg_of X G a5
  have m6 := PySem.W.mg_of X G a6
  have m7 := PySem.W.mg_of X G a7
  have m8 := PySem.W.mg_of X G a8
  have m9 := PySem.W.mg_of X G a9
  have m10 := PySem.W.mg_of X G a10
  have m11 := PySem.W.mg_of X G a11
  have m12 := PySem.W.mg_of X G a12
  refine ⟨PySem.W.fnOf "law" "law" (defArgs (topS 17)) (defBody (topS 17)) (defScope (topS 17)) .none kV13 dc13 pm13 an13 cd13 ct13, fun s v => .of_eq rfl, fun base _ _ => ?_⟩
  have D0 : Df l.prog w K mg base _ "is_integer" ["value"] spIsI := ⟨_, _, g_isI (k := 0) F0 Bisinstance Bint Bbool, m0, k0, b0⟩
  have D1 : Df l.prog w K mg base _ "is_between" ["value", "least", "most"] spBtw := ⟨_, _, g_btw (k := 0) F1 D0, m1, k1, b1⟩
  have D2 : Df l.prog w K mg base _ "is_width" ["value"] spWidth := ⟨_, _, g_width (k := 0) F2 D1 vw, m2, k2, b2⟩
  have D3 : Df l.prog w K mg base _ "are_words" ["width", "value"] spWords := ⟨_, _, g_words (k := 0) F3 D1 Bisinstance Btuple Ball, m3, k3, b3⟩
  have D4 : Df l.prog w K mg base _ "is_text" ["width", "value"] spText := ⟨_, _, g_text (k := 0) F4 D3 Blen vt, m4, k4, b4⟩
  have D5 : Df l.prog w K mg base _ "_law_pot" ["_law_script", "_law_spot"] (spPot K) := ⟨_, _, g_pot (k := 0) F5 Blen Babs Bint, m5, k5, b5⟩
  have D6 : Df l.prog w K mg base _ "_law_take" ["_law_pot_here", "_law_upto"] spTake := ⟨_, _, g_take (k := 0) F6, m6, k6, b6⟩
  have D7 : Df l.prog w K mg base _ "_law_of" ["_law_pot_here", "_law_some"] spOf := ⟨_, _, g_of (k := 0) F7 D6 Blen, m7, k7, b7⟩
  have D8 : Df l.prog w K mg base _ "_law_odd" ["_law_pot_here"] spOdd := ⟨_, _, g_odd (k := 0) F8 D7 Brange, m8, k8, b8⟩
  have D9 : Df l.prog w K mg base _ "_law_is_int" ["_law_thing", "_law_least", "_law_most"] spBtw := ⟨_, _, g_lawInt (k := 0) F9 Bisinstance Bint Bbool, m9, k9, b9⟩
  have D10 : Df l.prog w K mg base _ "_law_is_row" ["_law_wide", "_law_thing"] spText := ⟨_, _, g_row (k := 0) F10 D9 Bisinstance Btuple Ball Blen, m10, k10, b10⟩
  have D11 : Df l.prog w K mg base _ "_law_rows" ["_law_pot_here", "_law_wide"] spRows := ⟨_, _, g_rows (k := 0) F11 D6 D7 D8 Btuple Blist Blen Brange Bstr, m11, k11, b11⟩
  have E2 : Dk l.prog w K mg base _ "is_width" ["value"] ["value"] [0] spWidth := ⟨_, _, g_width (k := 0) F2 D1 vw, m2, k2, w2⟩
  have E4 : Dk l.prog w K mg base _ "is_text" ["width", "value"] ["value", "width"] [1, 0] spText := ⟨_, _, g_text (k := 0) F4 D3 Blen vt, m4, k4, w4⟩
  have D12 : Df l.prog w K mg base _ "_law_right" ["_law_pot_here"] spRight := ⟨_, _, g_right (k := 0) F12 D6 D7 D8 D9 D10 D11 D2 E2 D4 E4 Brepr, m12, k12, b12⟩
  exact g_law (k := 0) F13 (D5.mono (by decide)) D12 ⟨Brange, Bmax, Bmin, Blen, Ball⟩
end K1
open PySem PySem.W PyProof.Rows
set_option maxHeartbeats 0 in
theorem PySem.Challenge.cw_settledlines_k01_widths_and_texts_of_any_holds : PySem.Challenge.rw_settledlines_k01_widths_and_texts_of_any.Holds := by
  w_on; o_law; k_head; (case hw => w_witness2)
  k_fill
  refine QL.walk_g (l := PySem.Challenge.rw_settledlines_k01_widths_and_texts_of_any) (n := 63) (k := 6) (x := "_law_script") (sp := fun w => K1.spLaw _) rfl (by decide) rfl ⟨rfl, by decide, by decide⟩ (fun w h Y => PySem.W.kIn_of Y) ?F (fun w a ns hl => ⟨a, ns, rfl, hl, rfl⟩)
  case F =>
    intro w mg fa h KX G hmg
    refine' K1.all_mk KX G hmg ?a0 ?l0 ?c0 ?k0 ?a1 ?l1 ?c1 ?k1 ?a2 ?l2 ?c2 ?k2 ?a3 ?l3 ?c3 ?k3 ?a4 ?l4 ?c4 ?k4 ?a5 ?l5 ?c5 ?k5 ?a6 ?l6 ?c6 ?k6 ?a7 ?l7 ?c7 ?k7 ?a8 ?l8 ?c8 ?k8 ?a9 ?l9 ?c9 ?k9 ?a10 ?l10 ?c10 ?k10 ?a11 ?l11 ?c11 ?k11 ?a12 ?l12 ?c12 ?k12 ?a13 ?l13 ?c13 ?k13 ?z0 ?z1 ?z2 ?z3 ?z4 ?z5 ?z6 ?z7 ?z8 ?z9 ?z10 ?z11 ?z12 ?vw0 ?vt0
    (case a0 => k_is); (case l0 => k_is); (case c0 => k_is); (case k0 => k_is); (case a1 => k_is); (case l1 => k_is); (case c1 => k_is); (case k1 => k_is); (case a2 => k_is); (case l2 => k_is); (case c2 => k_is); (case k2 => k_is); (case a3 => k_is); (case l3 => k_is); (case c3 => k_is); (case k3 => k_is); (case a4 => k_is); (case l4 => k_is); (case c4 => k_is); (case k4 => k_is); (case a5 => k_is); (case l5 => k_is); (case c5 => k_is); (case k5 => k_is); (case a6 => k_is); (case l6 => k_is); (case c6 => k_is); (case k6 => k_is); (case a7 => k_is); (case l7 => k_is); (case c7 => k_is); (case k7 => k_is); (case a8 => k_is); (case l8 => k_is); (case c8 => k_is); (case k8 => k_is); (case a9 => k_is); (case l9 => k_is); (case c9 => k_is); (case k9 => k_is); (case a10 => k_is); (case l10 => k_is); (case c10 => k_is); (case k10 => k_is); (case a11 => k_is); (case l11 => k_is); (case c11 => k_is); (case k11 => k_is); (case a12 => k_is); (case l12 => k_is); (case c12 => k_is); (case k12 => k_is); (case a13 => k_is); (case l13 => k_is); (case c13 => k_is); (case k13 => k_is); (case z0 => k_is); (case z1 => k_is); (case z2 => k_is); (case z3 => k_is); (case z4 => k_is); (case z5 => k_is); (case z6 => k_is); (case z7 => k_is); (case z8 => k_is); (case z9 => k_is); (case z10 => k_is); (case z11 => k_is); (case z12 => k_is); (case vw0 => k_is); (case vt0 => k_is)
