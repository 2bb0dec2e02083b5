import PyProof.Rows.All
import HandS.ForMost
import HandS.Lambda
import HandS.TupAny
import HandS.Wide
import HandS.Exc
import HandS.WordsExc
import HandS.TupMul
import HandS.IsInst
import HandS.Dict
import PyProof.ReprRoads
import HandS.Star
import HandS.Zip
import KE.KTupSum
import HandS.RevTup
import PyProof.ListNew
import PyProof.TupleOfGen
import KE.KDictZip
import HandS.EndTab
import KE.KNest
import KE.KNestM
import HandS.Rev
import KE.DataMinMax
import KE.SortData
import HandS.Style
import KE.KRevSl
import HandS.Conv
import HandS.DictComp
import HandS.SetBool
import HandS.Strs
import HandS.Set
import HandS.SetFor
import HandS.More
import PyProof.ReprLen
import PyProof.FitsInt
import PyProof.Rows.StrJoinMade
import PyProof.Rows.StrDigitsNeg
import HandS.SortKw
import HandS.Iter
import HandS.Deep
import KE.GoesEnum
import HandS.TupLe
import HandS.MethStar
import HandS.ExcField
import HandS.ExcIs
import HandS.ExcValue
import KE.KIsAll
import HandS.ExcInit
import HandS.ClsMeth
import HandS.Defaults
import HandS.Head0
import HandS.Head1
import HandS.Head2
import HandS.HeadHook1
import HandS.HeadHook4
import HandS.Property
import KE.KWithOwn
import PyProof.InstNe
import PyProof.P3Eq
import HandS.StrMore
import PyProof.StrOps2
import HandS.Text
import PyProof.Rows.ReprOcc
import PySem.Challenge.RW_settledlines_k92_whole_edited_as_new
set_option Elab.async false
set_option linter.all false
set_option maxRecDepth 100000
set_option maxHeartbeats 4000000
/-! QA: data without heap: what a value stands for (Rp), what a thing that one name alone holds stands for (Ow), a frame's slots (OwE), what a step leaves (Frm). -/
namespace QL
open PySem PySem.Spec PyProof.Rows L2

abbrev D := PyData
def kD : Key → D
  | .inl i => .int i
  | .inr x => .str x

mutual
/-- the value v stands for the data d, read in the heap part F that never changes -/
inductive Rp (F : Hp) : V → D → Prop
  | non : Rp F .non .none
  | bl (b : Bool) : Rp F (.bl b) (.bool b)
  | int (i : Int) : Rp F (.int i) (.int i)
  | str (x : Str) : Rp F (.str x) (.str x)
  | lst {a : Addr} {xs : List V} {ds : List D} : F a = some (.lst xs) → RpA F xs ds → Rp F (.ref a) (.list ds)
  | tup {a : Addr} {xs : List V} {ds : List D} : Rd F a (.tup xs) → RpA F xs ds → Rp F (.ref a) (.tuple ds)
  | dic {a : Addr} {kvs : List (Key × V)} {ds : List (D × D)} : Rd F a (.dK kvs) → RpK F kvs ds → Rp F (.ref a) (.dict ds)
inductive RpA (F : Hp) : List V → List D → Prop
  | nil : RpA F [] []
  | cons {v : V} {vs : List V} {d : D} {ds : List D} : Rp F v d → RpA F vs ds → RpA F (v :: vs) (d :: ds)
inductive RpK (F : Hp) : List (Key × V) → List (D × D) → Prop
  | nil : RpK F [] []
  | cons {k : Key} {v : V} {vs : List (Key × V)} {d : D} {ds : List (D × D)} : Rp F v d → RpK F vs ds → RpK F ((k, v) :: vs) ((kD k, d) :: ds)
end

theorem rd_mono {F F' : Hp} (s : Same F F') {a : Addr} {u : HO} (h : Rd F a u) : Rd F' a u := by
  rcases h with h | ⟨o, h⟩
  · exact .inl (s _ _ h)
  · exact .inr ⟨o, s _ _ h⟩
mutual
theorem Rp.mono {F F' : Hp} (s : Same F F') : ∀ {v : V} {d : D}, Rp F v d → Rp F' v d
  | _, _, .non => .non
  | _, _, .bl b => .bl b
  | _, _, .int i => .int i
  | _, _, .str x => .str x
  | _, _, .lst h r => .lst (s _ _ h) (RpA.mono s r)
  | _, _, .tup h r => .tup (rd_mono s h) (RpA.mono s r)
  | _, _, .dic h r => .dic (rd_mono s h) (RpK.mono s r)
theorem RpA.mono {F F' : Hp} (s : Same F F') : ∀ {v : List V} {d : List D}, RpA F v d → RpA F' v d
  | _, _, .nil => .nil
  | _, _, .cons h r => .cons (Rp.mono s h) (RpA.mono s r)
theorem RpK.mono {F F' : Hp} (s : Same F F') : ∀ {v : List (Key × V)} {d : List (D × D)}, RpK F v d → RpK F' v d
  | _, _, .nil => .nil
  | _, _, .cons h r => .cons (Rp.mono s h) (RpK.mono s r)
end

/-- what a name of a frame, or a field of an object that one name alone holds, stands for -/
inductive T
  | va (d : D)
  | lst (a : Addr) (ds : List D)
  | dic (a : Addr) (kvs : List (Key × D))
  | fdc (a : Addr) (kvs : List (Key × D))
  | ins (a C : Addr) (fs : List (Str × T))
  | hole (a : Addr)
  | ob (a : Option Addr) (φ : Hp → Hp → List Addr → V → Prop)

def T.addr : T → Option Addr
  | .va _ => none
  | .lst a _ => some a
  | .dic a _ => some a
  | .fdc a _ => some a
  | .ins a _ _ => some a
  | .hole a => some a
  | .ob a _ => a

/-- what stands there is no table of code objects -/
def Held (H : Hp) (a : Addr) : Prop := ∃ o, H a = some o ∧ ∀ ps, o ≠ .tbl ps
theorem Held.ne {H : Hp} {a : Addr} (h : Held H a) : H a ≠ none := by
  obtain ⟨o, e, _⟩ := h
  rw [e]; exact fun z => nomatch z
/-- a thing of another kind stays when its own objects and what is frozen stay -/
structure Stab (a : Option Addr) (φ : Hp → Hp → List Addr → V → Prop) : Prop where
  stay : ∀ F H F' H' O v, φ F H O v → Same F F' → (∀ b ∈ O, H' b = H b) → φ F' H' O v
  held : ∀ F H O v, φ F H O v → ∀ b ∈ O, Held H b
  at_ : ∀ F H O v b, φ F H O v → a = some b → v = .ref b

inductive RpT (F : Hp) : List (Key × V) → List (Key × D) → Prop
  | nil : RpT F [] []
  | cons {k : Key} {v : V} {vs : List (Key × V)} {d : D} {ds : List (Key × D)} : Rp F v d → RpT F vs ds → RpT F ((k, v) :: vs) ((k, d) :: ds)
theorem RpT.mono {F F' : Hp} (s : Same F F') : ∀ {v : List (Key × V)} {d : List (Key × D)}, RpT F v d → RpT F' v d
  | _, _, .nil => .nil
  | _, _, .cons h r => .cons (h.mono s) (RpT.mono s r)

mutual
inductive Ow (F H : Hp) : List Addr → V → T → Prop
  | va {v : V} {d : D} : Rp F v d → Ow F H [] v (.va d)
  | lst {a : Addr} {xs : List V} {ds : List D} : H a = some (.lst xs) → RpA F xs ds → Ow F H [a] (.ref a) (.lst a ds)
  | dic {a : Addr} {kvs : List (Key × V)} {ds : List (Key × D)} : H a = some (.dK kvs) → RpT F kvs ds → Ow F H [a] (.ref a) (.dic a ds)
  | fdc {a : Addr} {o : Obj} {kvs : List (Key × V)} {ds : List (Key × D)} : F a = some (.frz o (.dK kvs)) → RpT F kvs ds → Ow F H [] (.ref a) (.fdc a ds)
  | ins {a dx C : Addr} {vs : List (Str × V)} {fs : List (Str × T)} {O : List Addr} : H a = some (.ins C dx vs) → H dx = some (.own a) → OwF F H O vs fs → Ow F H (a :: dx :: O) (.ref a) (.ins a C fs)
  | hole {a : Addr} : Ow F H [] (.ref a) (.hole a)
  | ob {a : Option Addr} {φ : Hp → Hp → List Addr → V → Prop} {O : List Addr} {v : V} : φ F H O v → Stab a φ → Ow F H O v (.ob a φ)
inductive OwF (F H : Hp) : List Addr → List (Str × V) → List (Str × T) → Prop
  | nil : OwF F H [] [] []
  | cons {n : Str} {v : V} {t : T} {vs : List (Str × V)} {ts : List (Str × T)} {O1 O2 : List Addr} : Ow F H O1 v t → OwF F H O2 vs ts → OwF F H (O1 ++ O2) ((n, v) :: vs) ((n, t) :: ts)
end

mutual
theorem Ow.stay {F H F' H' : Hp} (s : Same F F') : ∀ {O : List Addr} {v : V} {t : T}, Ow F H O v t → (∀ a ∈ O, H' a = H a) → Ow F' H' O v t
  | _, _, _, .va r, _ => .va (r.mono s)
  | _, _, _, .lst h r, k => .lst ((k _ (List.mem_singleton.mpr rfl)).trans h) (r.mono s)
  | _, _, _, .dic h r, k => .dic ((k _ (List.mem_singleton.mpr rfl)).trans h) (r.mono s)
  | _, _, _, .fdc h r, k => .fdc (s _ _ h) (r.mono s)
  | _, _, _, .ins h1 h2 r, k => .ins ((k _ List.mem_cons_self).trans h1) ((k _ (List.mem_cons_of_mem _ List.mem_cons_self)).trans h2)
      (OwF.stay s r fun a ha => k a (List.mem_cons_of_mem _ (List.mem_cons_of_mem _ ha)))
  | _, _, _, .hole, _ => .hole
  | _, _, _, .ob h st, k => .ob (st.stay _ _ _ _ _ _ h s k) st
theorem OwF.stay {F H F' H' : Hp} (s : Same F F') : ∀ {O : List Addr} {v : List (Str × V)} {t : List (Str × T)}, OwF F H O v t → (∀ a ∈ O, H' a = H a) → OwF F' H' O v t
  | _, _, _, .nil, _ => .nil
  | _, _, _, .cons h r, k => .cons (Ow.stay s h fun a ha => k a (List.mem_append_left _ ha)) (OwF.stay s r fun a ha => k a (List.mem_append_right _ ha))
end
mutual
theorem Ow.held {F H : Hp} : ∀ {O : List Addr} {v : V} {t : T}, Ow F H O v t → ∀ a ∈ O, Held H a
  | _, _, _, .va r, a, ha => nomatch ha
  | _, _, _, .lst h r, a, ha => by rw [List.mem_singleton.mp ha]; exact ⟨_, h, fun _ z => nomatch z⟩
  | _, _, _, .dic h r, a, ha => by rw [List.mem_singleton.mp ha]; exact ⟨_, h, fun _ z => nomatch z⟩
  | _, _, _, .fdc h r, a, ha => nomatch ha
  | _, _, _, .ins h1 h2 r, a, ha => by
    rcases List.mem_cons.mp ha with rfl | ha
    · exact ⟨_, h1, fun _ z => nomatch z⟩
    rcases List.mem_cons.mp ha with rfl | ha
    · exact ⟨_, h2, fun _ z => nomatch z⟩
    · exact OwF.held r a ha
  | _, _, _, .hole, a, ha => nomatch ha
  | _, _, _, .ob h st, a, ha => st.held _ _ _ _ h a ha
theorem OwF.held {F H : Hp} : ∀ {O : List Addr} {v : List (Str × V)} {t : List (Str × T)}, OwF F H O v t → ∀ a ∈ O, Held H a
  | _, _, _, .nil, a, ha => nomatch ha
  | _, _, _, .cons h r, a, ha => (List.mem_append.mp ha).elim (Ow.held h a) (OwF.held r a)
end
theorem Ow.there {F H : Hp} {O : List Addr} {v : V} {t : T} (h : Ow F H O v t) (a : Addr) (ha : a ∈ O) : H a ≠ none := (h.held a ha).ne
theorem OwF.there {F H : Hp} {O : List Addr} {v : List (Str × V)} {t : List (Str × T)} (h : OwF F H O v t) (a : Addr) (ha : a ∈ O) : H a ≠ none := (h.held a ha).ne
theorem Ow.ref {F H : Hp} {O : List Addr} {v : V} {t : T} {a : Addr} (h : Ow F H O v t) (e : t.addr = some a) : v = .ref a := by
  cases h with
  | va r => cases e
  | lst h r => cases e; rfl
  | dic h r => cases e; rfl
  | fdc h r => cases e; rfl
  | ins h1 h2 r => cases e; rfl
  | hole => cases e; rfl
  | ob h st => exact st.at_ _ _ _ _ _ h e

abbrev Env := List (Option T)
inductive OwE (F H : Hp) : List Addr → L2.St → Env → Prop
  | nil : OwE F H [] [] []
  | un {O : List Addr} {σ : L2.St} {e : Env} {x : Option V} : OwE F H O σ e → OwE F H O (x :: σ) (none :: e)
  | so {O1 O2 : List Addr} {σ : L2.St} {e : Env} {v : V} {t : T} : Ow F H O1 v t → OwE F H O2 σ e → OwE F H (O1 ++ O2) (some v :: σ) (some t :: e)
theorem OwE.stay {F H F' H' : Hp} (s : Same F F') : ∀ {O : List Addr} {σ : L2.St} {e : Env}, OwE F H O σ e → (∀ a ∈ O, H' a = H a) → OwE F' H' O σ e
  | _, _, _, .nil, _ => .nil
  | _, _, _, .un r, k => .un (OwE.stay s r k)
  | _, _, _, .so h r, k => .so (h.stay s fun a ha => k a (List.mem_append_left _ ha)) (OwE.stay s r fun a ha => k a (List.mem_append_right _ ha))
theorem OwE.held {F H : Hp} : ∀ {O : List Addr} {σ : L2.St} {e : Env}, OwE F H O σ e → ∀ a ∈ O, Held H a
  | _, _, _, .nil, a, ha => nomatch ha
  | _, _, _, .un r, a, ha => OwE.held r a ha
  | _, _, _, .so h r, a, ha => (List.mem_append.mp ha).elim (Ow.held h a) (OwE.held r a)
theorem OwE.there {F H : Hp} {O : List Addr} {σ : L2.St} {e : Env} (h : OwE F H O σ e) (a : Addr) (ha : a ∈ O) : H a ≠ none := (h.held a ha).ne
theorem OwE.len {F H : Hp} : ∀ {O : List Addr} {σ : L2.St} {e : Env}, OwE F H O σ e → σ.length = e.length
  | _, _, _, .nil => rfl
  | _, _, _, .un r => congrArg (· + 1) (OwE.len r)
  | _, _, _, .so _ r => congrArg (· + 1) (OwE.len r)

/-! ### places within a thing -/
def getT : List Str → T → Option T
  | [], t => some t
  | f :: p, .ins _ _ fs => match fs.lookup f with
    | some t => getT p t
    | none => none
  | _ :: _, _ => none
/-- the first field of that name, replaced -/
def repF (f : Str) (u : T) : List (Str × T) → List (Str × T)
  | [] => []
  | (n, t) :: r => if f == n then (n, u) :: r else (n, t) :: repF f u r
theorem repF_hit {f n : Str} {u t : T} {r : List (Str × T)} (h : (f == n) = true) : repF f u ((n, t) :: r) = (n, u) :: r := by unfold repF; rw [if_pos h]
theorem repF_miss {f n : Str} {u t : T} {r : List (Str × T)} (h : (f == n) = false) : repF f u ((n, t) :: r) = (n, t) :: repF f u r := by
  conv => lhs; unfold repF
  rw [if_neg (by rw [h]; exact Bool.false_ne_true)]
def setT : List Str → T → T → T
  | [], u, _ => u
  | f :: p, u, .ins a C fs => match fs.lookup f with
    | some t => .ins a C (repF f (setT p u t) fs)
    | none => .ins a C fs
  | _ :: _, _, t => t
def getP (i : Nat) (p : List Str) (env : Env) : Option T := match env[i]? with
  | some (some t) => getT p t
  | _ => none
def setO (p : List Str) (u : T) : Option T → Option T
  | some t => some (setT p u t)
  | none => none
def setP : Nat → List Str → T → Env → Env
  | _, _, _, [] => []
  | 0, p, u, o :: e => setO p u o :: e
  | i + 1, p, u, o :: e => o :: setP i p u e
theorem setP_eq {p : List Str} {u t : T} : ∀ {i : Nat} {env : Env}, env[i]? = some (some t) → setP i p u env = env.set i (some (setT p u t))
  | _, [], h => nomatch h
  | 0, o :: e, h => by cases h; rfl
  | i + 1, o :: e, h => congrArg (o :: ·) (setP_eq (i := i) (env := e) h)

/-- a part of a thing is taken out, and another one put there -/
def Hung (F H : Hp) (O : List Addr) (w : V) (u : T) (R : Hp → Hp → List Addr → T → Prop) : Prop :=
  ∃ Oj O', Ow F H Oj w u ∧ O.Perm (Oj ++ O') ∧ ∀ F' H' Oj' u', Same F F' → (∀ a ∈ O', H' a = H a) → Ow F' H' Oj' w u' → ∃ O'', R F' H' O'' u' ∧ O''.Perm (Oj' ++ O')

theorem perm_mid {α : Type} {A B C E : List α} (h : B.Perm (C ++ E)) : (A ++ B).Perm (C ++ (A ++ E)) :=
  (h.append_left A).trans (by rw [← List.append_assoc, ← List.append_assoc]; exact (List.perm_append_comm).append_right E)

theorem OwF.focus {F H : Hp} {f : Str} : ∀ {fs : List (Str × T)} {vs : List (Str × V)} {O : List Addr} {t : T}, OwF F H O vs fs → fs.lookup f = some t →
    ∃ w, Hung F H O w t (fun F' H' O'' u' => OwF F' H' O'' vs (repF f u' fs))
  | [], _, _, _, _, e => nomatch e
  | (n, t0) :: fs, _, _, t, .cons (O1 := O1) (O2 := O2) h r, e => by
    rw [List.lookup_cons] at e
    cases hb : f == n with
    | true =>
      rw [hb] at e
      cases e
      refine ⟨_, O1, O2, h, List.Perm.refl _, fun F' H' Oj' u' s k h' => ⟨Oj' ++ O2, ?_, List.Perm.refl _⟩⟩
      show OwF _ _ _ _ (repF f u' ((n, t0) :: fs))
      rw [repF_hit hb]
      exact .cons h' (r.stay s k)
    | false =>
      rw [hb] at e
      obtain ⟨w, Oj, O', h1, h2, h3⟩ := OwF.focus r e
      refine ⟨w, Oj, O1 ++ O', h1, perm_mid h2, fun F' H' Oj' u' s k h' => ?_⟩
      obtain ⟨O'', q1, q2⟩ := h3 F' H' Oj' u' s (fun a ha => k a (List.mem_append_right _ ha)) h'
      refine ⟨O1 ++ O'', ?_, perm_mid q2⟩
      show OwF _ _ _ _ (repF f u' ((n, t0) :: fs))
      rw [repF_miss hb]
      exact .cons (h.stay s fun a ha => k a (List.mem_append_left _ ha)) q1

theorem Ow.focus {F H : Hp} : ∀ {p : List Str} {t u : T} {O : List Addr} {v : V}, Ow F H O v t → getT p t = some u →
    ∃ w, Hung F H O w u (fun F' H' O'' u' => Ow F' H' O'' v (setT p u' t)) ∧ (p = [] → w = v)
  | [], t, u, O, v, h, e => by
    cases e
    exact ⟨v, ⟨O, [], h, by rw [List.append_nil], fun F' H' Oj' u' _ _ h' => ⟨Oj', h', by rw [List.append_nil]⟩⟩, fun _ => rfl⟩
  | f :: p, t, u, O, v, h, e => by
    cases t with
    | ins a C fs =>
      cases h with
      | ins h1 h2 r =>
        rename_i dx vs Of
        unfold getT at e
        cases hl : fs.lookup f with
        | none => rw [hl] at e; cases e
        | some t1 =>
          rw [hl] at e
          obtain ⟨w1, Oj1, O1', g1, g2, g3⟩ := OwF.focus r hl
          obtain ⟨w, ⟨Oj, O', k1, k2, k3⟩, _⟩ := Ow.focus (p := p) g1 e
          refine ⟨w, ⟨Oj, a :: dx :: (O' ++ O1'), k1, ?_, fun F' H' Oj' u' s k h' => ?_⟩, fun z => nomatch z⟩
          · have e1 : Of.Perm (Oj ++ (O' ++ O1')) := g2.trans (by rw [← List.append_assoc]; exact k2.append_right O1')
            exact perm_mid (A := [a, dx]) e1
          · obtain ⟨O2, q1, q2⟩ := k3 F' H' Oj' u' s (fun b hb => k b (List.mem_cons_of_mem _ (List.mem_cons_of_mem _ (List.mem_append_left _ hb)))) h'
            obtain ⟨O3, q3, q4⟩ := g3 F' H' O2 _ s (fun b hb => k b (List.mem_cons_of_mem _ (List.mem_cons_of_mem _ (List.mem_append_right _ hb)))) q1
            refine ⟨a :: dx :: O3, ?_, ?_⟩
            · unfold setT
              rw [hl]
              exact .ins ((k _ List.mem_cons_self).trans h1) ((k _ (List.mem_cons_of_mem _ List.mem_cons_self)).trans h2) q3
            · have e1 : O3.Perm (Oj' ++ (O' ++ O1')) := q4.trans (by rw [← List.append_assoc]; exact q2.append_right O1')
              exact perm_mid (A := [a, dx]) e1
    | va d => cases e
    | lst a ds => cases e
    | dic a ds => cases e
    | fdc a ds => cases e
    | hole a => cases e
    | ob a φ => cases e

theorem OwE.focusI {F H : Hp} : ∀ {env : Env} {σ : L2.St} {O : List Addr} {i : Nat} {t : T}, OwE F H O σ env → env[i]? = some (some t) →
    ∃ w, σ[i]? = some (some w) ∧ Hung F H O w t (fun F' H' O'' u' => OwE F' H' O'' σ (env.set i (some u')))
  | _, _, _, _, _, .nil, e => nomatch e
  | _, _, _, 0, t, .un r, e => by cases e
  | _, _, _, i + 1, t, .un r, e => by
    obtain ⟨w, g, Oj, O', h1, h2, h3⟩ := OwE.focusI r (i := i) e
    refine ⟨w, g, Oj, O', h1, h2, fun F' H' Oj' u' s k h' => ?_⟩
    obtain ⟨O'', q1, q2⟩ := h3 F' H' Oj' u' s k h'
    exact ⟨O'', .un q1, q2⟩
  | _, _, _, 0, t, .so (O1 := O1) (O2 := O2) h r, e => by
    cases e
    refine ⟨_, rfl, O1, O2, h, List.Perm.refl _, fun F' H' Oj' u' s k h' => ⟨Oj' ++ O2, .so h' (r.stay s k), List.Perm.refl _⟩⟩
  | _, _, _, i + 1, t, .so (O1 := O1) (O2 := O2) h r, e => by
    obtain ⟨w, g, Oj, O', h1, h2, h3⟩ := OwE.focusI r (i := i) e
    refine ⟨w, g, Oj, O1 ++ O', h1, perm_mid h2, fun F' H' Oj' u' s k h' => ?_⟩
    obtain ⟨O'', q1, q2⟩ := h3 F' H' Oj' u' s (fun a ha => k a (List.mem_append_right _ ha)) h'
    exact ⟨O1 ++ O'', .so (h.stay s fun a ha => k a (List.mem_append_left _ ha)) q1, perm_mid q2⟩

theorem OwE.focus {F H : Hp} {env : Env} {σ : L2.St} {O : List Addr} {i : Nat} {p : List Str} {u : T} (h : OwE F H O σ env) (e : getP i p env = some u) :
    ∃ w, Hung F H O w u (fun F' H' O'' u' => OwE F' H' O'' σ (setP i p u' env)) ∧ (p = [] → σ[i]? = some (some w)) := by
  unfold getP at e
  cases hi : env[i]? with
  | none => rw [hi] at e; cases e
  | some o =>
    cases o with
    | none => rw [hi] at e; cases e
    | some t =>
      rw [hi] at e
      obtain ⟨w0, g0, Oj0, O0', h1, h2, h3⟩ := OwE.focusI h hi
      obtain ⟨w, ⟨Oj, O', k1, k2, k3⟩, k4⟩ := h1.focus e
      refine ⟨w, ⟨Oj, O' ++ O0', k1, h2.trans (by rw [← List.append_assoc]; exact k2.append_right O0'), fun F' H' Oj' u' s k h' => ?_⟩, fun z => by rw [k4 z]; exact g0⟩
      obtain ⟨O2, q1, q2⟩ := k3 F' H' Oj' u' s (fun b hb => k b (List.mem_append_left _ hb)) h'
      obtain ⟨O3, q3, q4⟩ := h3 F' H' O2 _ s (fun b hb => k b (List.mem_append_right _ hb)) q1
      refine ⟨O3, ?_, q4.trans (by rw [← List.append_assoc]; exact q2.append_right O0')⟩
      show OwE F' H' O3 σ (setP i p u' env)
      rw [setP_eq hi]
      exact q3

/-! ### the state -/
/-- the table at p tells the code object at c -/
def Told (H : Hp) (p c : Addr) : Prop := ∃ (ps : Array Value) (pos : Pos), H p = some (.tbl ps) ∧ codeAmong pos ps.toList = some (.ref c)
theorem Told.code {H : Hp} {p c : Addr} {q : Str} (t : Told H p c) (s : LamX.TabS H p q) : H c = some (LamX.CodeO c q) := by
  obtain ⟨ps, pos, h1, h2⟩ := t
  obtain ⟨ps', g1, _, g3⟩ := s
  rw [h1] at g1
  cases g1
  obtain ⟨c', e1, e2⟩ := g3 pos _ h2
  cases e1
  exact e2
/-- the tables grow alone -/
def TabM (Tq : List (Addr × Str)) (H0 H : Hp) : Prop := ∀ p ∈ Tq, LamX.TabS H0 p.1 p.2 → LamX.TabS H p.1 p.2 ∧ ∀ c, Told H0 p.1 c → Told H p.1 c
theorem TabM.refl {Tq : List (Addr × Str)} (H : Hp) : TabM Tq H H := fun _ _ h => ⟨h, fun _ z => z⟩
theorem TabM.trans {Tq : List (Addr × Str)} {H0 H1 H2 : Hp} (a : TabM Tq H0 H1) (b : TabM Tq H1 H2) : TabM Tq H0 H2 := fun p m t => ⟨(b p m (a p m t).1).1, fun c z => (b p m (a p m t).1).2 c ((a p m t).2 c z)⟩
/-- what a step leaves -/
structure Frm (Tq : List (Addr × Str)) (H0 F0 : Hp) (O0 : List Addr) (H F : Hp) (O : List Addr) : Prop where
  fz : Same F0 F
  out : ∀ a o, H0 a = some o → (∀ ps, o ≠ .tbl ps) → a ∉ O0 → H a = some o
  al : ∀ a, H0 a ≠ none → H a ≠ none
  newF : ∀ a, F a ≠ none → F0 a ≠ none ∨ H0 a = none ∨ a ∈ O0
  newO : ∀ a ∈ O, a ∈ O0 ∨ H0 a = none
  tb : TabM Tq H0 H
theorem Frm.refl {Tq : List (Addr × Str)} (H F : Hp) (O : List Addr) : Frm Tq H F O H F O := ⟨Same.refl _, fun _ _ h _ _ => h, fun _ h => h, fun _ h => .inl h, fun _ h => .inl h, TabM.refl _⟩
/-- one object is written: no table, no code object of a table -/
theorem tab_upd {Tq : List (Addr × Str)} {H : Hp} {a : Addr} {x : HO} (h : ∀ o, H a = some o → (∀ ps, o ≠ .tbl ps) ∧ ∀ q, o ≠ LamX.CodeO a q) : TabM Tq H (upd H a x) := fun p m t => by
  obtain ⟨ps, h1, h2, h3⟩ := t
  have k : upd H a x p.1 = H p.1 := upd_ne fun z => by rw [z] at h1; exact (h _ h1).1 _ rfl
  refine ⟨⟨ps, k.trans h1, h2, fun pos cv hc => ?_⟩, fun c ⟨ps', pos, g1, g2⟩ => ⟨ps', pos, k.trans g1, g2⟩⟩
  obtain ⟨c, e1, e2⟩ := h3 pos cv hc
  exact ⟨c, e1, by rw [upd_ne fun z => by subst z; exact (h _ e2).2 _ rfl]; exact e2⟩
theorem tab_own {Tq : List (Addr × Str)} {H : Hp} {a : Addr} {o x : HO} (h : H a = some o) (nt : ∀ ps, o ≠ .tbl ps := by intro _ z; nomatch z) (nc : ∀ q, o ≠ LamX.CodeO a q := by intro _ z; nomatch z) : TabM Tq H (upd H a x) := tab_upd fun o' e => by rw [h] at e; cases e; exact ⟨nt, nc⟩
theorem tab_new {Tq : List (Addr × Str)} {H : Hp} {a : Addr} {x : HO} (h : H a = none) : TabM Tq H (upd H a x) := tab_upd fun o e => by rw [h] at e; cases e
theorem tab_same {Tq : List (Addr × Str)} {H H' : Hp} (s : Same H H') : TabM Tq H H' := fun p m t => ⟨t.ext s, fun c ⟨ps, pos, g1, g2⟩ => ⟨ps, pos, s _ _ g1, g2⟩⟩
/-- the tables: no part of what is frozen or held -/
structure TabZ (Tq : List (Addr × Str)) (H F : Hp) (O : List Addr) : Prop where
  tabs : ∀ p ∈ Tq, p.2 ≠ "()" → LamX.TabS H p.1 p.2
  tn : ∀ p ∈ Tq, p.2 ≠ "()" → F p.1 = none
  to : ∀ p ∈ Tq, p.2 ≠ "()" → p.1 ∉ O
  em : ∀ p ∈ Tq, p.2 = "()" → Rd F p.1 (.tup [])
theorem Frm.trans {Tq : List (Addr × Str)} {H0 F0 H1 F1 H2 F2 : Hp} {O0 O1 O2 : List Addr} (a : Frm Tq H0 F0 O0 H1 F1 O1) (b : Frm Tq H1 F1 O1 H2 F2 O2) : Frm Tq H0 F0 O0 H2 F2 O2 where
  fz := a.fz.trans b.fz
  out := fun c o h nt n => b.out c o (a.out c o h nt n) nt fun z => (a.newO c z).elim n fun q => by rw [q] at h; cases h
  tb := a.tb.trans b.tb
  al := fun c h => b.al c (a.al c h)
  newF := fun c h => by
    rcases b.newF c h with z | z | z
    · exact a.newF c z
    · refine .inr (.inl ?_)
      cases q : H0 c with
      | none => rfl
      | some o => exact absurd z (a.al c (by rw [q]; exact fun z => nomatch z))
    · exact (a.newO c z).elim (fun q => .inr (.inr q)) fun q => .inr (.inl q)
  newO := fun c h => by
    rcases b.newO c h with z | z
    · exact a.newO c z
    · refine .inr ?_
      cases q : H0 c with
      | none => rfl
      | some o => exact absurd z (a.al c (by rw [q]; exact fun z => nomatch z))
/-- only the list of the held objects is written otherwise -/
theorem Frm.perm {Tq : List (Addr × Str)} {H0 F0 H F : Hp} {O0 O0' O O' : List Addr} (a : Frm Tq H0 F0 O0 H F O) (h0 : ∀ b, b ∈ O0 ↔ b ∈ O0') (h : ∀ b ∈ O', b ∈ O) : Frm Tq H0 F0 O0' H F O' :=
  ⟨a.fz, fun c o e nt n => a.out c o e nt fun z => n ((h0 c).mp z), a.al, fun c e => (a.newF c e).imp_right (·.imp_right (h0 c).mp), fun c e => (a.newO c (h c e)).imp_left (h0 c).mp, a.tb⟩
/-- a step of a part, the other held objects aside -/
theorem Frm.frame {Tq : List (Addr × Str)} {H0 F0 H F : Hp} {O0 O R : List Addr} (a : Frm Tq H0 F0 O0 H F O) : Frm Tq H0 F0 (O0 ++ R) H F (O ++ R) where
  fz := a.fz
  out := fun c o e nt n => a.out c o e nt fun z => n (List.mem_append_left _ z)
  tb := a.tb
  al := a.al
  newF := fun c e => (a.newF c e).imp_right (·.imp_right (List.mem_append_left _))
  newO := fun c e => (List.mem_append.mp e).elim (fun z => (a.newO c z).imp_left (List.mem_append_left _)) fun z => .inl (List.mem_append_right _ z)
/-- the state at a def's entry; Tq: the tables of code objects that are known -/
structure Zb (Tq : List (Addr × Str)) where
  H : Hp
  F : Hp
  O : List Addr
  tb : TabZ Tq H F O
/-- F never changes; O are the objects that are held by one name alone; Z: the entry -/
structure Bas {Tq : List (Addr × Str)} (Z : Zb Tq) (F H : Hp) (O : List Addr) : Prop where
  sub : Same F H
  nd : O.Nodup
  dis : ∀ a ∈ O, F a = none
  abs : Frm Tq Z.H Z.F Z.O H F O
/-- the other held objects stand as they were -/
theorem Frm.rest {Tq : List (Addr × Str)} {H0 F0 H F : Hp} {O0 O R : List Addr} (a : Frm Tq H0 F0 O0 H F O) (nd : (O0 ++ R).Nodup) (ex : ∀ b ∈ R, Held H0 b) : ∀ b ∈ R, H b = H0 b := fun b hb => by
  obtain ⟨o, q, nt⟩ := ex b hb
  rw [q]
  exact a.out b o q nt fun z => (List.nodup_append.mp nd).2.2 b z b hb rfl
theorem Bas.frame {Tq : List (Addr × Str)} {Z Z' : Zb Tq} {H0 F0 H F : Hp} {O0 O R : List Addr} (a : Frm Tq H0 F0 O0 H F O) (b0 : Bas Z F0 H0 (O0 ++ R)) (b : Bas Z' F H O) (ex : ∀ c ∈ R, Held H0 c) : Bas Z F H (O ++ R) := by
  refine ⟨b.sub, List.nodup_append.mpr ⟨b.nd, (List.nodup_append.mp b0.nd).2.1, fun x hx y hy e => ?_⟩, fun c hc => ?_, b0.abs.trans a.frame⟩
  · subst e
    rcases a.newO x hx with z | z
    · exact (List.nodup_append.mp b0.nd).2.2 x z x hy rfl
    · exact (ex x hy).ne z
  · rcases List.mem_append.mp hc with z | z
    · exact b.dis c z
    · cases q : F c with
      | none => rfl
      | some o =>
        rcases a.newF c (by rw [q]; exact fun z => nomatch z) with r | r | r
        · exact absurd (b0.dis c (List.mem_append_right _ z)) r
        · exact absurd r (ex c z).ne
        · exact absurd rfl ((List.nodup_append.mp b0.nd).2.2 c r c z)
theorem Bas.perm {Tq : List (Addr × Str)} {Z : Zb Tq} {F H : Hp} {O O' : List Addr} (b : Bas Z F H O) (p : O.Perm O') : Bas Z F H O' := ⟨b.sub, p.nodup b.nd, fun a ha => b.dis a (p.mem_iff.mpr ha), b.abs.perm (fun _ => Iff.rfl) fun c hc => p.mem_iff.mpr hc⟩
theorem Bas.left {Tq : List (Addr × Str)} {Z : Zb Tq} {F H : Hp} {O R : List Addr} (b : Bas Z F H (O ++ R)) : Bas Z F H O := ⟨b.sub, (List.nodup_append.mp b.nd).1, fun a ha => b.dis a (List.mem_append_left _ ha), b.abs.perm (fun _ => Iff.rfl) fun c hc => List.mem_append_left _ hc⟩
theorem Bas.right {Tq : List (Addr × Str)} {Z : Zb Tq} {F H : Hp} {O R : List Addr} (b : Bas Z F H (O ++ R)) : Bas Z F H R := ⟨b.sub, (List.nodup_append.mp b.nd).2.1, fun a ha => b.dis a (List.mem_append_right _ ha), b.abs.perm (fun _ => Iff.rfl) fun c hc => List.mem_append_right _ hc⟩
theorem Bas.tabs {F H : Hp} {O : List Addr} {Tq : List (Addr × Str)} {Z : Zb Tq} (b : Bas Z F H O) : TabZ Tq H F O :=
  have no : ∀ p ∈ Tq, p.2 ≠ "()" → Z.H p.1 ≠ none := fun p hp ne z => by
    obtain ⟨ps, h, _⟩ := Z.tb.tabs p hp ne
    rw [z] at h
    cases h
  ⟨fun p hp ne => (b.abs.tb p hp (Z.tb.tabs p hp ne)).1, fun p hp ne => by
    cases q : F p.1 with
    | none => rfl
    | some x =>
      rcases b.abs.newF p.1 (by rw [q]; exact fun z => nomatch z) with y | y | y
      · exact absurd (Z.tb.tn p hp ne) y
      · exact absurd y (no p hp ne)
      · exact absurd y (Z.tb.to p hp ne), fun p hp ne z => (b.abs.newO p.1 z).elim (Z.tb.to p hp ne) (no p hp ne), fun p hp e => rd_mono b.abs.fz (Z.tb.em p hp e)⟩
theorem Bas.entry {F H : Hp} {O : List Addr} {Tq : List (Addr × Str)} {Z : Zb Tq} (b : Bas Z F H O) : Bas ⟨H, F, O, b.tabs⟩ F H O := ⟨b.sub, b.nd, b.dis, Frm.refl _ _ _⟩
end QL

/-! QB: what an expression gives, over data: WE (a result), WA (an argument), WAs, WT (a test); WS, WSs (statements). -/
namespace QL
open PySem PySem.Spec PyProof.Rows L2

/-- a result: a thing of its own, or what stands at a place of a name (an object that this name holds) -/
inductive R
  | t (t : T)
  | bor (a : Addr) (i : Nat) (p : List Str)
/-- an argument -/
inductive A
  | va (d : D)
  | bor (a : Addr) (i : Nat) (p : List Str)

def frzT : T → Option D
  | .va d => some d
  | .lst _ ds => some (.list ds)
  | .dic _ kvs => some (.dict (kvs.map fun p => (kD p.1, p.2)))
  | .fdc _ kvs => some (.dict (kvs.map fun p => (kD p.1, p.2)))
  | _ => none
def toA (r : R) (k : A → Prop) : Prop := match r with
  | .bor a i p => k (.bor a i p)
  | .t t => match frzT t with
    | some d => k (.va d)
    | none => False

def StR (F H : Hp) (O : List Addr) (σ : L2.St) (env : Env) (v : V) : R → Prop
  | .t t => ∃ O1 O2, O = O1 ++ O2 ∧ OwE F H O1 σ env ∧ Ow F H O2 v t
  | .bor a _ _ => OwE F H O σ env ∧ v = .ref a
def StA (F : Hp) (v : V) : A → Prop
  | .va d => Rp F v d
  | .bor a _ _ => v = .ref a
theorem StA.mono {F F' : Hp} (s : Same F F') {v : V} {a : A} (h : StA F v a) : StA F' v a := by
  cases a with
  | va d => exact Rp.mono s h
  | bor a i p => exact h
inductive StAs (F : Hp) : List V → List A → Prop
  | nil : StAs F [] []
  | cons {v : V} {vs : List V} {a : A} {as : List A} : StA F v a → StAs F vs as → StAs F (v :: vs) (a :: as)
theorem StAs.mono {F F' : Hp} (s : Same F F') : ∀ {v : List V} {a : List A}, StAs F v a → StAs F' v a
  | _, _, .nil => .nil
  | _, _, .cons h r => .cons (h.mono s) (StAs.mono s r)

/-! ### freezing -/
def frzF (F H : Hp) (O : List Addr) : Hp := fun a => if a ∈ O then H a else F a
theorem frzF_in {F H : Hp} {O : List Addr} {a : Addr} (h : a ∈ O) : frzF F H O a = H a := by unfold frzF; rw [if_pos h]
theorem frzF_out {F H : Hp} {O : List Addr} {a : Addr} (h : a ∉ O) : frzF F H O a = F a := by unfold frzF; rw [if_neg h]
theorem frzF_from {F H : Hp} {O : List Addr} (d : ∀ a ∈ O, F a = none) : Same F (frzF F H O) := fun b o e => by
  by_cases h : b ∈ O
  · rw [d b h] at e; cases e
  · rw [frzF_out h]; exact e
theorem frzF_to {F H : Hp} {O : List Addr} (s : Same F H) : Same (frzF F H O) H := fun b o e => by
  by_cases h : b ∈ O
  · rw [frzF_in h] at e; exact e
  · rw [frzF_out h] at e; exact s b o e
theorem RpT.rpk {F : Hp} : ∀ {vs : List (Key × V)} {ds : List (Key × D)}, RpT F vs ds → RpK F vs (ds.map fun p => (kD p.1, p.2))
  | _, _, .nil => .nil
  | _, _, .cons h r => .cons h r.rpk
theorem Ow.frz {F H F' : Hp} {O : List Addr} {v : V} {t : T} {d : D} (h : Ow F H O v t) (s : Same F F') (k : ∀ a ∈ O, F' a = H a) (f : frzT t = some d) : Rp F' v d := by
  cases h with
  | va r => cases f; exact r.mono s
  | lst h r => cases f; exact .lst ((k _ (List.mem_singleton.mpr rfl)).trans h) (r.mono s)
  | dic h r => cases f; exact .dic (.inl ((k _ (List.mem_singleton.mpr rfl)).trans h)) (r.rpk.mono s)
  | fdc h r => cases f; exact .dic (.inr ⟨_, s _ _ h⟩) (r.rpk.mono s)
  | ins h1 h2 r => cases f
  | hole => cases f
  | ob h st => cases f
/-- a part of what is held is held no more: it never changes from now on -/
theorem Bas.freeze {Tq : List (Addr × Str)} {Z : Zb Tq} {F H : Hp} {O1 O2 : List Addr} (b : Bas Z F H (O1 ++ O2)) : Bas Z (frzF F H O2) H O1 ∧ Same F (frzF F H O2) ∧ (∀ a ∈ O2, frzF F H O2 a = H a) ∧ Frm Tq H F (O1 ++ O2) H (frzF F H O2) O1 := by
  have s : Same F (frzF F H O2) := frzF_from b.right.dis
  have fr : Frm Tq H F (O1 ++ O2) H (frzF F H O2) O1 := ⟨s, fun _ _ h _ _ => h, fun _ h => h, fun a h => by
    by_cases q : a ∈ O2
    · exact .inr (.inr (List.mem_append_right _ q))
    · rw [frzF_out q] at h
      exact .inl h, fun a ha => .inl (List.mem_append_left _ ha), TabM.refl _⟩
  refine ⟨⟨frzF_to b.sub, b.left.nd, fun a ha => ?_, b.abs.trans fr⟩, s, fun a ha => frzF_in ha, fr⟩
  rw [frzF_out fun z => (List.nodup_append.mp b.nd).2.2 a ha a z rfl]
  exact b.left.dis a ha

/-! ### expressions -/
def Post {Tq : List (Addr × Str)} (Z : Zb Tq) (σ : L2.St) (H0 F0 : Hp) (O0 : List Addr) (P : R → Env → Prop) : VK := fun v H => ∃ F O r env, Bas Z F H O ∧ StR F H O σ env v r ∧ Frm Tq H0 F0 O0 H F O ∧ P r env
def PostA {Tq : List (Addr × Str)} (Z : Zb Tq) (σ : L2.St) (H0 F0 : Hp) (O0 : List Addr) (P : A → Env → Prop) : VK := fun v H => ∃ F O a env, Bas Z F H O ∧ OwE F H O σ env ∧ StA F v a ∧ Frm Tq H0 F0 O0 H F O ∧ P a env
def PostAs {Tq : List (Addr × Str)} (Z : Zb Tq) (σ : L2.St) (H0 F0 : Hp) (O0 : List Addr) (P : List A → Env → Prop) : List V → Hp → Prop := fun vs H => ∃ F O as env, Bas Z F H O ∧ OwE F H O σ env ∧ StAs F vs as ∧ Frm Tq H0 F0 O0 H F O ∧ P as env
def PostT {Tq : List (Addr × Str)} (Z : Zb Tq) (σ : L2.St) (H0 F0 : Hp) (O0 : List Addr) (P : Bool → Env → Prop) : Bool → Hp → Prop := fun b H => ∃ F O env, Bas Z F H O ∧ OwE F H O σ env ∧ Frm Tq H0 F0 O0 H F O ∧ P b env

def WE {Tq : List (Addr × Str)} (Z : Zb Tq) (X : Cx) (e : Expr) (env : Env) (P : R → Env → Prop) : Prop :=
  ∀ (pins : List (Addr × Obj)) (s : Shared) (σ : L2.St) (H F : Hp) (O : List Addr), Inv X pins σ H s → Bas Z F H O → OwE F H O σ env →
    wpAny (model X.prog X.w) X.A (eval e X.env) (EP X pins σ (Post Z σ H F O P)) X.xe s
def WA {Tq : List (Addr × Str)} (Z : Zb Tq) (X : Cx) (e : Expr) (env : Env) (P : A → Env → Prop) : Prop := WE Z X e env fun r env' => toA r fun a => P a env'
def WT {Tq : List (Addr × Str)} (Z : Zb Tq) (X : Cx) (e : Expr) (env : Env) (P : Bool → Env → Prop) : Prop :=
  ∀ (pins : List (Addr × Obj)) (s : Shared) (σ : L2.St) (H F : Hp) (O : List Addr), Inv X pins σ H s → Bas Z F H O → OwE F H O σ env →
    wpAny (model X.prog X.w) X.A (isTrue e X.env (eval e X.env)) (TP X pins σ (PostT Z σ H F O P)) X.xe s
/-- a test, whatever its value is taken from -/
def WW {Tq : List (Addr × Str)} (Z : Zb Tq) (X : Cx) (e : Expr) (env : Env) (P : Bool → Env → Prop) : Prop :=
  ∀ (whole : Sem Value) (pins : List (Addr × Obj)) (s : Shared) (σ : L2.St) (H F : Hp) (O : List Addr), Inv X pins σ H s → Bas Z F H O → OwE F H O σ env →
    wpAny (model X.prog X.w) X.A (isTrue e X.env whole) (TP X pins σ (PostT Z σ H F O P)) X.xe s
theorem WW.t {Tq : List (Addr × Str)} {Z : Zb Tq} {X : Cx} {e : Expr} {env : Env} {P : Bool → Env → Prop} (h : WW Z X e env P) : WT Z X e env P := h _

section
variable {Tq : List (Addr × Str)} {Z : Zb Tq} {X : Cx} {e a b : Expr} {env : Env} {pins : List (Addr × Obj)} {s : Shared} {σ : L2.St} {H F : Hp} {O : List Addr}
theorem EP.imp {Q Q' : VK} (h : ∀ v H', Q v H' → Q' v H') : ∀ u s', EP X pins σ Q u s' → EP X pins σ Q' u s' := fun _ _ ⟨v, H', I, r, q⟩ => ⟨v, H', I, r, h v H' q⟩
theorem Post.toA {H0 F0 : Hp} {O0 : List Addr} {P : A → Env → Prop} {v : V} (h : Post Z σ H0 F0 O0 (fun r env' => QL.toA r fun a => P a env') v H) : PostA Z σ H0 F0 O0 P v H := by
  obtain ⟨F, O, r, env, b, st, fr, p⟩ := h
  cases r with
  | bor a i pp => exact ⟨F, O, .bor a i pp, env, b, st.1, st.2, fr, p⟩
  | t t =>
    obtain ⟨O1, O2, rfl, e, o⟩ := st
    cases hf : frzT t with
    | none => unfold QL.toA at p; simp only [hf] at p
    | some d =>
      unfold QL.toA at p
      simp only [hf] at p
      obtain ⟨b', s, k, fr'⟩ := b.freeze
      exact ⟨_, O1, .va d, env, b', e.stay s fun _ _ => rfl, o.frz s k hf, fr.trans fr', p⟩
theorem Post.imp {H0 F0 : Hp} {O0 : List Addr} {P P' : R → Env → Prop} (hp : ∀ r env, P r env → P' r env) {v : V} (h : Post Z σ H0 F0 O0 P v H) : Post Z σ H0 F0 O0 P' v H := by
  obtain ⟨F, O, r, env, b, st, fr, p⟩ := h
  exact ⟨F, O, r, env, b, st, fr, hp _ _ p⟩
theorem Post.from {H0 F0 H1 F1 : Hp} {O0 O1 : List Addr} {P : R → Env → Prop} (fr : Frm Tq H0 F0 O0 H1 F1 O1) {v : V} (h : Post Z σ H1 F1 O1 P v H) : Post Z σ H0 F0 O0 P v H := by
  obtain ⟨F, O, r, env, b, st, fr', p⟩ := h
  exact ⟨F, O, r, env, b, st, fr.trans fr', p⟩
theorem PostA.from {H0 F0 H1 F1 : Hp} {O0 O1 : List Addr} {P : A → Env → Prop} (fr : Frm Tq H0 F0 O0 H1 F1 O1) {v : V} (h : PostA Z σ H1 F1 O1 P v H) : PostA Z σ H0 F0 O0 P v H := by
  obtain ⟨F, O, r, env, b, e, st, fr', p⟩ := h
  exact ⟨F, O, r, env, b, e, st, fr.trans fr', p⟩
theorem PostT.from {H0 F0 H1 F1 : Hp} {O0 O1 : List Addr} {P : Bool → Env → Prop} (fr : Frm Tq H0 F0 O0 H1 F1 O1) {v : Bool} (h : PostT Z σ H1 F1 O1 P v H) : PostT Z σ H0 F0 O0 P v H := by
  obtain ⟨F, O, r, b, e, fr', p⟩ := h
  exact ⟨F, O, r, b, e, fr.trans fr', p⟩
theorem WE.imp {P P' : R → Env → Prop} (h : WE Z X e env P) (hp : ∀ r env, P r env → P' r env) : WE Z X e env P' := fun pins s σ H F O I b o => thn (h pins s σ H F O I b o) (EP.imp fun _ _ => Post.imp hp)
theorem WT.imp {P P' : Bool → Env → Prop} (h : WT Z X e env P) (hp : ∀ r env, P r env → P' r env) : WT Z X e env P' := fun pins s σ H F O I b o =>
  thn (h pins s σ H F O I b o) fun _ _ ⟨H', I', F, O, r, b, e, fr, p⟩ => ⟨H', I', F, O, r, b, e, fr, hp _ _ p⟩
theorem WA.run {P : A → Env → Prop} (h : WA Z X e env P) (I : Inv X pins σ H s) (b : Bas Z F H O) (o : OwE F H O σ env) :
    wpAny (model X.prog X.w) X.A (eval e X.env) (EP X pins σ (PostA Z σ H F O P)) X.xe s := thn (h pins s σ H F O I b o) (EP.imp fun _ _ => Post.toA)

/-- readings of the hand layer made of these -/
def tE {Tq : List (Addr × Str)} (Z : Zb Tq) (X : Cx) (e : Expr) : TE := fun σ H Q => ∃ env F O P, Bas Z F H O ∧ OwE F H O σ env ∧ WE Z X e env P ∧ ∀ v H', Post Z σ H F O P v H' → Q v H'
def tA {Tq : List (Addr × Str)} (Z : Zb Tq) (X : Cx) (e : Expr) : TE := fun σ H Q => ∃ env F O P, Bas Z F H O ∧ OwE F H O σ env ∧ WA Z X e env P ∧ ∀ v H', PostA Z σ H F O P v H' → Q v H'
def tT {Tq : List (Addr × Str)} (Z : Zb Tq) (X : Cx) (e : Expr) : TT := fun σ H Q => ∃ env F O P, Bas Z F H O ∧ OwE F H O σ env ∧ WT Z X e env P ∧ ∀ v H', PostT Z σ H F O P v H' → Q v H'
theorem pe_E : PE X e (tE Z X e) := ⟨fun pins s σ H Q I ⟨env, F, O, P, b, o, w, q⟩ => thn (w pins s σ H F O I b o) (EP.imp q)⟩
theorem pe_A : PE X e (tA Z X e) := ⟨fun pins s σ H Q I ⟨env, F, O, P, b, o, w, q⟩ => thn (w.run I b o) (EP.imp q)⟩
theorem pt_T : PT X e (tT Z X e) := ⟨fun pins s σ H Q I ⟨env, F, O, P, b, o, w, q⟩ => thn (w pins s σ H F O I b o) fun _ _ ⟨H', I', p⟩ => ⟨H', I', q _ _ p⟩⟩
/-- from the hand layer -/
theorem we_of {t : TE} {P : R → Env → Prop} (h : PE X e t) (w : ∀ σ H F O, Bas Z F H O → OwE F H O σ env → t σ H (Post Z σ H F O P)) : WE Z X e env P := fun pins s σ H F O I b o => h.run pins s σ H _ I (w σ H F O b o)
theorem wt_of {t : TT} {P : Bool → Env → Prop} (h : PT X e t) (w : ∀ σ H F O, Bas Z F H O → OwE F H O σ env → t σ H (PostT Z σ H F O P)) : WT Z X e env P := fun pins s σ H F O I b o => h.run pins s σ H _ I (w σ H F O b o)

/-! ### arguments -/
def WAs {Tq : List (Addr × Str)} (Z : Zb Tq) (X : Cx) : List Expr → Env → (List A → Env → Prop) → Prop
  | [], env, P => P [] env
  | e :: es, env, P => (starEach (e :: es) X.env = (false, eval e X.env) :: starEach es X.env) ∧ WA Z X e env fun a env1 => WAs Z X es env1 fun as env2 => P (a :: as) env2
def tAs {Tq : List (Addr × Str)} (Z : Zb Tq) (X : Cx) (es : List Expr) : TA := fun σ H Q => ∃ env F O P, Bas Z F H O ∧ OwE F H O σ env ∧ WAs Z X es env P ∧ ∀ v H', PostAs Z σ H F O P v H' → Q v H'
theorem pa_As : ∀ {es : List Expr}, PA X es (tAs Z X es)
  | [] => ⟨fun pos pins s σ H Q I ⟨env, F, O, P, b, o, w, q⟩ => pa_nil.run pos pins s σ H Q I (q [] H ⟨F, O, [], env, b, o, .nil, Frm.refl _ _ _, w⟩)⟩
  | e :: es => ⟨fun pos pins s σ H Q I ⟨env, F, O, P, b, o, w, q⟩ => by
    have hp := pa_cons (X := X) (pe_A (Z := Z) (e := e)) (pa_As (es := es)) w.1
    refine hp.run pos pins s σ H Q I ⟨env, F, O, _, b, o, w.2, ?_⟩
    rintro v1 H1 ⟨F1, O1, a1, env1, b1, o1, st1, fr1, w1⟩
    refine ⟨env1, F1, O1, _, b1, o1, w1, ?_⟩
    rintro vs H2 ⟨F2, O2, as, env2, b2, o2, st2, fr2, w2⟩
    exact q _ _ ⟨F2, O2, a1 :: as, env2, b2, o2, .cons (st1.mono fr2.fz) st2, fr1.trans fr2, w2⟩⟩
/-! ### what an argument is seen as -/
inductive Vw (F H : Hp) : V → D → Prop
  | pure {v : V} {d : D} : Rp F v d → Vw F H v d
  | lst {a : Addr} {xs : List V} {ds : List D} : H a = some (.lst xs) → RpA F xs ds → Vw F H (.ref a) (.list ds)
  | dic {a : Addr} {kvs : List (Key × V)} {ds : List (D × D)} : H a = some (.dK kvs) → RpK F kvs ds → Vw F H (.ref a) (.dict ds)
theorem Vw.rp {v : V} {d : D} (h : Vw F H v d) (s : Same F H) : Rp H v d := by
  cases h with
  | pure r => exact r.mono s
  | lst h r => exact .lst h (r.mono s)
  | dic h r => exact .dic (.inl h) (r.mono s)
def View (a : A) (env : Env) (k : D → Prop) : Prop := match a with
  | .va d => () = () ∧ k d
  | .bor a i p => match getP i p env with
    | some (.lst a' ds) => a' = a ∧ k (.list ds)
    | some (.dic a' kvs) => a' = a ∧ k (.dict (kvs.map fun p => (kD p.1, p.2)))
    | some (.fdc a' kvs) => a' = a ∧ k (.dict (kvs.map fun p => (kD p.1, p.2)))
    | _ => False
theorem View.vw {v : V} {a : A} {k : D → Prop} (h : View a env k) (o : OwE F H O σ env) (st : StA F v a) : ∃ d, Vw F H v d ∧ k d := by
  cases a with
  | va d => exact ⟨d, .pure st, h.2⟩
  | bor a i p =>
    unfold View at h
    simp only at h
    cases hg : getP i p env with
    | none => rw [hg] at h; exact h.elim
    | some u =>
      rw [hg] at h
      obtain ⟨w, ⟨Oj, O', h1, _, _⟩, _⟩ := o.focus hg
      have st : v = .ref a := st
      subst st
      cases h1 with
      | va r => exact h.elim
      | lst h1 r => obtain ⟨rfl, h⟩ := h; exact ⟨_, .lst h1 r, h⟩
      | dic h1 r => obtain ⟨rfl, h⟩ := h; exact ⟨_, .dic h1 r.rpk, h⟩
      | fdc h1 r => obtain ⟨rfl, h⟩ := h; exact ⟨_, .pure (.dic (.inr ⟨_, h1⟩) r.rpk), h⟩
      | ins h1 h2 r => exact h.elim
      | hole => exact h.elim
      | ob h1 st => exact h.elim

/-! ### something new is made; all that was there stays -/
def NewV (F H : Hp) (k : T → Prop) : VK := fun v H' => ∃ F' O' t, Same F F' ∧ Same H H' ∧ Same F' H' ∧ (∀ a, F' a ≠ none → F a ≠ none ∨ H a = none) ∧ O'.Nodup ∧ (∀ a ∈ O', H a = none ∧ F' a = none) ∧ Ow F' H' O' v t ∧ k t
theorem NewV.val {k : T → Prop} {v : V} {d : D} (b : Same F H) (r : Rp F v d) (h : k (.va d)) : NewV F H k v H :=
  ⟨F, [], _, Same.refl _, Same.refl _, b, fun _ z => .inl z, List.nodup_nil, fun _ z => (nomatch z), .va r, h⟩
theorem same_new {H : Hp} {p : Addr} {o : HO} (h : H p = none) : Same H (upd H p o) := fun b x e => by rw [upd_ne (ne_of_none e h)]; exact e
theorem same_upd2 {F H : Hp} (s : Same F H) {p : Addr} {o : HO} : Same (upd F p o) (upd H p o) := fun b x e => by
  by_cases h : b = p
  · subst h; rw [upd_same] at e ⊢; exact e
  · rw [upd_ne h] at e ⊢; exact s b x e
theorem NewV.lst {k : T → Prop} {p : Addr} {xs : List V} {ds : List D} (b : Same F H) (r : RpA F xs ds) (n : H p = none) (h : k (.lst p ds)) : NewV F H k (.ref p) (upd H p (.lst xs)) := by
  refine ⟨F, [p], .lst p ds, Same.refl _, same_new n, b.trans (same_new n), fun _ z => .inl z, List.nodup_cons.mpr ⟨fun z => (nomatch z), List.nodup_nil⟩, fun a ha => ?_, .lst upd_same r, h⟩
  rw [List.mem_singleton.mp ha]
  exact ⟨n, b.free n⟩
theorem NewV.tup {k : T → Prop} {p : Addr} {xs : List V} {ds : List D} (b : Same F H) (r : RpA F xs ds) (n : H p = none) (h : k (.va (.tuple ds))) : NewV F H k (.ref p) (upd H p (.tup xs)) := by
  have nf : F p = none := b.free n
  refine ⟨upd F p (.tup xs), [], .va (.tuple ds), same_new nf, same_new n, same_upd2 b, fun a z => ?_, List.nodup_nil, fun _ z => (nomatch z), .va (.tup (.inl upd_same) (r.mono (same_new nf))), h⟩
  by_cases e : a = p
  · subst e; exact .inr n
  · rw [upd_ne e] at z; exact .inl z
theorem NewV.post {k : T → Prop} {v : V} {H' : Hp} {P : R → Env → Prop} (h : NewV F H k v H') (b : Bas Z F H O) (o : OwE F H O σ env) (hp : ∀ t, k t → P (.t t) env) : Post Z σ H F O P v H' := by
  obtain ⟨F', O', t, s1, s2, s3, nf, nd, no, ow, p⟩ := h
  have keep : ∀ a ∈ O, H' a = H a := fun a ha => by
    cases q : H a with
    | none => exact absurd q (o.there a ha)
    | some x => exact s2 a x q
  have fr : Frm Tq H F O H' F' (O ++ O') := ⟨s1, fun a x e _ _ => s2 a x e, (fun a e => by
      cases q : H a with
      | none => exact absurd q e
      | some x => rw [s2 a x q]; exact fun z => nomatch z), fun a e => (nf a e).imp_right .inl, fun a ha => (List.mem_append.mp ha).imp_right fun z => (no a z).1, tab_same s2⟩
  refine ⟨F', O ++ O', .t t, env, ⟨s3, List.nodup_append.mpr ⟨b.nd, nd, fun x hx y hy e => ?_⟩, fun a ha => ?_, b.abs.trans fr⟩, ⟨O, O', rfl, o.stay s1 keep, ow⟩, fr, hp t p⟩
  · subst e; exact o.there x hx (no x hy).1
  · rcases List.mem_append.mp ha with ha | ha
    · cases q : F' a with
      | none => rfl
      | some x =>
        rcases nf a (by rw [q]; exact fun z => nomatch z) with z | z
        · exact absurd (b.dis a ha) z
        · exact absurd z (o.there a ha)
    · exact (no a ha).2
end
end QL

/-! QC: rules of expressions. -/
namespace QL
open PySem PySem.Spec PyProof.Rows L2

/-! ### lists of data -/
section
variable {F H : Hp}
theorem RpA.len : ∀ {vs : List V} {ds : List D}, RpA F vs ds → vs.length = ds.length
  | _, _, .nil => rfl
  | _, _, .cons _ r => congrArg (· + 1) r.len
theorem RpA.app : ∀ {vs us : List V} {ds es : List D}, RpA F vs ds → RpA F us es → RpA F (vs ++ us) (ds ++ es)
  | _, _, _, _, .nil, r => r
  | _, _, _, _, .cons h r, r' => .cons h (r.app r')
theorem RpA.get : ∀ {vs : List V} {ds : List D} {i : Nat} {v : V}, RpA F vs ds → vs[i]? = some v → ∃ d, ds[i]? = some d ∧ Rp F v d
  | _, _, _, _, .nil, e => nomatch e
  | _, _, 0, _, .cons h r, e => by cases e; exact ⟨_, rfl, h⟩
  | _, _, i + 1, _, .cons h r, e => r.get (i := i) e
theorem RpA.get' : ∀ {vs : List V} {ds : List D} {i : Nat} {d : D}, RpA F vs ds → ds[i]? = some d → ∃ v, vs[i]? = some v ∧ Rp F v d
  | _, _, _, _, .nil, e => nomatch e
  | _, _, 0, _, .cons h r, e => by cases e; exact ⟨_, rfl, h⟩
  | _, _, i + 1, _, .cons h r, e => r.get' (i := i) e
theorem RpA.take : ∀ {vs : List V} {ds : List D} (n : Nat), RpA F vs ds → RpA F (vs.take n) (ds.take n)
  | _, _, 0, _ => .nil
  | _, _, _ + 1, .nil => .nil
  | _, _, n + 1, .cons h r => .cons h (r.take n)
theorem RpA.drop : ∀ {vs : List V} {ds : List D} (n : Nat), RpA F vs ds → RpA F (vs.drop n) (ds.drop n)
  | _, _, 0, r => r
  | _, _, _ + 1, .nil => .nil
  | _, _, n + 1, .cons _ r => r.drop n
theorem RpA.set {v : V} {d : D} (h : Rp F v d) : ∀ {vs : List V} {ds : List D} (i : Nat), RpA F vs ds → RpA F (vs.set i v) (ds.set i d)
  | _, _, _, .nil => .nil
  | _, _, 0, .cons _ r => .cons h r
  | _, _, i + 1, .cons q r => .cons q (r.set h i)
theorem RpA.rep {vs : List V} {ds : List D} (r : RpA F vs ds) : ∀ k : Nat, RpA F (List.replicate k vs).flatten (List.replicate k ds).flatten
  | 0 => .nil
  | k + 1 => by rw [List.replicate_succ, List.replicate_succ, List.flatten_cons, List.flatten_cons]; exact r.app (r.rep k)
theorem RpA.rev {vs : List V} {ds : List D} (r : RpA F vs ds) : RpA F vs.reverse ds.reverse := by
  induction vs generalizing ds with
  | nil => cases r; exact .nil
  | cons v vs ih => cases r with
    | cons h r => rw [List.reverse_cons, List.reverse_cons]; exact (ih r).app (.cons h .nil)
theorem RpA.ints : ∀ {ns : List Int} {vs : List V}, RpA F vs (ns.map PyData.int) → vs = ns.map V.int
  | [], _, .nil => rfl
  | n :: ns, _, .cons h r => by cases h; rw [r.ints]; rfl
theorem RpA.bls : ∀ {ns : List Bool} {vs : List V}, RpA F vs (ns.map PyData.bool) → vs = ns.map V.bl
  | [], _, .nil => rfl
  | n :: ns, _, .cons h r => by cases h; rw [r.bls]; rfl
theorem Vw.int {v : V} {i : Int} (h : Vw F H v (.int i)) : v = .int i := by cases h with | pure r => cases r; rfl
theorem Vw.str {v : V} {i : Str} (h : Vw F H v (.str i)) : v = .str i := by cases h with | pure r => cases r; rfl
theorem Vw.bl {v : V} {i : Bool} (h : Vw F H v (.bool i)) : v = .bl i := by cases h with | pure r => cases r; rfl
theorem Vw.non {v : V} (h : Vw F H v .none) : v = .non := by cases h with | pure r => cases r; rfl
theorem Vw.tup {v : V} {ds : List D} (h : Vw F H v (.tuple ds)) : ∃ a xs, v = .ref a ∧ Rd F a (.tup xs) ∧ RpA F xs ds := by
  cases h with | pure r => cases r with | tup h r => exact ⟨_, _, rfl, h, r⟩
theorem Vw.lst' {v : V} {ds : List D} (h : Vw F H v (.list ds)) (s : Same F H) : ∃ a xs, v = .ref a ∧ H a = some (.lst xs) ∧ RpA F xs ds := by
  cases h with
  | pure r => cases r with | lst h r => exact ⟨_, _, rfl, s _ _ h, r⟩
  | lst h r => exact ⟨_, _, rfl, h, r⟩
end

/-! ### names, constants, displays -/
section
variable {Tq : List (Addr × Str)} {Z : Zb Tq} {X : Cx} {e a b c : Expr} {es : List Expr} {env : Env} {pos : Pos} {P : R → Env → Prop}

def varR (env : Env) (i : Nat) (k : R → Prop) : Prop := match env[i]? with
  | some (some (.va d)) => k (.t (.va d))
  | some (some t) => match t.addr with
    | some a => k (.bor a i [])
    | none => False
  | _ => False
theorem w_var (i : Nat) {x : Str} (h : varR env i fun r => P r env) (hN : X.N[i]? = some x := by rfl) (hv : Vis X.env.scope x := by first | exact Or.inl rfl | exact Or.inr (Or.inl rfl) | exact Or.inr (Or.inr rfl))
    (hd : (x == ("__debug__" : Str)) = false := by decide) (hcd : (x == ("__classdict__" : Str)) = false := by decide) : WE Z X (.Name x pos) env P := we_of (pe_var hN hv hd hcd) fun σ H F O b o => by
  unfold varR at h
  cases hi : env[i]? with
  | none => rw [hi] at h; exact h.elim
  | some q =>
    cases q with
    | none => rw [hi] at h; exact h.elim
    | some t =>
      rw [hi] at h
      obtain ⟨w, hw, Oj, O', h1, h2, h3⟩ := o.focusI hi
      refine ⟨w, hw, ?_⟩
      have owned : ∀ a, t.addr = some a → P (.bor a i []) env → Post Z σ H F O P w H := fun a ha p => ⟨F, O, .bor a i [], env, b, ⟨o, h1.ref ha⟩, Frm.refl _ _ _, p⟩
      cases t with
      | va d =>
        cases h1 with
        | va r => exact ⟨F, O, .t _, env, b, ⟨O, [], (List.append_nil O).symm, o, .va r⟩, Frm.refl _ _ _, h⟩
      | lst a ds => exact owned a rfl h
      | dic a ds => exact owned a rfl h
      | fdc a ds => exact owned a rfl h
      | ins a C fs => exact owned a rfl h
      | hole a => exact owned a rfl h
      | ob a φ =>
        cases a with
        | none => exact h.elim
        | some a => exact owned a rfl h
theorem post_val {σ : L2.St} {H F : Hp} {O : List Addr} {v : V} {d : D} (b : Bas Z F H O) (o : OwE F H O σ env) (r : Rp F v d) (h : P (.t (.va d)) env) : Post Z σ H F O P v H :=
  ⟨F, O, .t _, env, b, ⟨O, [], (List.append_nil O).symm, o, .va r⟩, Frm.refl _ _ _, h⟩
theorem w_int {i : Int} {j : Nat} (h : P (.t (.va (.int i))) env) : WE Z X (.Constant (.int i) j pos) env P := we_of pe_int fun σ H F O b o => post_val b o (.int i) h
theorem w_bl {i : Bool} {j : Nat} (h : P (.t (.va (.bool i))) env) : WE Z X (.Constant (.bool i) j pos) env P := we_of pe_bl fun σ H F O b o => post_val b o (.bl i) h
/-- a module's constant -/
theorem w_glob {x : Str} {v : V} {u : Value} {d : D} (hm : X.mg x = some u) (r : RelV v u) (q : ∀ F : Hp, Rp F v d) (h : P (.t (.va d)) env) (hg : Gl X x := by rfl) (hd : (x == ("__debug__" : Str)) = false := by decide) : WE Z X (.Name x pos) env P :=
  we_of (pe_glob hg hm r hd) fun σ H F O b o => post_val b o (q F) h

/-- what stands in a display: what a name held is from then on frozen there -/
def absorb : List A → Env → (List D → Env → Prop) → Prop
  | [], env, k => k [] env
  | .va d :: as, env, k => absorb as env fun ds env' => k (d :: ds) env'
  | .bor a i p :: as, env, k => match getP i p env with
    | some t => t.addr = some a ∧ match frzT t with
      | some d => absorb as (setP i p (.va d) env) fun ds env' => k (d :: ds) env'
      | none => False
    | none => False
theorem absorb_ok {Tq : List (Addr × Str)} {Z : Zb Tq} {σ : L2.St} {H : Hp} : ∀ {as : List A} {vs : List V} {F : Hp} {O : List Addr} {env : Env} {k : List D → Env → Prop}, StAs F vs as → Bas Z F H O → OwE F H O σ env → absorb as env k →
    ∃ F' O' ds env', Bas Z F' H O' ∧ OwE F' H O' σ env' ∧ RpA F' vs ds ∧ Frm Tq H F O H F' O' ∧ k ds env'
  | [], _, F, O, env, k, .nil, b, o, h => ⟨F, O, [], env, b, o, .nil, Frm.refl _ _ _, h⟩
  | .va d :: as, _, F, O, env, k, .cons st r, b, o, h => by
    obtain ⟨F', O', ds, env', b', o', r', fr, q⟩ := absorb_ok r b o h
    exact ⟨F', O', d :: ds, env', b', o', .cons (Rp.mono fr.fz st) r', fr, q⟩
  | .bor a i p :: as, _, F, O, env, k, .cons st r, b, o, h => by
    unfold absorb at h
    cases hg : getP i p env with
    | none => rw [hg] at h; exact h.elim
    | some t =>
      rw [hg] at h
      obtain ⟨ha, h⟩ := h
      cases hf : frzT t with
      | none => rw [hf] at h; exact h.elim
      | some d =>
        rw [hf] at h
        obtain ⟨w, ⟨Oj, O', h1, h2, h3⟩, _⟩ := o.focus hg
        have hw := h1.ref ha
        have st : _ = V.ref a := st
        subst st hw
        have b2 : Bas Z F H (O' ++ Oj) := b.perm (h2.trans List.perm_append_comm)
        obtain ⟨b3, s3, k3, fr3⟩ := b2.freeze
        have rp := h1.frz s3 k3 hf
        obtain ⟨O'', q1, q2⟩ := h3 _ H [] (.va d) s3 (fun _ _ => rfl) (.va rp)
        have b4 : Bas Z (frzF F H Oj) H O'' := b3.perm q2.symm
        have fr4 : Frm Tq H F O H (frzF F H Oj) O'' := fr3.perm (fun c => (h2.trans List.perm_append_comm).symm.mem_iff) fun c hc => q2.mem_iff.mp hc
        obtain ⟨F5, O5, ds, env5, b5, o5, r5, fr5, q5⟩ := absorb_ok (r.mono s3) b4 q1 h
        exact ⟨F5, O5, d :: ds, env5, b5, o5, .cons (rp.mono fr5.fz) r5, fr4.trans fr5, q5⟩
theorem w_tup {x1 : _} (h : WAs Z X es env fun as env1 => absorb as env1 fun ds env2 => ds.length ≤ sizeLine ∧ P (.t (.va (.tuple ds))) env2) : WE Z X (.Tuple es x1 pos) env P :=
  we_of (pe_tup pa_As) fun σ H F O b o => ⟨env, F, O, _, b, o, h, fun vs H1 ⟨F1, O1, as, env1, b1, o1, st1, fr1, h1⟩ => by
    obtain ⟨F2, O2, ds, env2, b2, o2, r2, fr2, z, q⟩ := absorb_ok st1 b1 o1 h1
    refine ⟨by rw [r2.len]; exact z, fun p hp => ?_⟩
    exact ((NewV.tup b2.sub r2 hp (k := fun t => t = .va (.tuple ds)) rfl).post b2 o2 (fun t e => by subst e; exact q)).from (fr1.trans fr2)⟩
theorem w_lst (h : WAs Z X es env fun as env1 => absorb as env1 fun ds env2 => ds.length ≤ sizeLine ∧ ∀ p, P (.t (.lst p ds)) env2) : WE Z X (.List es pos) env P :=
  we_of (pe_lst pa_As) fun σ H F O b o => ⟨env, F, O, _, b, o, h, fun vs H1 ⟨F1, O1, as, env1, b1, o1, st1, fr1, h1⟩ => by
    obtain ⟨F2, O2, ds, env2, b2, o2, r2, fr2, z, q⟩ := absorb_ok st1 b1 o1 h1
    refine ⟨by rw [r2.len]; exact z, fun p hp => ?_⟩
    exact ((NewV.lst b2.sub r2 hp (k := fun t => t = .lst p ds) rfl).post b2 o2 (fun t e => by subst e; exact q p)).from (fr1.trans fr2)⟩

/-! ### operators -/
def DOp (X : Cx) (f : Value → Value → Sem Value) (g : D → D → (T → Prop) → Prop) : Prop :=
  ∀ (pins : List (Addr × Obj)) (s : Shared) (σ : L2.St) (H F : Hp) (v1 v2 : V) (u1 u2 : Value) (d1 d2 : D) (k : T → Prop), Inv X pins σ H s → Same F H → Vw F H v1 d1 → Vw F H v2 d2 → RelV v1 u1 → RelV v2 u2 → g d1 d2 k →
    wpAny (model X.prog X.w) X.A (f u1 u2) (EP X pins σ (NewV F H k)) X.xe s
def rD (g : D → D → (T → Prop) → Prop) : R2 := fun x y H Q => ∃ F d1 d2 k, Same F H ∧ Vw F H x d1 ∧ Vw F H y d2 ∧ g d1 d2 k ∧ ∀ v H', NewV F H k v H' → Q v H'
theorem DOp.r {f : Value → Value → Sem Value} {g : D → D → (T → Prop) → Prop} (h : DOp X f g) : OpR X f (rD g) := fun pins s σ H x y v u Q I rx ry ⟨F, d1, d2, k, sF, h1, h2, hg, q⟩ =>
  thn (h pins s σ H F x y v u d1 d2 k I sF h1 h2 rx ry hg) (EP.imp q)
/-- two arguments, then an operation by values -/
def W2 {Tq : List (Addr × Str)} (Z : Zb Tq) (X : Cx) (a b : Expr) (env : Env) (k : D → D → Env → Prop) : Prop := WA Z X a env fun a1 e1 => WA Z X b e1 fun a2 e2 => View a1 e2 fun d1 => View a2 e2 fun d2 => k d1 d2 e2
theorem w2_run {g : D → D → (T → Prop) → Prop} {σ : L2.St} {H F : Hp} {O : List Addr} (b0 : Bas Z F H O) (o : OwE F H O σ env) (h : W2 Z X a b env fun d1 d2 e2 => g d1 d2 fun t => P (.t t) e2) :
    tOp (rD g) (tA Z X a) (tA Z X b) σ H (Post Z σ H F O P) := by
  refine ⟨env, F, O, _, b0, o, h, fun v1 H1 ⟨F1, O1, a1, env1, b1, o1, st1, fr1, h1⟩ => ?_⟩
  refine ⟨env1, F1, O1, _, b1, o1, h1, fun v2 H2 ⟨F2, O2, a2, env2, b2, o2, st2, fr2, h2⟩ => ?_⟩
  obtain ⟨d1, w1, h3⟩ := View.vw h2 o2 (st1.mono fr2.fz)
  obtain ⟨d2, w2, h4⟩ := View.vw h3 o2 st2
  exact ⟨F2, d1, d2, _, b2.sub, w1, w2, h4, fun v H' n => (n.post b2 o2 fun t q => q).from (fr1.trans fr2)⟩
theorem w_bin {op : Operator} {g : D → D → (T → Prop) → Prop} (ho : DOp X (binaryOp op) g) (h : W2 Z X a b env fun d1 d2 e2 => g d1 d2 fun t => P (.t t) e2) : WE Z X (.BinOp a op b pos) env P :=
  we_of (pe_op ho.r pe_A pe_A) fun σ H F O b0 o => w2_run b0 o h
theorem w_cmp {op : CmpOp} {g : D → D → (T → Prop) → Prop} (ho : DOp X (compareOp op) g) (h : W2 Z X a b env fun d1 d2 e2 => g d1 d2 fun t => P (.t t) e2) (hm : behindInMarks op b = false := by first | exact nomark _ | rfl) :
    WE Z X (.Compare a [op] [b] pos) env P := we_of (pe_cmpR ho.r pe_A pe_A hm) fun σ H F O b0 o => w2_run b0 o h
theorem post_bool {σ : L2.St} {H F0 H0 : Hp} {O0 : List Addr} {K : Bool → Env → Prop} {v : V} (h : Post Z σ H0 F0 O0 (fun r e1 => ∃ k, r = .t (.va (.bool k)) ∧ K k e1) v H) : ∃ k F O env, v = .bl k ∧ Bas Z F H O ∧ OwE F H O σ env ∧ Frm Tq H0 F0 O0 H F O ∧ K k env := by
  obtain ⟨F1, O1, r, env1, b1, st, fr1, k, e1, h1⟩ := h
  subst e1
  obtain ⟨O1', O2, rfl, o1, ow⟩ := st
  cases ow with
  | va r =>
    cases r with
    | bl k =>
      rw [List.append_nil] at b1 fr1
      exact ⟨k, F1, O1', env1, rfl, b1, o1, fr1, h1⟩
theorem wt_cmp {op : CmpOp} {g : D → D → (T → Prop) → Prop} {P : Bool → Env → Prop} (ho : DOp X (compareOp op) g) (h : W2 Z X a b env fun d1 d2 e2 => g d1 d2 fun t => ∃ k, t = .va (.bool k) ∧ P k e2) (hm : behindInMarks op b = false := by first | exact nomark _ | rfl) :
    WT Z X (.Compare a [op] [b] pos) env P := wt_of (pt_cmpR ho.r pe_A pe_A hm) fun σ H F O b0 o => by
  refine ⟨env, F, O, _, b0, o, h, fun v1 H1 ⟨F1, O1, a1, env1, b1, o1, st1, fr1, h1⟩ => ?_⟩
  refine ⟨env1, F1, O1, _, b1, o1, h1, fun v2 H2 ⟨F2, O2, a2, env2, b2, o2, st2, fr2, h2⟩ => ?_⟩
  obtain ⟨d1, w1, h3⟩ := View.vw h2 o2 (st1.mono fr2.fz)
  obtain ⟨d2, w2, h4⟩ := View.vw h3 o2 st2
  refine ⟨F2, d1, d2, _, b2.sub, w1, w2, h4, fun v H' n => ?_⟩
  obtain ⟨k, F3, O3, env3, rfl, b3, o3, fr3, p⟩ := post_bool (K := P) (n.post b2 o2 (P := fun r e1 => ∃ k, r = .t (.va (.bool k)) ∧ P k e1) fun t ⟨k, e, q⟩ => ⟨k, by rw [e], q⟩)
  exact ⟨k, rfl, F3, O3, env3, b3, o3, (fr1.trans fr2).trans fr3, p⟩

/-! #### the operations -/
def intD (C : Int → Int → Prop) (f : Int → Int → Int) (d1 d2 : D) (k : T → Prop) : Prop := match d1, d2 with
  | .int i, .int j => C i j ∧ k (.va (.int (f i j)))
  | _, _ => False
theorem dop_int {f : Value → Value → Sem Value} {C : Int → Int → Prop} {g : Int → Int → Int} (h : OpR X f (rI C fun i j => .int (g i j))) : DOp X f (intD C g) := by
  intro pins s σ H F v1 v2 u1 u2 d1 d2 k I sF w1 w2 r1 r2 hg
  cases d1 with
  | int i =>
    cases d2 with
    | int j =>
      cases w1.int
      cases w2.int
      exact h pins s σ H _ _ u1 u2 _ I r1 r2 ⟨i, j, rfl, rfl, hg.1, NewV.val sF (.int _) hg.2⟩
    | _ => exact hg.elim
  | _ => exact hg.elim
def subD : D → D → (T → Prop) → Prop := fun d1 d2 k => match d1, d2 with
  | .int i, .int j => k (.va (.int (i - j)))
  | _, _ => False
theorem dop_sub : DOp X (binaryOp .Sub) subD := by
  intro pins s σ H F v1 v2 u1 u2 d1 d2 k I sF w1 w2 r1 r2 hg
  cases d1 with
  | int i =>
    cases d2 with
    | int j =>
      cases w1.int
      cases w2.int
      exact op_sub pins s σ H _ _ u1 u2 _ I r1 r2 ⟨i, j, rfl, rfl, NewV.val sF (.int _) hg⟩
    | _ => exact hg.elim
  | _ => exact hg.elim
def addD : D → D → (T → Prop) → Prop := fun d1 d2 k => match d1, d2 with
  | .int i, .int j => k (.va (.int (i + j)))
  | .int i, .bool j => k (.va (.int (i + b2i j)))
  | .str x, .str y => x.length + y.length ≤ sizeLine ∧ k (.va (.str (x ++ y)))
  | .tuple xs, .tuple ys => xs.length + ys.length ≤ sizeLine ∧ k (.va (.tuple (xs ++ ys)))
  | .list xs, .list ys => xs.length + ys.length ≤ sizeLine ∧ ∀ p, k (.lst p (xs ++ ys))
  | _, _ => False
theorem dop_add : DOp X (binaryOp .Add) addD := by
  intro pins s σ H F v1 v2 u1 u2 d1 d2 k I sF w1 w2 r1 r2 hg
  cases d1 with
  | int i =>
    cases d2 with
    | int j =>
      cases w1.int
      cases w2.int
      exact op_add pins s σ H _ _ u1 u2 _ I r1 r2 ⟨i, j, rfl, rfl, NewV.val sF (.int _) hg⟩
    | bool j =>
      cases w1.int
      cases w2.bl
      exact op_add_ib pins s σ H _ _ u1 u2 _ I r1 r2 ⟨i, j, rfl, rfl, NewV.val sF (.int _) hg⟩
    | _ => exact hg.elim
  | str i =>
    cases d2 with
    | str j =>
      cases w1.str
      cases w2.str
      exact op_add_str pins s σ H _ _ u1 u2 _ I r1 r2 ⟨i, j, rfl, rfl, hg.1, NewV.val sF (.str _) hg.2⟩
    | _ => exact hg.elim
  | tuple xs =>
    cases d2 with
    | tuple ys =>
      obtain ⟨a, vs, rfl, h1, q1⟩ := w1.tup
      obtain ⟨b, us, rfl, h2, q2⟩ := w2.tup
      refine op_catA pins s σ H _ _ u1 u2 _ I r1 r2 ⟨a, b, vs, us, rfl, rfl, .inl (rd_mono sF h1), .inl (rd_mono sF h2), by rw [q1.len, q2.len]; exact hg.1, fun e => ?_, fun _ e => ?_, fun _ _ p hp => ?_⟩
      · subst e
        cases q1
        exact NewV.val sF (.tup h2 q2) hg.2
      · subst e
        cases q2
        refine NewV.val sF (.tup h1 ?_) hg.2
        rw [List.append_nil]
        exact q1
      · exact NewV.tup sF (q1.app q2) hp hg.2
    | _ => exact hg.elim
  | list xs =>
    cases d2 with
    | list ys =>
      obtain ⟨a, vs, rfl, h1, q1⟩ := w1.lst' sF
      obtain ⟨b, us, rfl, h2, q2⟩ := w2.lst' sF
      exact op_cat pins s σ H _ _ u1 u2 _ I r1 r2 ⟨a, b, vs, us, rfl, rfl, h1, h2, by rw [q1.len, q2.len]; exact hg.1, fun p hp => NewV.lst sF (q1.app q2) hp (hg.2 p)⟩
    | _ => exact hg.elim
  | _ => exact hg.elim
/-- * : one factor below 2^64, or both small enough -/
def CMulQ (i j : Int) : Prop := CMul i j ∨ CMulW i j
theorem CMulQ.ok {i j : Int} (h : CMulQ i j) : IntMulOk i j := h.elim CMul.ok CMulW.ok
theorem cmul_l {i j : Int} (h1 : -18446744073709551616 < i) (h2 : i < 18446744073709551616) : CMulQ i j := .inl (.inl ⟨h1, h2⟩)
theorem cmul_r {i j : Int} (h1 : -18446744073709551616 < j) (h2 : j < 18446744073709551616) : CMulQ i j := .inl (.inr ⟨h1, h2⟩)
def mulD : D → D → (T → Prop) → Prop := fun d1 d2 k => match d1, d2 with
  | .int i, .int j => CMulQ i j ∧ k (.va (.int (i * j)))
  | .list xs, .int n => (-(2 ^ 63) ≤ n ∧ n < 2 ^ 63 ∧ xs.length * n.toNat ≤ sizeLine) ∧ ∀ p, k (.lst p (List.replicate n.toNat xs).flatten)
  | _, _ => False
theorem dop_mul : DOp X (binaryOp .Mult) mulD := by
  intro pins s σ H F v1 v2 u1 u2 d1 d2 k I sF w1 w2 r1 r2 hg
  cases d1 with
  | int i =>
    cases d2 with
    | int j =>
      cases w1.int
      cases w2.int
      exact (opI (C := CMulQ) (g := fun i j => i * j) fun _ _ _ _ _ _ _ hc q => mul_int q hc.ok) pins s σ H _ _ u1 u2 _ I r1 r2 ⟨i, j, rfl, rfl, hg.1, NewV.val sF (.int _) hg.2⟩
    | _ => exact hg.elim
  | list xs =>
    cases d2 with
    | int n =>
      cases w2.int
      obtain ⟨a, vs, rfl, h1, q1⟩ := w1.lst' sF
      exact op_rep pins s σ H _ _ u1 u2 _ I r1 r2 ⟨a, n, vs, rfl, rfl, h1, hg.1.1, hg.1.2.1, by rw [q1.len]; exact hg.1.2.2, fun p hp => NewV.lst sF (q1.rep _) hp (hg.2 p)⟩
    | _ => exact hg.elim
  | _ => exact hg.elim
def CPowQ (i j : Int) : Prop := CPow i j ∨ (0 ≤ j ∧ (Builtin.Int.intBits i : Int) * j ≤ 2 ^ 27)
theorem dop_pow : DOp X (binaryOp .Pow) (intD CPowQ fun i j => i ^ j.toNat) := dop_int (opI fun i j _ _ _ _ _ hc q => hc.elim (fun h => pow_int_small h.1 h.2.1 h.2.2 q) fun h => pow_int h.1 h.2 q)
theorem dop_mod : DOp X (binaryOp .Mod) (intD (fun _ j => 0 < j) fun i j => i % j) := dop_int op_mod
def CDivQ (_ j : Int) : Prop := 0 < j ∧ j < 18446744073709551616
theorem cdivq {i j : Int} (h : CDivQ i j) : CDivW i j := wide_div (b := 64) h.1 (by have := h.1; have := h.2; omega) (by decide) (by decide)
theorem dop_fdiv : DOp X (binaryOp .FloorDiv) (intD CDivQ fun i j => i / j) := dop_int (opI fun i j _ _ _ _ _ hc q => by
  have h1 : (0 : Int) < j := hc.1
  exact floordiv_int (by omega) (by rw [Int.fdiv_eq_ediv_of_nonneg i (by omega)]; exact q) (.inl (PyProof.noPylong_of_log2 (cdivq hc).2)))

/-! #### comparisons -/
def cmpI (f : Int → Int → Bool) : D → D → (T → Prop) → Prop := fun d1 d2 k => match d1, d2 with
  | .int i, .int j => k (.va (.bool (f i j)))
  | _, _ => False
theorem dop_cmpI {op : Value → Value → Sem Value} {f : Int → Int → Bool} (h : OpR X op (rI0 fun i j => .bl (f i j))) : DOp X op (cmpI f) := by
  intro pins s σ H F v1 v2 u1 u2 d1 d2 k I sF w1 w2 r1 r2 hg
  cases d1 with
  | int i =>
    cases d2 with
    | int j =>
      cases w1.int
      cases w2.int
      exact h pins s σ H _ _ u1 u2 _ I r1 r2 ⟨i, j, rfl, rfl, NewV.val sF (.bl _) hg⟩
    | _ => exact hg.elim
  | _ => exact hg.elim
theorem dop_lt : DOp X (compareOp .Lt) (cmpI fun i j => decide (i < j)) := dop_cmpI op_lt
theorem dop_le : DOp X (compareOp .LtE) (cmpI fun i j => decide (i ≤ j)) := dop_cmpI op_le
theorem dop_gt : DOp X (compareOp .Gt) (cmpI fun i j => decide (j < i)) := dop_cmpI op_gt
theorem dop_ge : DOp X (compareOp .GtE) (cmpI fun i j => decide (j ≤ i)) := dop_cmpI op_ge
/-- == of data without dicts -/
def eqD : D → D → (T → Prop) → Prop := fun d1 d2 k => match d1, d2 with
  | .int i, .int j => k (.va (.bool (decide (i = j))))
  | .str i, .str j => k (.va (.bool (decide (i = j))))
  | d1, d2 => SeqAt.shaped d1 = true ∧ SeqAt.shaped d2 = true ∧ k (.va (.bool (PyData.eqv d1 d2)))
def neD : D → D → (T → Prop) → Prop := fun d1 d2 k => match d1, d2 with
  | .int i, .int j => k (.va (.bool (!decide (i = j))))
  | .str i, .str j => k (.va (.bool (!decide (i = j))))
  | d1, d2 => SeqAt.shaped d1 = true ∧ SeqAt.shaped d2 = true ∧ k (.va (.bool (!PyData.eqv d1 d2)))
mutual
theorem Rp.reads {pins : List (Addr × Obj)} {σ : L2.St} {H : Hp} {s : Shared} (I : Inv X pins σ H s) : ∀ {v : V} {d : D} {u : Value}, Rp H v d → RelV v u → d.hasDict = false → ∃ as, Reads s.heap u d as
  | _, _, _, .non, r, _ => by cases r; exact ⟨_, .none⟩
  | _, _, _, .bl b, r, _ => by cases r; exact ⟨_, .bool b⟩
  | _, _, _, .int i, r, _ => by obtain ⟨t, rfl⟩ := r; exact ⟨_, .int i t⟩
  | _, _, _, .str i, r, _ => by obtain ⟨t, rfl⟩ := r; exact ⟨_, .str i t⟩
  | _, _, _, .lst h q, r, hd => by
    cases r
    obtain ⟨its, rv, ⟨o, n, ho, hc, _, hs⟩, _⟩ := I.list (SqL.of h)
    obtain ⟨as, hr⟩ := RpA.reads I q rv (by simpa [PyData.hasDict] using hd)
    exact ⟨_, .list ho hc hs hr⟩
  | _, _, _, .tup h q, r, hd => by
    cases r
    obtain ⟨its, rv, ⟨o, ho, hc, n, hs⟩, _⟩ := I.tuple (.inl h)
    obtain ⟨as, hr⟩ := RpA.reads I q rv (by simpa [PyData.hasDict] using hd)
    exact ⟨_, .tuple ho hc hs hr⟩
  | _, _, _, .dic h q, r, hd => by simp [PyData.hasDict] at hd
theorem RpA.reads {pins : List (Addr × Obj)} {σ : L2.St} {H : Hp} {s : Shared} (I : Inv X pins σ H s) : ∀ {vs : List V} {ds : List D} {us : List Value}, RpA H vs ds → Vals vs us → PyData.hasDictAll ds = false → ∃ as, ReadsAll s.heap us ds as
  | _, _, _, .nil, r, _ => by cases r; exact ⟨_, .nil⟩
  | _, _, _, .cons h q, r, hd => by
    cases r with
    | cons r1 r2 =>
      rw [PyData.hasDictAll, Bool.or_eq_false_iff] at hd
      obtain ⟨as, q1⟩ := Rp.reads I h r1 hd.1
      obtain ⟨bs, q2⟩ := RpA.reads I q r2 hd.2
      exact ⟨_, .cons q1 q2⟩
end
theorem shaped_noDict {d : D} (h : SeqAt.shaped d = true) : d.hasDict = false := by
  unfold SeqAt.shaped at h
  rw [Bool.and_eq_true] at h
  exact PyData.hasDict_of_canLay d h.1
theorem eqD_gen {F : Hp} (hu : X.A.units + 64 < cLine) {pins : List (Addr × Obj)} {s : Shared} {σ : L2.St} {H : Hp} {v1 v2 : V} {u1 u2 : Value} {d1 d2 : D} {k : T → Prop} (I : Inv X pins σ H s) (sF : Same F H) (w1 : Vw F H v1 d1) (w2 : Vw F H v2 d2)
    (r1 : RelV v1 u1) (r2 : RelV v2 u2) (h1 : SeqAt.shaped d1 = true) (h2 : SeqAt.shaped d2 = true) (q : k (.va (.bool (PyData.eqv d1 d2)))) : wpAny (model X.prog X.w) X.A (compareOp .Eq u1 u2) (EP X pins σ (NewV F H k)) X.xe s := by
  obtain ⟨as, q1⟩ := (w1.rp sF).reads I r1 (shaped_noDict h1)
  obtain ⟨bs, q2⟩ := (w2.rp sF).reads I r2 (shaped_noDict h2)
  exact SeqAt.compareEq_shaped q1 q2 h1 h2 hu ⟨.bl _, H, I, rfl, NewV.val sF (.bl _) q⟩
theorem neD_gen {F : Hp} (hu : X.A.units + 64 < cLine) {pins : List (Addr × Obj)} {s : Shared} {σ : L2.St} {H : Hp} {v1 v2 : V} {u1 u2 : Value} {d1 d2 : D} {k : T → Prop} (I : Inv X pins σ H s) (sF : Same F H) (w1 : Vw F H v1 d1) (w2 : Vw F H v2 d2)
    (r1 : RelV v1 u1) (r2 : RelV v2 u2) (h1 : SeqAt.shaped d1 = true) (h2 : SeqAt.shaped d2 = true) (q : k (.va (.bool (!PyData.eqv d1 d2)))) : wpAny (model X.prog X.w) X.A (compareOp .NotEq u1 u2) (EP X pins σ (NewV F H k)) X.xe s := by
  obtain ⟨as, q1⟩ := (w1.rp sF).reads I r1 (shaped_noDict h1)
  obtain ⟨bs, q2⟩ := (w2.rp sF).reads I r2 (shaped_noDict h2)
  exact SeqAt.compareNe_shaped q1 q2 h1 h2 hu ⟨.bl _, H, I, rfl, NewV.val sF (.bl _) q⟩
theorem dop_eq (hu : X.A.units + 64 < cLine) : DOp X (compareOp .Eq) eqD := by
  intro pins s σ H F v1 v2 u1 u2 d1 d2 k I sF w1 w2 r1 r2 hg
  unfold eqD at hg
  split at hg
  · cases w1.int
    cases w2.int
    refine op_eq pins s σ H _ _ u1 u2 _ I r1 r2 ⟨rfl, NewV.val sF (.bl _) ?_⟩
    rw [dec_int, ← Bool.beq_eq_decide_eq] at *
    exact hg
  · cases w1.str
    cases w2.str
    refine op_eq pins s σ H _ _ u1 u2 _ I r1 r2 ⟨rfl, NewV.val sF (.bl _) ?_⟩
    rw [dec_str, ← Bool.beq_eq_decide_eq] at *
    exact hg
  · exact eqD_gen hu I sF w1 w2 r1 r2 hg.1 hg.2.1 hg.2.2
theorem dop_ne (hu : X.A.units + 64 < cLine) : DOp X (compareOp .NotEq) neD := by
  intro pins s σ H F v1 v2 u1 u2 d1 d2 k I sF w1 w2 r1 r2 hg
  unfold neD at hg
  split at hg
  · cases w1.int
    cases w2.int
    refine op_ne pins s σ H _ _ u1 u2 _ I r1 r2 ⟨rfl, NewV.val sF (.bl _) ?_⟩
    rw [dec_int, ← Bool.beq_eq_decide_eq] at *
    exact hg
  · cases w1.str
    cases w2.str
    refine op_ne pins s σ H _ _ u1 u2 _ I r1 r2 ⟨rfl, NewV.val sF (.bl _) ?_⟩
    rw [dec_str, ← Bool.beq_eq_decide_eq] at *
    exact hg
  · exact neD_gen hu I sF w1 w2 r1 r2 hg.1 hg.2.1 hg.2.2
/-- -a -/
def W1 {Tq : List (Addr × Str)} (Z : Zb Tq) (X : Cx) (a : Expr) (env : Env) (k : D → Env → Prop) : Prop := WA Z X a env fun a1 e1 => View a1 e1 fun d1 => k d1 e1
def negD (d : D) (k : T → Prop) : Prop := match d with
  | .int i => k (.va (.int (-i)))
  | _ => False
theorem w_neg (h : W1 Z X a env fun d e => negD d fun t => P (.t t) e) : WE Z X (.UnaryOp .USub a pos) env P :=
  we_of (pe_un un_neg pe_A) fun σ H F O b0 o => ⟨env, F, O, _, b0, o, h, fun v1 H1 ⟨F1, O1, a1, env1, b1, o1, st1, fr1, h1⟩ => by
    obtain ⟨d1, w1, h3⟩ := View.vw h1 o1 st1
    cases d1 with
    | int i =>
      cases w1.int
      exact ⟨i, rfl, (post_val b1 o1 (.int _) h3).from fr1⟩
    | _ => exact h3.elim⟩

/-! ### tests: and, or, not; conditional expressions -/
variable {PT : Bool → Env → Prop} {rest : List Expr}
theorem ww_and1 (h : WT Z X a env PT) : WW Z X (.BoolOp .And [a] pos) env PT := fun wh pins s σ H F O I b0 o => (pw_and1 (pt_T (e := a))).run wh pins s σ H _ I ⟨env, F, O, _, b0, o, h, fun _ _ q => q⟩
theorem ww_or1 (h : WT Z X a env PT) : WW Z X (.BoolOp .Or [a] pos) env PT := fun wh pins s σ H F O I b0 o => (pw_or1 (pt_T (e := a))).run wh pins s σ H _ I ⟨env, F, O, _, b0, o, h, fun _ _ q => q⟩
theorem pw_W {e : Expr} : PW X e (fun σ H Q => ∃ env F O P, Bas Z F H O ∧ OwE F H O σ env ∧ WW Z X e env P ∧ ∀ v H', PostT Z σ H F O P v H' → Q v H') :=
  ⟨fun wh pins s σ H Q I ⟨env, F, O, P, b, o, w, q⟩ => thn (w wh pins s σ H F O I b o) fun _ _ ⟨H', I', p⟩ => ⟨H', I', q _ _ p⟩⟩
theorem ww_and (h : WT Z X a env fun k e1 => (k = true → WW Z X (.BoolOp .And (b :: rest) pos) e1 PT) ∧ (k = false → PT false e1)) : WW Z X (.BoolOp .And (a :: b :: rest) pos) env PT := fun wh pins s σ H F O I b0 o =>
  (pw_and (pt_T (e := a)) pw_W).run wh pins s σ H _ I ⟨env, F, O, _, b0, o, h, fun k H1 ⟨F1, O1, env1, b1, o1, fr1, h1⟩ => by
    cases k with
    | true => exact iteT ⟨env1, F1, O1, _, b1, o1, h1.1 rfl, fun _ _ q => q.from fr1⟩
    | false => exact iteF ⟨F1, O1, env1, b1, o1, fr1, h1.2 rfl⟩⟩
theorem ww_or (h : WT Z X a env fun k e1 => (k = false → WW Z X (.BoolOp .Or (b :: rest) pos) e1 PT) ∧ (k = true → PT true e1)) : WW Z X (.BoolOp .Or (a :: b :: rest) pos) env PT := fun wh pins s σ H F O I b0 o =>
  (pw_or (pt_T (e := a)) pw_W).run wh pins s σ H _ I ⟨env, F, O, _, b0, o, h, fun k H1 ⟨F1, O1, env1, b1, o1, fr1, h1⟩ => by
    cases k with
    | false => exact iteF ⟨env1, F1, O1, _, b1, o1, h1.1 rfl, fun _ _ q => q.from fr1⟩
    | true => exact iteT ⟨F1, O1, env1, b1, o1, fr1, h1.2 rfl⟩⟩
theorem wt_not (h : WT Z X a env fun k e1 => PT (!k) e1) : WT Z X (.UnaryOp .Not a pos) env PT := wt_of (pt_not (pt_T (e := a))) fun σ H F O b0 o => ⟨env, F, O, _, b0, o, h, fun _ _ q => q⟩
/-- a value that is a bool, as a test -/
theorem wt_val (h : WE Z X e env fun r e1 => ∃ k, r = .t (.va (.bool k)) ∧ PT k e1) (he : ∀ whole, isTrue e X.env whole = (do let v ← whole; standAt e.pos; holding [v] (truthy v)) := by intro _; rfl) : WT Z X e env PT :=
  wt_of (pt_val (pe_E (e := e)) he) fun σ H F O b0 o => ⟨env, F, O, _, b0, o, h, fun v H1 ⟨F1, O1, r, env1, b1, st, fr1, k, e1, h1⟩ => by
    subst e1
    obtain ⟨O1', O2, rfl, o1, ow⟩ := st
    cases ow with
    | va r =>
      cases r with
      | bl k =>
        rw [List.append_nil] at b1 fr1
        exact ⟨k, rfl, F1, O1', env1, b1, o1, fr1, h1⟩⟩
theorem w_ifExp (h : WT Z X c env fun k e1 => (k = true → WE Z X a e1 P) ∧ (k = false → WE Z X b e1 P)) : WE Z X (.IfExp c a b pos) env P :=
  we_of (pe_ifExp (pt_T (e := c)) (pe_E (e := a)) (pe_E (e := b))) fun σ H F O b0 o => ⟨env, F, O, _, b0, o, h, fun k H1 ⟨F1, O1, env1, b1, o1, fr1, h1⟩ => by
    cases k with
    | true => exact iteT ⟨env1, F1, O1, _, b1, o1, h1.1 rfl, fun _ _ q => q.from fr1⟩
    | false => exact iteF ⟨env1, F1, O1, _, b1, o1, h1.2 rfl, fun _ _ q => q.from fr1⟩⟩
/-- and, or, not of bools as values -/
theorem w_one {op : _} (h : WE Z X a env P) : WE Z X (.BoolOp op [a] pos) env P := we_of (pe_one (pe_E (e := a))) fun σ H F O b0 o => ⟨env, F, O, _, b0, o, h, fun _ _ q => q⟩
theorem w_and (h : WE Z X a env fun r e1 => ∃ k, r = .t (.va (.bool k)) ∧ (k = true → WE Z X (.BoolOp .And (b :: rest) pos) e1 P) ∧ (k = false → P (.t (.va (.bool false))) e1)) : WE Z X (.BoolOp .And (a :: b :: rest) pos) env P :=
  we_of (pe_and (pe_E (e := a)) (pe_E (e := .BoolOp .And (b :: rest) pos))) fun σ H F O b0 o => ⟨env, F, O, _, b0, o, h, fun v H1 q => by
    obtain ⟨k, F1, O1, env1, rfl, b1, o1, fr1, h1⟩ := post_bool q
    refine ⟨k, rfl, ?_⟩
    cases k with
    | true => exact iteT ⟨env1, F1, O1, _, b1, o1, h1.1 rfl, fun _ _ q => q.from fr1⟩
    | false => exact iteF ((post_val b1 o1 (.bl _) (h1.2 rfl)).from fr1)⟩
theorem w_not (h : WE Z X a env fun r e1 => ∃ k, r = .t (.va (.bool k)) ∧ P (.t (.va (.bool (!k)))) e1) : WE Z X (.UnaryOp .Not a pos) env P :=
  we_of (pe_not (pe_E (e := a))) fun σ H F O b0 o => ⟨env, F, O, _, b0, o, h, fun v H1 q => by
    obtain ⟨k, F1, O1, env1, rfl, b1, o1, fr1, h1⟩ := post_bool q
    exact ⟨k, rfl, (post_val b1 o1 (.bl _) h1).from fr1⟩⟩

end
end QL

/-! QD: statements; defs. -/
namespace QL
open PySem PySem.Spec PyProof.Rows L2

/-! ### slots stored -/
theorem OwE.set {F H : Hp} : ∀ {O : List Addr} {σ : L2.St} {e : Env} {O2 : List Addr} {v : V} {t : T} (i : Nat), OwE F H O σ e → Ow F H O2 v t → i < e.length →
    ∃ O' Od, OwE F H O' (σ.set i (some v)) (e.set i (some t)) ∧ (O2 ++ O).Perm (O' ++ Od)
  | _, _, _, _, _, _, _, .nil, _, h => nomatch h
  | _, _, _, O2, v, t, 0, .un (O := O) r, w, _ => ⟨O2 ++ O, [], .so w r, by rw [List.append_nil]⟩
  | _, _, _, O2, v, t, i + 1, .un (O := O) r, w, h => by
    obtain ⟨O', Od, h1, h2⟩ := OwE.set i r w (Nat.lt_of_succ_lt_succ h)
    exact ⟨O', Od, .un h1, h2⟩
  | _, _, _, O2, v, t, 0, .so (O1 := Oa) (O2 := Ob) _ r, w, _ => ⟨O2 ++ Ob, Oa, .so w r, by rw [List.append_assoc]; exact (List.perm_append_comm (l₁ := Oa) (l₂ := Ob)).append_left O2⟩
  | _, _, _, O2, v, t, i + 1, .so (O1 := Oa) (O2 := Ob) q r, w, h => by
    obtain ⟨O', Od, h1, h2⟩ := OwE.set i r w (Nat.lt_of_succ_lt_succ h)
    refine ⟨Oa ++ O', Od, .so q h1, ?_⟩
    rw [List.append_assoc]
    refine List.Perm.trans ?_ (h2.append_left Oa)
    rw [← List.append_assoc, ← List.append_assoc]
    exact List.perm_append_comm.append_right Ob
theorem OwE.drop {F H : Hp} : ∀ {O : List Addr} {σ : L2.St} {e : Env} (i : Nat), OwE F H O σ e → ∃ O' Od, OwE F H O' σ (e.set i none) ∧ O.Perm (O' ++ Od)
  | _, _, _, _, .nil => ⟨[], [], .nil, List.Perm.refl _⟩
  | _, _, _, 0, .un (O := O) r => ⟨O, [], .un r, by rw [List.append_nil]⟩
  | _, _, _, i + 1, .un r => by
    obtain ⟨O', Od, h1, h2⟩ := OwE.drop i r
    exact ⟨O', Od, .un h1, h2⟩
  | _, _, _, 0, .so (O1 := Oa) (O2 := Ob) _ r => ⟨Ob, Oa, .un r, List.perm_append_comm⟩
  | _, _, _, i + 1, .so (O1 := Oa) (O2 := Ob) q r => by
    obtain ⟨O', Od, h1, h2⟩ := OwE.drop i r
    exact ⟨Oa ++ O', Od, .so q h1, by rw [List.append_assoc]; exact h2.append_left Oa⟩
theorem Bas.dropP {Tq : List (Addr × Str)} {Z : Zb Tq} {F H : Hp} {O O' Od : List Addr} (b : Bas Z F H O) (p : O.Perm (O' ++ Od)) : Bas Z F H O' ∧ Frm Tq H F O H F O' :=
  ⟨(b.perm p).left, (Frm.refl H F O).perm (fun _ => Iff.rfl) fun c hc => p.mem_iff.mpr (List.mem_append_left _ hc)⟩

/-! ### statements -/
inductive Out
  | nx (e : Env)
  | ret (t : T) (e : Env)
  | bk (e : Env)
  | ct (e : Env)
def endsOf {Tq : List (Addr × Str)} (Z : Zb Tq) (H0 F0 : Hp) (O0 : List Addr) (P : Out → Prop) : Ends where
  nx := fun σ H => ∃ F O env, Bas Z F H O ∧ OwE F H O σ env ∧ Frm Tq H0 F0 O0 H F O ∧ P (.nx env)
  rt := fun v H => ∃ F O1 O2 σ t env, Bas Z F H (O1 ++ O2) ∧ OwE F H O1 σ env ∧ Ow F H O2 v t ∧ Frm Tq H0 F0 O0 H F (O1 ++ O2) ∧ P (.ret t env)
  bk := fun σ H => ∃ F O env, Bas Z F H O ∧ OwE F H O σ env ∧ Frm Tq H0 F0 O0 H F O ∧ P (.bk env)
  ct := fun σ H => ∃ F O env, Bas Z F H O ∧ OwE F H O σ env ∧ Frm Tq H0 F0 O0 H F O ∧ P (.ct env)
def WS {Tq : List (Addr × Str)} (Z : Zb Tq) (X : Cx) (st : Stmt) (env : Env) (P : Out → Prop) : Prop :=
  ∀ (pins : List (Addr × Obj)) (s : Shared) (σ : L2.St) (H F : Hp) (O : List Addr), Inv X pins σ H s → Bas Z F H O → OwE F H O σ env →
    wpAny (model X.prog X.w) X.A (exec st X.env) (SP X pins (endsOf Z H F O P)) X.xe s
def WSs {Tq : List (Addr × Str)} (Z : Zb Tq) (X : Cx) (st : List Stmt) (env : Env) (P : Out → Prop) : Prop :=
  ∀ (pins : List (Addr × Obj)) (s : Shared) (σ : L2.St) (H F : Hp) (O : List Addr), Inv X pins σ H s → Bas Z F H O → OwE F H O σ env →
    wpAny (model X.prog X.w) X.A (execs st X.env) (SP X pins (endsOf Z H F O P)) X.xe s
/-- what is wanted, weaker -/
structure EndsLe (D D' : Ends) : Prop where
  nx : ∀ σ H, D.nx σ H → D'.nx σ H
  rt : ∀ v H, D.rt v H → D'.rt v H
  bk : ∀ σ H, D.bk σ H → D'.bk σ H
  ct : ∀ σ H, D.ct σ H → D'.ct σ H
theorem EndsLe.refl (D : Ends) : EndsLe D D := ⟨fun _ _ h => h, fun _ _ h => h, fun _ _ h => h, fun _ _ h => h⟩
theorem SP.le {X : Cx} {pins : List (Addr × Obj)} {D D' : Ends} (l : EndsLe D D') : ∀ f s', SP X pins D f s' → SP X pins D' f s'
  | .next, _, ⟨σ, H, I, q⟩ => ⟨σ, H, I, l.nx _ _ q⟩
  | .brk, _, ⟨σ, H, I, q⟩ => ⟨σ, H, I, l.bk _ _ q⟩
  | .cont, _, ⟨σ, H, I, q⟩ => ⟨σ, H, I, l.ct _ _ q⟩
  | .ret _, _, ⟨v, σ, H, I, r, q⟩ => ⟨v, σ, H, I, r, l.rt _ _ q⟩
theorem endsOf.from {Tq : List (Addr × Str)} {Z : Zb Tq} {H0 F0 H1 F1 : Hp} {O0 O1 : List Addr} {P P' : Out → Prop} (fr : Frm Tq H0 F0 O0 H1 F1 O1) (hp : ∀ o, P o → P' o) : EndsLe (endsOf Z H1 F1 O1 P) (endsOf Z H0 F0 O0 P') :=
  ⟨fun _ _ ⟨F, O, env, b, o, f, p⟩ => ⟨F, O, env, b, o, fr.trans f, hp _ p⟩, fun _ _ ⟨F, O, O2, σ, t, env, b, o, w, f, p⟩ => ⟨F, O, O2, σ, t, env, b, o, w, fr.trans f, hp _ p⟩,
    fun _ _ ⟨F, O, env, b, o, f, p⟩ => ⟨F, O, env, b, o, fr.trans f, hp _ p⟩, fun _ _ ⟨F, O, env, b, o, f, p⟩ => ⟨F, O, env, b, o, fr.trans f, hp _ p⟩⟩
def tS {Tq : List (Addr × Str)} (Z : Zb Tq) (X : Cx) (st : Stmt) : TS := fun D σ H => ∃ env F O P, Bas Z F H O ∧ OwE F H O σ env ∧ WS Z X st env P ∧ EndsLe (endsOf Z H F O P) D
def tSs {Tq : List (Addr × Str)} (Z : Zb Tq) (X : Cx) (st : List Stmt) : TS := fun D σ H => ∃ env F O P, Bas Z F H O ∧ OwE F H O σ env ∧ WSs Z X st env P ∧ EndsLe (endsOf Z H F O P) D
section
variable {Tq : List (Addr × Str)} {Z : Zb Tq} {X : Cx} {e a b c : Expr} {es : List Expr} {env : Env} {pos : Pos} {P : Out → Prop} {st : Stmt} {rest body els : List Stmt}
theorem ps_S : PS X st (tS Z X st) := ⟨fun pins s σ H D I ⟨env, F, O, P, b, o, w, l⟩ => thn (w pins s σ H F O I b o) (SP.le l)⟩
theorem pss_S : PSs X rest (tSs Z X rest) := ⟨fun pins s σ H D I ⟨env, F, O, P, b, o, w, l⟩ => thn (w pins s σ H F O I b o) (SP.le l)⟩
theorem ws_of {t : TS} (h : PS X st t) (w : ∀ σ H F O, Bas Z F H O → OwE F H O σ env → t (endsOf Z H F O P) σ H) : WS Z X st env P := fun pins s σ H F O I b o => h.run pins s σ H _ I (w σ H F O b o)
theorem WS.imp {P' : Out → Prop} (h : WS Z X st env P) (hp : ∀ o, P o → P' o) : WS Z X st env P' := fun pins s σ H F O I b o => thn (h pins s σ H F O I b o) (SP.le (endsOf.from (Frm.refl _ _ _) hp))
theorem WSs.imp {P' : Out → Prop} (h : WSs Z X rest env P) (hp : ∀ o, P o → P' o) : WSs Z X rest env P' := fun pins s σ H F O I b o => thn (h pins s σ H F O I b o) (SP.le (endsOf.from (Frm.refl _ _ _) hp))
theorem wss_nil (h : P (.nx env)) : WSs Z X [] env P := fun pins s σ H F O I b o => pss_nil.run pins s σ H _ I ⟨F, O, env, b, o, Frm.refl _ _ _, h⟩
/-- a statement, then the rest -/
def seqP {Tq : List (Addr × Str)} (Z : Zb Tq) (X : Cx) (rest : List Stmt) (P : Out → Prop) : Out → Prop
  | .nx e => WSs Z X rest e P
  | .ret t e => P (.ret t e)
  | .bk e => P (.bk e)
  | .ct e => P (.ct e)
theorem wss_cons (h : WS Z X st env (seqP Z X rest P)) : WSs Z X (st :: rest) env P := fun pins s σ H F O I b o =>
  (pss_cons (ps_S (Z := Z)) (pss_S (Z := Z))).run pins s σ H _ I ⟨env, F, O, _, b, o, h, ⟨fun σ' H' ⟨F', O', e', b', o', f', p⟩ => ⟨e', F', O', P, b', o', p, endsOf.from f' fun _ q => q⟩, fun _ _ q => q, fun _ _ q => q, fun _ _ q => q⟩⟩
theorem wss_one (h : WS Z X st env P) : WSs Z X [st] env P := fun pins s σ H F O I b o => (pss_one (ps_S (Z := Z))).run pins s σ H _ I ⟨env, F, O, _, b, o, h, EndsLe.refl _⟩
theorem ws_expr (h : WE Z X e env fun _ e1 => P (.nx e1)) (hs : swapsWith e none pos.line X.env = pure false := by rfl) : WS Z X (.Expr e pos) env P := ws_of (ps_expr (pe_E (Z := Z)) hs) fun σ H F O b o =>
  ⟨env, F, O, _, b, o, h, fun v H1 ⟨F1, O1, r, e1, b1, st, fr, p⟩ => by
    cases r with
    | bor a i q => exact ⟨F1, O1, e1, b1, st.1, fr, p⟩
    | t t =>
      obtain ⟨O2, O3, rfl, o2, _⟩ := st
      exact ⟨F1, O2, e1, b1.left, o2, fr.perm (fun _ => Iff.rfl) fun c hc => List.mem_append_left _ hc, p⟩⟩
/-- what is handed back: a thing of its own; what a name alone holds goes away with it -/
def retR (r : R) (env : Env) (k : T → Env → Prop) : Prop := match r with
  | .t t => k t env
  | .bor a i [] => match env[i]? with
    | some (some t) => t.addr = some a ∧ k t (env.set i none)
    | _ => False
  | .bor a i p => match getP i p env with
    | some t => t.addr = some a ∧ match frzT t with
      | some d => k (.va d) (setP i p (.va d) env)
      | none => False
    | none => False
theorem OwE.takeI {F H : Hp} : ∀ {O : List Addr} {σ : L2.St} {e : Env} {i : Nat} {t : T}, OwE F H O σ e → e[i]? = some (some t) → ∃ w O1 O2, OwE F H O1 σ (e.set i none) ∧ Ow F H O2 w t ∧ O.Perm (O1 ++ O2)
  | _, _, _, _, _, .nil, h => nomatch h
  | _, _, _, 0, t, .un r, h => by cases h
  | _, _, _, i + 1, t, .un (O := O) r, h => by
    obtain ⟨w, O1, O2, h1, h2, h3⟩ := OwE.takeI (i := i) r h
    exact ⟨w, O1, O2, .un h1, h2, h3⟩
  | _, _, _, 0, t, .so (O1 := Oa) (O2 := Ob) q r, h => by
    cases h
    exact ⟨_, Ob, Oa, .un r, q, List.perm_append_comm⟩
  | _, _, _, i + 1, t, .so (O1 := Oa) (O2 := Ob) q r, h => by
    obtain ⟨w, O1, O2, h1, h2, h3⟩ := OwE.takeI (i := i) r h
    exact ⟨w, Oa ++ O1, O2, .so q h1, h2, by rw [List.append_assoc]; exact h3.append_left Oa⟩
theorem retR_ok {σ : L2.St} {F H : Hp} {O : List Addr} {v : V} {r : R} {k : T → Env → Prop} (b : Bas Z F H O) (s : StR F H O σ env v r) (h : retR r env k) :
    ∃ F' O1 O2 t e', Bas Z F' H (O1 ++ O2) ∧ OwE F' H O1 σ e' ∧ Ow F' H O2 v t ∧ Frm Tq H F O H F' (O1 ++ O2) ∧ k t e' := by
  cases r with
  | t t =>
    obtain ⟨O1, O2, rfl, o, w⟩ := s
    exact ⟨F, O1, O2, t, env, b, o, w, Frm.refl _ _ _, h⟩
  | bor a i p =>
    obtain ⟨o, rfl⟩ := s
    cases p with
    | nil =>
      unfold retR at h
      simp only at h
      split at h
      · rename_i t e
        obtain ⟨w, O1, O2, h1, h2, h3⟩ := o.takeI e
        have hw := h2.ref h.1
        subst hw
        exact ⟨F, O1, O2, t, _, b.perm h3, h1, h2, (Frm.refl H F O).perm (fun _ => Iff.rfl) fun c hc => h3.mem_iff.mpr hc, h.2⟩
      · exact h.elim
    | cons f p =>
      unfold retR at h
      simp only at h
      cases hg : getP i (f :: p) env with
      | none => rw [hg] at h; exact h.elim
      | some t =>
        rw [hg] at h
        obtain ⟨ha, h⟩ := h
        cases hf : frzT t with
        | none => rw [hf] at h; exact h.elim
        | some d =>
          rw [hf] at h
          obtain ⟨F', O', ds, e', b', o', r', fr, q⟩ := absorb_ok (k := fun ds e' => ∃ d, ds = [d] ∧ k (.va d) e') (.cons (a := .bor a i (f :: p)) rfl .nil) b o (by
            unfold absorb; simp only [hg, hf]; exact ⟨ha, d, rfl, h⟩)
          obtain ⟨d, rfl, q⟩ := q
          cases r' with
          | cons r1 _ => exact ⟨F', O', [], .va d, e', by rw [List.append_nil]; exact b', o', .va r1, by rw [List.append_nil]; exact fr, q⟩
theorem ws_ret (h : WE Z X e env fun r e1 => retR r e1 fun t e2 => P (.ret t e2)) : WS Z X (.Return (some e) pos) env P := ws_of (ps_ret (pe_E (Z := Z))) fun σ H F O b o =>
  ⟨env, F, O, _, b, o, h, fun v H1 ⟨F1, O1, r, e1, b1, st, fr, p⟩ => by
    obtain ⟨F2, O2, O3, t, e2, b2, o2, w2, fr2, q⟩ := retR_ok b1 st p
    exact ⟨F2, O2, O3, σ, t, e2, b2, o2, w2, fr.trans fr2, q⟩⟩
theorem ws_if (h : WT Z X c env fun k e1 => (k = true → WSs Z X body e1 P) ∧ (k = false → WSs Z X els e1 P)) : WS Z X (.If c body els pos) env P :=
  ws_of (ps_if (pt_T (Z := Z)) (pss_S (Z := Z)) (pss_S (Z := Z))) fun σ H F O b o => ⟨env, F, O, _, b, o, h, fun k H1 ⟨F1, O1, e1, b1, o1, fr, p⟩ => by
    cases k with
    | true => exact iteT ⟨e1, F1, O1, P, b1, o1, p.1 rfl, endsOf.from fr fun _ q => q⟩
    | false => exact iteF ⟨e1, F1, O1, P, b1, o1, p.2 rfl, endsOf.from fr fun _ q => q⟩⟩
/-- x = e: a thing of its own, or what is frozen from then on -/
def storeR (r : R) (i : Nat) (env : Env) (k : Env → Prop) : Prop := i < env.length ∧ match r with
  | .t t => k (env.set i (some t))
  | .bor a j p => absorb [.bor a j p] env fun ds e => match ds with
    | [d] => i < e.length ∧ k (e.set i (some (.va d)))
    | _ => False
theorem storeR_ok {σ : L2.St} {F H : Hp} {O : List Addr} {v : V} {r : R} {i : Nat} {k : Env → Prop} (b : Bas Z F H O) (s : StR F H O σ env v r) (h : storeR r i env k) :
    ∃ F' O' e', Bas Z F' H O' ∧ OwE F' H O' (σ.set i (some v)) e' ∧ Frm Tq H F O H F' O' ∧ k e' := by
  obtain ⟨hi, h⟩ := h
  cases r with
  | t t =>
    obtain ⟨O1, O2, rfl, o, w⟩ := s
    obtain ⟨O', Od, h1, h2⟩ := o.set i w hi
    obtain ⟨b', fr⟩ := b.dropP (List.perm_append_comm.trans h2)
    exact ⟨F, O', _, b', h1, fr, h⟩
  | bor a j p =>
    obtain ⟨o, rfl⟩ := s
    obtain ⟨F', O1, ds, e1, b1, o1, r1, fr1, q⟩ := absorb_ok (.cons (a := .bor a j p) rfl .nil) b o h
    cases r1 with
    | cons r1 r2 =>
      cases r2
      obtain ⟨hi', q⟩ := q
      obtain ⟨O', Od, h1, h2⟩ := o1.set i (.va r1) hi'
      obtain ⟨b', fr⟩ := b1.dropP h2
      exact ⟨F', O', _, b', h1, fr1.trans fr, q⟩
theorem ws_set (i : Nat) {x : Str} {pos' : Pos} (h : WE Z X e env fun r e1 => storeR r i e1 fun e2 => P (.nx e2)) (hN : X.N.Nodup) (hi : X.N[i]? = some x := by rfl) (hx : Loc X.env.scope x := by first | exact Or.inl rfl | exact Or.inr rfl) (hs : swapsWith e (some (.Name x pos')) pos.line X.env = pure false := by rfl)
    (hf : X.fn x = true ∨ X.env.scope.names.lookup x = some .local := by first | exact .inl rfl | exact .inr rfl) : WS Z X (.Assign [.Name x pos'] e pos) env P :=
  ws_of (ps_set hN hi hx (pe_E (Z := Z)) hs hf) fun σ H F O b o => ⟨env, F, O, _, b, o, h, fun v H1 ⟨F1, O1, r, e1, b1, st, fr, p⟩ => by
    obtain ⟨F2, O2, e2, b2, o2, fr2, q⟩ := storeR_ok b1 st p
    exact ⟨F2, O2, e2, b2, o2, fr.trans fr2, q⟩⟩
/-- x op= e -/
theorem ws_aug (i : Nat) {x : Str} {pos' : Pos} {op : Operator} {g : D → D → (T → Prop) → Prop} (ho : DOp X (inplaceOp op) g)
    (h : ∃ d0, env[i]? = some (some (.va d0)) ∧ WA Z X e env fun a2 e2 => View a2 e2 fun d2 => i < e2.length ∧ g d0 d2 fun t => P (.nx (e2.set i (some t)))) (hN : X.N.Nodup) (hi : X.N[i]? = some x := by rfl) (hx : Loc X.env.scope x := by first | exact Or.inl rfl | exact Or.inr rfl)
    (hf : X.fn x = true ∨ X.env.scope.names.lookup x = some .local := by first | exact .inl rfl | exact .inr rfl) : WS Z X (.AugAssign (.Name x pos') op e pos) env P := by
  obtain ⟨d0, e0, h⟩ := h
  have hp : PIp X op (rD g) := fun pins s σ H x y v u Q I r1 r2 q => ho.r pins s σ H x y v u Q I r1 r2 q
  refine ws_of (ps_aug hN hi hx (pe_A (Z := Z)) hp hf) fun σ H F O b o => ?_
  obtain ⟨w, hw, Oj, O', h1, h2, h3⟩ := o.focusI e0
  cases h1 with
  | va r0 =>
    refine ⟨w, hw, env, F, O, _, b, o, h, fun v2 H2 ⟨F2, O2, a2, e2, b2, o2, st2, fr2, p⟩ => ?_⟩
    obtain ⟨d2, w2, hl, hg⟩ := View.vw p o2 st2
    refine ⟨F2, d0, d2, _, b2.sub, .pure (r0.mono fr2.fz), w2, hg, fun v3 H3 n => ?_⟩
    obtain ⟨F3, O3, r3, e3, b3, st3, fr3, t, er, e3e, q⟩ := n.post b2 o2 (P := fun r e => ∃ t, r = .t t ∧ e = e2 ∧ P (.nx (e2.set i (some t)))) fun t q => ⟨t, rfl, rfl, q⟩
    subst er e3e
    obtain ⟨F4, O4, e4, b4, o4, fr4, q4⟩ := storeR_ok (i := i) (k := fun e => P (.nx e)) b3 st3 ⟨hl, q⟩
    exact ⟨F4, O4, e4, b4, o4, (fr2.trans fr3).trans fr4, q4⟩

/-! ### while -/
def loopP (P : Out → Prop) (N : Env → Prop) : Out → Prop
  | .nx e => N e
  | .ct e => N e
  | .bk e => P (.nx e)
  | .ret t e => P (.ret t e)
theorem loop_le {H0 F0 H1 F1 : Hp} {O0 O1 : List Addr} (fr : Frm Tq H0 F0 O0 H1 F1 O1) {N : Env → Prop} {Nh : L2.St → Hp → Prop} (hn : ∀ σ H F O env, Bas Z F H O → OwE F H O σ env → Frm Tq H1 F1 O1 H F O → N env → Nh σ H) :
    EndsLe (endsOf Z H1 F1 O1 (loopP P N)) { endsOf Z H0 F0 O0 P with nx := Nh, ct := Nh, bk := (endsOf Z H0 F0 O0 P).nx } :=
  ⟨fun _ _ ⟨F, O, env, b, o, f, p⟩ => hn _ _ F O env b o f p, fun _ _ ⟨F, O, O2, σ, t, env, b, o, w, f, p⟩ => ⟨F, O, O2, σ, t, env, b, o, w, fr.trans f, p⟩,
    fun _ _ ⟨F, O, env, b, o, f, p⟩ => ⟨F, O, env, b, o, fr.trans f, p⟩, fun _ _ ⟨F, O, env, b, o, f, p⟩ => hn _ _ F O env b o f p⟩
theorem ws_while (I : Nat → Env → Prop) (m : Nat) (h0 : I m env) (hs : ∀ m env, I m env → WT Z X c env fun k e1 => (k = true → WSs Z X body e1 (loopP P fun e => ∃ m', m' < m ∧ I m' e)) ∧ (k = false → P (.nx e1)))
    (hp : PassesOwn (model X.prog X.w) X.A X.env X.xe) : WS Z X (.While c body [] pos) env P :=
  ws_of (ps_while hp (pt_T (Z := Z)) (pss_S (Z := Z))) fun σ0 H0 F0 O0 b0 o0 => by
    refine ⟨fun m σ H => ∃ F O env, Bas Z F H O ∧ OwE F H O σ env ∧ Frm Tq H0 F0 O0 H F O ∧ I m env, ⟨m, F0, O0, env, b0, o0, Frm.refl _ _ _, h0⟩, ?_⟩
    rintro m σ H ⟨F, O, env, b, o, fr, hI⟩
    refine ⟨env, F, O, _, b, o, hs m env hI, fun k H1 ⟨F1, O1, e1, b1, o1, fr1, p⟩ => ?_⟩
    cases k with
    | true =>
      refine iteT ⟨fun σ' H' => ∃ m', m' < m ∧ ∃ F O env, Bas Z F H' O ∧ OwE F H' O σ' env ∧ Frm Tq H0 F0 O0 H' F O ∧ I m' env, fun σ' H' ⟨m', hm, q⟩ => ⟨m', hm, q⟩, e1, F1, O1, _, b1, o1, p.1 rfl, ?_⟩
      refine loop_le (fr.trans fr1) ?_
      rintro σ2 H2 F2 O2 e2 b2 o2 f2 ⟨m', hm, q⟩
      exact ⟨m', hm, F2, O2, e2, b2, o2, (fr.trans fr1).trans f2, q⟩
    | false => exact iteF ⟨F1, O1, e1, b1, o1, fr.trans fr1, p.2 rfl⟩
end
end QL

/-! QE: targets, for, comprehensions. -/
namespace QL
open PySem PySem.Spec PyProof.Rows L2

theorem Bas.grow {Tq : List (Addr × Str)} {Z : Zb Tq} {F H F' H' : Hp} {O : List Addr} {σ : L2.St} {env : Env} (b : Bas Z F H O) (o : OwE F H O σ env) (s1 : Same F F') (s2 : Same H H') (s3 : Same F' H') (nf : ∀ a, F' a ≠ none → F a ≠ none ∨ H a = none) :
    Bas Z F' H' O ∧ OwE F' H' O σ env ∧ Frm Tq H F O H' F' O := by
  have keep : ∀ a ∈ O, H' a = H a := fun a ha => by
    cases q : H a with
    | none => exact absurd q (o.there a ha)
    | some x => exact s2 a x q
  have fr : Frm Tq H F O H' F' O := ⟨s1, fun a x e _ _ => s2 a x e, (fun a e => by
      cases q : H a with
      | none => exact absurd q e
      | some x => rw [s2 a x q]; exact fun z => nomatch z), fun a e => (nf a e).imp_right .inl, fun a ha => .inl ha, tab_same s2⟩
  refine ⟨⟨s3, b.nd, fun a ha => ?_, b.abs.trans fr⟩, o.stay s1 keep, fr⟩
  cases q : F' a with
  | none => rfl
  | some x =>
    rcases nf a (by rw [q]; exact fun z => nomatch z) with z | z
    · exact absurd (b.dis a ha) z
    · exact absurd z (o.there a ha)

/-! ### targets -/
theorem wipe_get {σ : L2.St} {i : Nat} : ∀ {vs : List Nat}, (wipe σ vs)[i]? = if i ∈ vs then (if i < σ.length then some none else none) else σ[i]?
  | [] => by simp [wipe]
  | v :: vs => by
    unfold wipe
    rw [List.getElem?_set, wipe_length, wipe_get (vs := vs)]
    by_cases e : v = i
    · subst e; simp
    · rw [if_neg e]
      have : (i ∈ v :: vs) ↔ i ∈ vs := by simp [Ne.symm e]
      simp only [this]
theorem wipe_set {σ : L2.St} {i : Nat} {x : Option V} {vs : List Nat} (h : i ∈ vs) : wipe (σ.set i x) vs = wipe σ vs := by
  apply List.ext_getElem?
  intro j
  rw [wipe_get, wipe_get, List.length_set]
  by_cases e : j ∈ vs
  · rw [if_pos e, if_pos e]
  · rw [if_neg e, if_neg e, List.getElem?_set_ne (fun z => e (by rw [← z]; exact h))]
theorem wipe_wipe {σ : L2.St} {vs : List Nat} : wipe (wipe σ vs) vs = wipe σ vs := by
  apply List.ext_getElem?
  intro j
  rw [wipe_get, wipe_get, wipe_length]
  by_cases e : j ∈ vs
  · rw [if_pos e, if_pos e]
  · rw [if_neg e, if_neg e]
def wipeE (env : Env) : List Nat → Env
  | [] => env
  | v :: vs => (wipeE env vs).set v none
theorem OwE.none_any {F H : Hp} : ∀ {O : List Addr} {σ σ' : L2.St} {e : Env}, OwE F H O σ e → σ'.length = σ.length → (∀ i : Nat, e[i]? ≠ some none → σ'[i]? = σ[i]?) → OwE F H O σ' e
  | _, _, [], _, .nil, _, _ => .nil
  | _, _, _ :: _, _, .nil, l, _ => nomatch l
  | _, _, [], _, .un r, l, _ => nomatch l
  | _, _, x :: σ', _, .un r, l, h => .un (r.none_any (Nat.succ.inj l) fun i hi => h (i + 1) hi)
  | _, _, [], _, .so q r, l, _ => nomatch l
  | _, _, x :: σ', _, .so q r, l, h => by
    have e : x = some _ := Option.some.inj (h 0 fun z => nomatch z)
    subst e
    exact .so q (r.none_any (Nat.succ.inj l) fun i hi => h (i + 1) hi)
theorem OwE.wipeO {F H : Hp} {O : List Addr} {σ : L2.St} {e : Env} (o : OwE F H O σ e) : ∀ vs : List Nat, ∃ O' Od, OwE F H O' σ (wipeE e vs) ∧ O.Perm (O' ++ Od)
  | [] => ⟨O, [], o, by rw [List.append_nil]⟩
  | v :: vs => by
    obtain ⟨O1, Od1, h1, h2⟩ := o.wipeO vs
    obtain ⟨O2, Od2, h3, h4⟩ := h1.drop v
    exact ⟨O2, Od2 ++ Od1, h3, by rw [← List.append_assoc]; exact h2.trans (h4.append_right Od1)⟩
theorem wipeE_get {env : Env} {i : Nat} : ∀ {vs : List Nat}, (wipeE env vs)[i]? = if i ∈ vs then (if i < env.length then some none else none) else env[i]?
  | [] => by simp [wipeE]
  | v :: vs => by
    have hl : ∀ ws : List Nat, (wipeE env ws).length = env.length := fun ws => by
      induction ws with
      | nil => rfl
      | cons w ws ih => unfold wipeE; rw [List.length_set, ih]
    unfold wipeE
    rw [List.getElem?_set, hl, wipeE_get (vs := vs)]
    by_cases e : v = i
    · subst e; simp
    · rw [if_neg e]
      have : (i ∈ v :: vs) ↔ i ∈ vs := by simp [Ne.symm e]
      simp only [this]
/-- the slots of a block's names: what stands there does not matter -/
theorem OwE.wiped {F H : Hp} {O : List Addr} {σ σ' : L2.St} {e : Env} {vs : List Nat} (o : OwE F H O σ (wipeE e vs)) (h : wipe σ' vs = wipe σ vs) : OwE F H O σ' (wipeE e vs) := by
  have hl : σ'.length = σ.length := by have := congrArg List.length h; rw [wipe_length, wipe_length] at this; exact this
  have hw : (wipeE e vs).length = e.length := by
    clear o h hl
    induction vs with
    | nil => rfl
    | cons w ws ih => unfold wipeE; rw [List.length_set, ih]
  refine o.none_any hl fun i hi => ?_
  have g := congrArg (fun l => l[i]?) h
  simp only [wipe_get] at g
  by_cases z : i ∈ vs
  · rw [wipeE_get, if_pos z] at hi
    by_cases y : i < e.length
    · rw [if_pos y] at hi; exact absurd rfl hi
    · have q := o.len
      rw [hw] at q
      rw [List.getElem?_eq_none (by omega), List.getElem?_eq_none (by omega)]
  · rw [if_neg z, if_neg z] at g
    exact g

abbrev TF := D → Env → (Env → Prop) → Prop
abbrev TFs := List D → Env → (Env → Prop) → Prop
/-- a target's store, over data; ix: its names' slots -/
def GOk {Tq : List (Addr × Str)} (Z : Zb Tq) (g : TG) (f : TF) (ix : List Nat) : Prop := ∀ (v : V) (d : D) (σ : L2.St) (H F : Hp) (O : List Addr) (env : Env) (k : Env → Prop) (Q : L2.St → Hp → Prop), Bas Z F H O → OwE F H O σ env → Rp F v d → f d env k →
  (∀ σ' O' e', Bas Z F H O' → OwE F H O' σ' e' → (∀ a ∈ O', a ∈ O) → (∀ vs : List Nat, (∀ i ∈ ix, i ∈ vs) → wipe σ' vs = wipe σ vs) → k e' → Q σ' H) → g v σ H Q
def GsOk {Tq : List (Addr × Str)} (Z : Zb Tq) (g : TGs) (f : TFs) (ix : List Nat) : Prop := ∀ (v : List V) (d : List D) (σ : L2.St) (H F : Hp) (O : List Addr) (env : Env) (k : Env → Prop) (Q : L2.St → Hp → Prop), Bas Z F H O → OwE F H O σ env → RpA F v d → f d env k →
  (∀ σ' O' e', Bas Z F H O' → OwE F H O' σ' e' → (∀ a ∈ O', a ∈ O) → (∀ vs : List Nat, (∀ i ∈ ix, i ∈ vs) → wipe σ' vs = wipe σ vs) → k e' → Q σ' H) → g v σ H Q
def fName (i : Nat) : TF := fun d env k => i < env.length ∧ k (env.set i (some (.va d)))
def fNil : TFs := fun ds env k => ds = [] ∧ k env
def fCons (f : TF) (fs : TFs) : TFs := fun ds env k => match ds with
  | d :: r => f d env fun e => fs r e k
  | [] => False
def fTup (n : Nat) (fs : TFs) : TF := fun d env k => match d with
  | .tuple ds => ds.length = n ∧ fs ds env k
  | _ => False
theorem gok_name {Tq : List (Addr × Str)} {Z : Zb Tq} (i : Nat) : GOk Z (gName i) (fName i) [i] := fun v d σ H F O env k Q b o r h q => by
  obtain ⟨O', Od, h1, h2⟩ := o.set i (.va r) h.1
  obtain ⟨b', fr⟩ := b.dropP h2
  exact q _ O' _ b' h1 (fun a ha => h2.mem_iff.mpr (List.mem_append_left _ ha)) (fun vs hv => wipe_set (hv i (List.mem_singleton.mpr rfl))) h.2
theorem gsok_nil {Tq : List (Addr × Str)} {Z : Zb Tq} : GsOk Z gNil fNil [] := fun v d σ H F O env k Q b o r h q => by
  obtain ⟨rfl, h⟩ := h
  cases r
  exact ⟨rfl, q σ O env b o (fun _ z => z) (fun _ _ => rfl) h⟩
theorem gsok_cons {Tq : List (Addr × Str)} {Z : Zb Tq} {g : TG} {gs : TGs} {f : TF} {fs : TFs} {ix ixs : List Nat} (h1 : GOk Z g f ix) (h2 : GsOk Z gs fs ixs) : GsOk Z (gCons g gs) (fCons f fs) (ix ++ ixs) := fun v d σ H F O env k Q b o r h q => by
  cases r with
  | nil => exact h.elim
  | cons r1 r2 =>
    refine ⟨_, _, rfl, h1 _ _ σ H F O env _ _ b o r1 h fun σ1 O1 e1 b1 o1 s1 w1 h => ?_⟩
    refine h2 _ _ σ1 H F O1 e1 k _ b1 o1 r2 h fun σ2 O2 e2 b2 o2 s2 w2 h => ?_
    exact q σ2 O2 e2 b2 o2 (fun a ha => s1 a (s2 a ha)) (fun vs hv => (w2 vs fun i hi => hv i (List.mem_append_right _ hi)).trans (w1 vs fun i hi => hv i (List.mem_append_left _ hi))) h
theorem gok_tup {Tq : List (Addr × Str)} {Z : Zb Tq} {K : PySem.W.Frag} {n : Nat} {gs : TGs} {fs : TFs} {ix : List Nat} (h1 : GsOk Z gs fs ix) : GOk Z (gTup K n gs) (fTup n fs) ix := fun v d σ H F O env k Q b o r h q => by
  cases d with
  | tuple ds =>
    cases r with
    | tup hF r =>
      exact ⟨_, _, rfl, .inl (rd_mono b.sub hF), by rw [r.len]; exact h.1, h1 _ _ σ H F O env k Q b o r h.2 q⟩
  | _ => exact h.elim

section
variable {Tq : List (Addr × Str)} {Z : Zb Tq} {X : Cx} {e a b c tg iter elt : Expr} {es : List Expr} {env : Env} {pos : Pos} {P : Out → Prop} {PR : R → Env → Prop} {body : List Stmt}

/-- target = e, e a tuple -/
theorem ws_asg {g : TG} {f : TF} {ix : List Nat} (hg : PG X tg g) (gk : GOk Z g f ix) (h : WE Z X e env fun r e1 => ∃ d, r = .t (.va d) ∧ f d e1 fun e2 => P (.nx e2)) (hs : swapsWithSole [tg] e pos.line X.env = pure false := by rfl) (hw : swappedStores [tg] e X.env = pure none := by rfl)
    (h1 : (assignEach [tg] X.env).map (·.2) = [assign tg X.env] := by rfl) : WS Z X (.Assign [tg] e pos) env P :=
  ws_of (ps_asg (pe_E (Z := Z)) hg hs hw h1) fun σ H F O b o => ⟨env, F, O, _, b, o, h, fun v H1 ⟨F1, O1, r, e1, b1, st, fr, d, er, p⟩ => by
    subst er
    obtain ⟨O2, O3, rfl, o1, w⟩ := st
    cases w with
    | va r =>
      rw [List.append_nil] at b1 fr
      refine gk v d σ H1 F1 O2 e1 _ _ b1 o1 r p fun σ2 O4 e2 b2 o2 s2 _ q => ⟨F1, O4, e2, b2, o2, fr.perm (fun _ => Iff.rfl) s2, q⟩⟩

/-! ### what is walked -/
def Gives (J : It) (ds : List D) (F1 : Hp) : Prop := ∀ (F' H' : Hp), Same F1 F' → Same F' H' → ∀ i : Nat,
  (∀ d, ds[i]? = some d → J.go i H' ∧ ∀ x H'', J.yld i H' x H'' → ∃ F'', Rp F'' x d ∧ Same F' F'' ∧ Same H' H'' ∧ Same F'' H'' ∧ ∀ a, F'' a ≠ none → F' a ≠ none ∨ H' a = none) ∧ (ds[i]? = none → J.stop i H')
def WI {Tq : List (Addr × Str)} (Z : Zb Tq) (X : Cx) (tg iter : Expr) (env : Env) (P : List D → Env → Prop) : Prop :=
  ∀ (pins : List (Addr × Obj)) (s : Shared) (σ : L2.St) (H F : Hp) (O : List Addr), Inv X pins σ H s → Bas Z F H O → OwE F H O σ env →
    wpAny (model X.prog X.w) X.A (eval iter X.env) (fun v s1 => wpAny (model X.prog X.w) X.A (pyIter v) (PIE X pins σ tg fun J H1 => ∃ F1 O1 ds e1, Bas Z F1 H1 O1 ∧ OwE F1 H1 O1 σ e1 ∧ Frm Tq H F O H1 F1 O1 ∧ Gives J ds F1 ∧ P ds e1) X.xe s1) X.xe s
def tI {Tq : List (Addr × Str)} (Z : Zb Tq) (X : Cx) (tg iter : Expr) : TI := fun σ H Rr => ∃ env F O P, Bas Z F H O ∧ OwE F H O σ env ∧ WI Z X tg iter env P ∧
  ∀ J H1 F1 O1 ds e1, Bas Z F1 H1 O1 → OwE F1 H1 O1 σ e1 → Frm Tq H F O H1 F1 O1 → Gives J ds F1 → P ds e1 → Rr J H1
theorem PIE.imp {pins : List (Addr × Obj)} {σ : L2.St} {R1 R2 : It → Hp → Prop} (h : ∀ J H1, R1 J H1 → R2 J H1) : ∀ v s, PIE X pins σ tg R1 v s → PIE X pins σ tg R2 v s := fun _ _ ⟨it, fp, tn, J, H', e, I, T, t0, f, q⟩ => ⟨it, fp, tn, J, H', e, I, T, t0, f, h _ _ q⟩
theorem pi_I : PI X tg iter (tI Z X tg iter) := ⟨fun pins s σ H Rr I ⟨env, F, O, P, b, o, w, q⟩ =>
  thn (w pins s σ H F O I b o) fun v s1 h => thn h (PIE.imp fun J H1 ⟨F1, O1, ds, e1, b1, o1, fr, g, p⟩ => q J H1 F1 O1 ds e1 b1 o1 fr g p)⟩
theorem wi_of {wi : TI} {P : List D → Env → Prop} (h : PI X tg iter wi) (w : ∀ σ H F O, Bas Z F H O → OwE F H O σ env → wi σ H fun J H1 => ∃ F1 O1 ds e1, Bas Z F1 H1 O1 ∧ OwE F1 H1 O1 σ e1 ∧ Frm Tq H F O H1 F1 O1 ∧ Gives J ds F1 ∧ P ds e1) : WI Z X tg iter env P :=
  fun pins s σ H F O I b o => h.run pins s σ H _ I (w σ H F O b o)
theorem gives_list {K : PySem.W.Frag} {a : Addr} {xs : List V} {ds : List D} {F : Hp} (h : F a = some (.lst xs)) (r : RpA F xs ds) : Gives (Itl K a) ds F := fun F' H' s1 s2 i => by
  have hq : SqL K H' a xs := SqL.of (s2 _ _ (s1 _ _ h))
  refine ⟨fun d hd => ?_, fun hn => ?_⟩
  · obtain ⟨v, hv, rv⟩ := r.get' hd
    refine ⟨⟨xs, v, hq, hv⟩, fun x H'' ⟨e, q⟩ => ?_⟩
    subst e
    have := (q xs hq).symm.trans hv
    cases this
    exact ⟨F', rv.mono s1, Same.refl _, Same.refl _, s2, fun _ z => .inl z⟩
  · exact ⟨xs, hq, by rw [r.len]; exact List.getElem?_eq_none_iff.mp hn⟩
theorem gives_tup {K : PySem.W.Frag} {a : Addr} {xs : List V} {ds : List D} {F : Hp} (h : Rd F a (.tup xs)) (r : RpA F xs ds) : Gives (Itt K a) ds F := fun F' H' s1 s2 i => by
  have hq : SqT K H' a xs := .inl (rd_mono s2 (rd_mono s1 h))
  refine ⟨fun d hd => ?_, fun hn => ?_⟩
  · obtain ⟨v, hv, rv⟩ := r.get' hd
    refine ⟨⟨xs, v, hq, hv⟩, fun x H'' ⟨e, q⟩ => ?_⟩
    subst e
    have := (q xs hq).symm.trans hv
    cases this
    exact ⟨F', rv.mono s1, Same.refl _, Same.refl _, s2, fun _ z => .inl z⟩
  · exact ⟨xs, hq, by rw [r.len]; exact List.getElem?_eq_none_iff.mp hn⟩
def tupOf (ds : List D) (k : List D → Prop) : Prop := match ds with
  | [.tuple xs] => k xs
  | _ => False
def lstOf (ds : List D) (k : List D → Prop) : Prop := match ds with
  | [.list xs] => k xs
  | _ => False
/-- for x in a tuple -/
theorem wi_tup {P : List D → Env → Prop} (h : WA Z X iter env fun a e1 => absorb [a] e1 fun ds e2 => tupOf ds fun xs => P xs e2) : WI Z X tg iter env P :=
  wi_of (pi_tup (pe_A (Z := Z))) fun σ H F O b o => ⟨env, F, O, _, b, o, h, fun v H1 ⟨F1, O1, a, e1, b1, o1, st, fr, p⟩ => by
    obtain ⟨F2, O2, ds, e2, b2, o2, r2, fr2, q⟩ := absorb_ok (.cons st .nil) b1 o1 p
    cases r2 with
    | cons r rr =>
      cases rr
      unfold tupOf at q
      split at q
      · rename_i xs e
        cases e
        cases r with
        | tup h1 r1 => exact ⟨_, rfl, ⟨_, .inl (rd_mono b2.sub h1)⟩, F2, O2, xs, e2, b2, o2, fr.trans fr2, gives_tup h1 r1, q⟩
      · exact q.elim⟩
/-- for x in a list -/
theorem wi_list {P : List D → Env → Prop} (h : WA Z X iter env fun a e1 => absorb [a] e1 fun ds e2 => lstOf ds fun xs => P xs e2) : WI Z X tg iter env P :=
  wi_of (pi_list (pe_A (Z := Z))) fun σ H F O b o => ⟨env, F, O, _, b, o, h, fun v H1 ⟨F1, O1, a, e1, b1, o1, st, fr, p⟩ => by
    obtain ⟨F2, O2, ds, e2, b2, o2, r2, fr2, q⟩ := absorb_ok (.cons st .nil) b1 o1 p
    cases r2 with
    | cons r rr =>
      cases rr
      unfold lstOf at q
      split at q
      · rename_i xs e
        cases e
        cases r with
        | lst h1 r1 => exact ⟨_, rfl, ⟨_, SqL.of (b2.sub _ _ h1)⟩, F2, O2, xs, e2, b2, o2, fr.trans fr2, gives_list h1 r1, q⟩
      · exact q.elim⟩
/-- range -/
def rangeD (lo : Int) (n : Nat) : List D := (List.range n).map fun (k : Nat) => PyData.int (lo + (k : Int))
theorem gives_range {lo : Int} {n : Nat} {F : Hp} : Gives (Itr lo n) (rangeD lo n) F := fun F' H' s1 s2 i => by
  refine ⟨fun d hd => ?_, fun hn => ?_⟩
  · unfold rangeD at hd
    rw [List.getElem?_map] at hd
    by_cases hi : i < n
    · rw [List.getElem?_range hi] at hd
      cases hd
      refine ⟨hi, fun x H'' ⟨e, q⟩ => ?_⟩
      subst e q
      exact ⟨F', .int _, Same.refl _, Same.refl _, s2, fun _ z => .inl z⟩
    · rw [List.getElem?_eq_none (by simpa using hi)] at hd
      cases hd
  · unfold rangeD at hn
    rw [List.getElem?_eq_none_iff, List.length_map, List.length_range] at hn
    exact hn
/-- several arguments, as they are seen at the end -/
def Views (as : List A) (env : Env) (k : List D → Prop) : Prop := match as with
  | [] => k []
  | a :: as => View a env fun d => Views as env fun ds => k (d :: ds)
inductive Vws (F H : Hp) : List V → List D → Prop
  | nil : Vws F H [] []
  | cons {v : V} {vs : List V} {d : D} {ds : List D} : Vw F H v d → Vws F H vs ds → Vws F H (v :: vs) (d :: ds)
theorem Views.vws {σ : L2.St} {F H : Hp} {O : List Addr} (o : OwE F H O σ env) : ∀ {as : List A} {vs : List V} {k : List D → Prop}, StAs F vs as → Views as env k → ∃ ds, Vws F H vs ds ∧ k ds
  | [], _, k, .nil, h => ⟨[], .nil, h⟩
  | a :: as, _, k, .cons st r, h => by
    obtain ⟨d, w, h⟩ := View.vw h o st
    obtain ⟨ds, ws, h⟩ := Views.vws o r h
    exact ⟨d :: ds, .cons w ws, h⟩
def rng1 (ds : List D) (k : List D → Prop) : Prop := match ds with
  | [.int j] => (-4611686018427387904 ≤ j ∧ j < 4611686018427387904) ∧ k (rangeD 0 j.toNat)
  | _ => False
theorem wi_range1 {P : List D → Env → Prop} {p : Pos} (hm : X.mg "range" = none) (h : WAs Z X [a] env fun as e1 => Views as e1 fun ds => rng1 ds fun xs => P xs e1) (hg : Gl X "range" := by rfl) : WI Z X tg (.Call (.Name "range" p) [a] [] pos) env P :=
  wi_of (pi_range1 hg hm (pa_As (Z := Z)) h.1) fun σ H F O b o => ⟨env, F, O, _, b, o, h, fun vs H1 ⟨F1, O1, as, e1, b1, o1, st, fr, p⟩ => by
    obtain ⟨ds, ws, q⟩ := Views.vws o1 st p
    unfold rng1 at q
    split at q
    · cases ws with
      | cons w ws =>
        cases ws
        cases w.int
        exact ⟨_, rfl, q.1.1, q.1.2, F1, O1, _, e1, b1, o1, fr, gives_range, q.2⟩
    · exact q.elim⟩
def rng2 (ds : List D) (k : List D → Prop) : Prop := match ds with
  | [.int i, .int j] => (-4611686018427387904 ≤ i ∧ i < 4611686018427387904 ∧ -4611686018427387904 ≤ j ∧ j < 4611686018427387904) ∧ k (rangeD i (j - i).toNat)
  | _ => False
theorem wi_range2 {P : List D → Env → Prop} {p : Pos} (hm : X.mg "range" = none) (h : WAs Z X [a, b] env fun as e1 => Views as e1 fun ds => rng2 ds fun xs => P xs e1) (hg : Gl X "range" := by rfl) (hs : starEach [a, b] X.env = [(false, eval a X.env), (false, eval b X.env)] := by rfl) (hs2 : starEach [b] X.env = [(false, eval b X.env)] := by rfl) : WI Z X tg (.Call (.Name "range" p) [a, b] [] pos) env P :=
  wi_of (pi_range2 hg hm (pa_As (Z := Z)) hs hs2) fun σ H F O b o => ⟨env, F, O, _, b, o, h, fun vs H1 ⟨F1, O1, as, e1, b1, o1, st, fr, p⟩ => by
    obtain ⟨ds, ws, q⟩ := Views.vws o1 st p
    unfold rng2 at q
    split at q
    · cases ws with
      | cons w ws =>
        cases ws with
        | cons w' ws =>
          cases ws
          cases w.int
          cases w'.int
          exact ⟨_, _, rfl, q.1, F1, O1, _, e1, b1, o1, fr, gives_range, q.2⟩
    · exact q.elim⟩

/-! ### for -/
def ForI {Tq : List (Addr × Str)} (Z : Zb Tq) (X : Cx) (f : TF) (body : List Stmt) (P : Out → Prop) (ds : List D) (e1 : Env) : Prop :=
  ∃ I : Nat → Env → Prop, I 0 e1 ∧ (∀ k d e, ds[k]? = some d → I k e → f d e fun e' => WSs Z X body e' (loopP P (I (k + 1)))) ∧ ∀ e, I ds.length e → P (.nx e)
theorem ws_for {g : TG} {f : TF} {ix : List Nat} (hp : PassesOwn (model X.prog X.w) X.A X.env X.xe) (hc : X.calm = true) (hg : PG X tg g) (gk : GOk Z g f ix) (h : WI Z X tg iter env (ForI Z X f body P)) (hs : ∀ x, foldedSetIterable iter X.env x = pure x := by intro _; rfl) :
    WS Z X (.For tg iter body [] pos) env P :=
  ws_of (ps_for hp hc (pi_I (Z := Z)) hg (pss_S (Z := Z)) hs) fun σ0 H0 F0 O0 b0 o0 => ⟨env, F0, O0, _, b0, o0, h, fun J H1 F1 O1 ds e1 b1 o1 fr1 gv ⟨I, i0, step, done⟩ => by
    refine ⟨fun i m σ H => m = ds.length - i ∧ i ≤ ds.length ∧ ∃ F O e, Bas Z F H O ∧ OwE F H O σ e ∧ Frm Tq H1 F1 O1 H F O ∧ I i e, ⟨_, rfl, Nat.zero_le _, F1, O1, e1, b1, o1, Frm.refl _ _ _, i0⟩, ?_⟩
    rintro i m σ H ⟨rfl, hi, F, O, e, b, o, fr, hI⟩
    obtain ⟨g1, g2⟩ := gv F H fr.fz b.sub i
    by_cases hlt : i < ds.length
    · obtain ⟨go, yl⟩ := g1 ds[i] (List.getElem?_eq_getElem hlt)
      refine .inr ⟨go, fun σ' H' => ∃ F O e, Bas Z F H' O ∧ OwE F H' O σ' e ∧ Frm Tq H1 F1 O1 H' F O ∧ I (i + 1) e, fun σ' H' q => ⟨ds.length - (i + 1), by omega, rfl, hlt, q⟩, fun x H' y => ?_⟩
      obtain ⟨F', rx, s1, s2, s3, nf⟩ := yl x H' y
      obtain ⟨b2, o2, fr2⟩ := b.grow o s1 s2 s3 nf
      refine gk x _ σ H' F' O e _ _ b2 o2 rx (step i _ e (List.getElem?_eq_getElem hlt) hI) fun σ3 O3 e3 b3 o3 s3 _ h3 => ?_
      have fr3 : Frm Tq H1 F1 O1 H' F' O3 := (fr.trans fr2).perm (fun _ => Iff.rfl) s3
      refine ⟨e3, F', O3, _, b3, o3, h3, loop_le (fr1.trans fr3) ?_⟩
      exact fun σ4 H4 F4 O4 e4 b4 o4 f4 q => ⟨F4, O4, e4, b4, o4, fr3.trans f4, q⟩
    · have e' : i = ds.length := by omega
      subst e'
      exact .inl ⟨g2 (List.getElem?_eq_none (Nat.le_refl _)), F, O, e, b, o, fr1.trans fr, done e hI⟩⟩

/-! ### comprehensions -/
/-- the contexts in which a comprehension's block may run -/
abbrev Blk (X : Cx) (scope : Scope) (k : Cx → Prop) : Prop := ∀ (s : Shared) (H : Hp) (C : Addr) (cl : List (Str × Addr)) (fp : List Addr), k (X.blk s H scope (compEnvC scope cl C X.env) fp)
def tAB {Tq : List (Addr × Str)} (Z : Zb Tq) (X : Cx) (scope : Scope) (e : Expr) : TE := fun σ H Q => ∃ env F O P, Bas Z F H O ∧ OwE F H O σ env ∧ (Blk X scope fun X' => WA Z X' e env P) ∧ ∀ v H', PostA Z σ H F O P v H' → Q v H'
def tTB {Tq : List (Addr × Str)} (Z : Zb Tq) (X : Cx) (scope : Scope) (e : Expr) : TT := fun σ H Q => ∃ env F O P, Bas Z F H O ∧ OwE F H O σ env ∧ (Blk X scope fun X' => WT Z X' e env P) ∧ ∀ v H', PostT Z σ H F O P v H' → Q v H'
theorem pe_AB {scope : Scope} (s : Shared) (H : Hp) (C : Addr) (cl : List (Str × Addr)) (fp : List Addr) : PE (X.blk s H scope (compEnvC scope cl C X.env) fp) elt (tAB Z X scope elt) :=
  ⟨fun pins s' σ H' Q I ⟨env, F, O, P, b, o, w, q⟩ => thn ((w s H C cl fp).run I b o) (EP.imp q)⟩
theorem pt_TB {scope : Scope} (s : Shared) (H : Hp) (C : Addr) (cl : List (Str × Addr)) (fp : List Addr) : PT (X.blk s H scope (compEnvC scope cl C X.env) fp) c (tTB Z X scope c) :=
  ⟨fun pins s' σ H' Q I ⟨env, F, O, P, b, o, w, q⟩ => thn (w s H C cl fp pins s' σ H' F O I b o) fun _ _ ⟨H2, I2, p⟩ => ⟨H2, I2, q _ _ p⟩⟩
/-- one turn's element -/
def ElI {Tq : List (Addr × Str)} (Z : Zb Tq) (X : Cx) (scope : Scope) (elt : Expr) (vs : List Nat) (I : List D → Env → Prop) (acc : List D) (e2 : Env) : Prop :=
  Blk X scope fun X' => WA Z X' elt e2 fun a e3 => absorb [a] e3 fun ds e4 => match ds with
    | [y] => acc.length < sizeLine ∧ I (acc ++ [y]) (wipeE e4 vs)
    | _ => False
structure LcI {Tq : List (Addr × Str)} (Z : Zb Tq) (X : Cx) (scope : Scope) (f : TF) (elt : Expr) (vs : List Nat) (T : Env → (Bool → Env → Prop) → Prop) (P : R → Env → Prop) (ds : List D) (e1 : Env) : Prop where
  ex : ∃ I : Nat → List D → Env → Prop, I 0 [] (wipeE e1 vs) ∧ (∀ k d acc e, ds[k]? = some d → I k acc e → f d e fun e' => T e' fun bb e2 => (bb = true → ElI Z X scope elt vs (I (k + 1)) acc e2) ∧ (bb = false → I (k + 1) acc (wipeE e2 vs))) ∧
    ∀ acc e, I ds.length acc e → ∀ p, P (.t (.lst p acc)) e
theorem lc_read {g : TG} {f : TF} {ix : List Nat} {scope : Scope} {vs : List Nat} {tt : TT} {T : Env → (Bool → Env → Prop) → Prop} (gk : GOk Z g f ix) (hix : ∀ i ∈ ix, i ∈ vs)
    (tk : ∀ σ H F O env k (Q : Bool → Hp → Prop), Bas Z F H O → OwE F H O σ env → T env k → (∀ bb H' F' O' e', Bas Z F' H' O' → OwE F' H' O' σ e' → Frm Tq H F O H' F' O' → k bb e' → Q bb H') → tt σ H Q)
    {σ0 : L2.St} {H0 F0 : Hp} {O0 : List Addr} (b0 : Bas Z F0 H0 O0) (o0 : OwE F0 H0 O0 σ0 env) (h : WI Z X tg iter env (LcI Z X scope f elt vs T PR)) :
    tLc (tI Z X tg iter) g tt (tAB Z X scope elt) vs σ0 H0 (Post Z σ0 H0 F0 O0 PR) := by
  refine ⟨env, F0, O0, _, b0, o0, h, fun J H1 F1 O1 ds e1 b1 o1 fr1 gv ⟨I, i0, step, done⟩ D hD => ?_⟩
  have fD : F1 D = none := b1.sub.free hD
  refine ⟨fun i m H => m = ds.length - i ∧ i ≤ ds.length ∧ ∃ F O e e0 acc accV, Bas Z F H (O ++ [D]) ∧ OwE F H O (wipe σ0 vs) e ∧ e = wipeE e0 vs ∧ H D = some (.lst accV) ∧ RpA F accV acc ∧ Frm Tq H1 F1 O1 H F (O ++ [D]) ∧ I i acc e, ⟨_, rfl, Nat.zero_le _, ?_⟩, ?_⟩
  · -- the start
    obtain ⟨O2, Od, h2, h3⟩ := o1.wipeO vs
    have hn : ∀ a ∈ O1, a ≠ D := fun a ha z => by subst z; exact o1.there a ha hD
    have fr : Frm Tq H1 F1 O1 (upd H1 D (.lst [])) F1 (O2 ++ [D]) := ⟨Same.refl _, fun a o e _ _ => same_new hD a o e, fun a e => by
      by_cases z : a = D
      · subst z; rw [upd_same]; exact fun z => nomatch z
      · rw [upd_ne z]; exact e, fun a e => .inl e, fun a ha => (List.mem_append.mp ha).elim (fun z => .inl (h3.mem_iff.mpr (List.mem_append_left _ z))) fun z => .inr (by rw [List.mem_singleton.mp z]; exact hD), tab_new hD⟩
    have b2 := (b1.dropP h3).1
    refine ⟨F1, O2, wipeE e1 vs, e1, [], [], ⟨b1.sub.trans (same_new hD), List.nodup_append.mpr ⟨b2.nd, List.nodup_cons.mpr ⟨fun z => (nomatch z), List.nodup_nil⟩, fun a ha c hc z => ?_⟩, fun a ha => ?_, b1.abs.trans fr⟩, ?_, rfl, upd_same, .nil, fr, i0⟩
    · rw [List.mem_singleton.mp hc] at z
      exact hn a (h3.mem_iff.mpr (List.mem_append_left _ ha)) z
    · rcases List.mem_append.mp ha with ha | ha
      · exact b2.dis a ha
      · rw [List.mem_singleton.mp ha]; exact fD
    · have o3 : OwE F1 (upd H1 D (.lst [])) O2 σ0 (wipeE e1 vs) := h2.stay (Same.refl _) fun a ha => upd_ne (hn a (h3.mem_iff.mpr (List.mem_append_left _ ha)))
      exact o3.wiped wipe_wipe
  · rintro i m H ⟨rfl, hi, F, O, e, e0, acc, accV, b, o, he0, hDl, rA, fr, hI⟩
    obtain ⟨g1, g2⟩ := gv F H fr.fz b.sub i
    by_cases hlt : i < ds.length
    · obtain ⟨go, yl⟩ := g1 ds[i] (List.getElem?_eq_getElem hlt)
      refine .inr ⟨go, fun H' => ∃ F O e e0 acc accV, Bas Z F H' (O ++ [D]) ∧ OwE F H' O (wipe σ0 vs) e ∧ e = wipeE e0 vs ∧ H' D = some (.lst accV) ∧ RpA F accV acc ∧ Frm Tq H1 F1 O1 H' F (O ++ [D]) ∧ I (i + 1) acc e, fun H' q => ⟨ds.length - (i + 1), by omega, rfl, hlt, q⟩, fun x H' y => ?_⟩
      obtain ⟨F', rx, s1, s2, s3, nf⟩ := yl x H' y
      have dD : ∀ a ∈ [D], Held H a := fun a ha => by rw [List.mem_singleton.mp ha]; exact ⟨_, hDl, fun _ z => nomatch z⟩
      have bL := b.left
      obtain ⟨b2, o2, fr2⟩ := bL.grow o s1 s2 s3 nf
      have b2D : Bas Z F' H' (O ++ [D]) := Bas.frame fr2 b b2 dD
      refine gk x _ (wipe σ0 vs) H' F' O e _ _ b2 o2 rx (step i _ acc e (List.getElem?_eq_getElem hlt) hI) fun σ3 O3 e3 b3 o3 s3' w3 h3 => ?_
      have hw : wipe σ3 vs = wipe (wipe σ0 vs) vs := w3 vs hix
      rw [wipe_wipe] at hw
      refine ⟨hw, ?_⟩
      have hD3 : H' D = some (.lst accV) := s2 _ _ hDl
      have dD3 : ∀ a ∈ [D], Held H' a := fun a ha => by rw [List.mem_singleton.mp ha]; exact ⟨_, hD3, fun _ z => nomatch z⟩
      have fr23 : Frm Tq H F O H' F' O3 := fr2.perm (fun _ => Iff.rfl) s3'
      have b3D : Bas Z F' H' (O3 ++ [D]) := Bas.frame fr23 b b3 dD
      have frD : Frm Tq H1 F1 O1 H' F' (O3 ++ [D]) := fr.trans fr23.frame
      refine tk σ3 H' F' O3 e3 _ _ b3 o3 h3 fun bb H4 F4 O4 e4 b4 o4 fr4 h4 => ?_
      have hD4 : H4 D = some (.lst accV) := fr4.out D _ hD3 (fun _ z => nomatch z) fun z => (List.nodup_append.mp b3D.nd).2.2 D z D (List.mem_singleton.mpr rfl) rfl
      have b4D : Bas Z F4 H4 (O4 ++ [D]) := Bas.frame fr4 b3D b4 dD3
      have frD4 : Frm Tq H1 F1 O1 H4 F4 (O4 ++ [D]) := frD.trans fr4.frame
      have dD4 : ∀ a ∈ [D], Held H4 a := fun a ha => by rw [List.mem_singleton.mp ha]; exact ⟨_, hD4, fun _ z => nomatch z⟩
      -- a turn's end
      have fin : ∀ {H5 F5 : Hp} {O5 : List Addr} {e5 : Env} {acc5 : List PyData} {accV5 : List V}, Bas Z F5 H5 (O5 ++ [D]) → OwE F5 H5 O5 σ3 e5 → H5 D = some (.lst accV5) → RpA F5 accV5 acc5 → Frm Tq H1 F1 O1 H5 F5 (O5 ++ [D]) → I (i + 1) acc5 (wipeE e5 vs) →
          ∃ F O e e0 acc accV, Bas Z F H5 (O ++ [D]) ∧ OwE F H5 O (wipe σ0 vs) e ∧ e = wipeE e0 vs ∧ H5 D = some (.lst accV) ∧ RpA F accV acc ∧ Frm Tq H1 F1 O1 H5 F (O ++ [D]) ∧ I (i + 1) acc e := fun {H5 F5 O5 e5 acc5 accV5} b5 o5 hD5 r5 fr5 hI5 => by
        obtain ⟨O6, Od6, h6, p6⟩ := o5.wipeO vs
        have p6' : (O5 ++ [D]).Perm ((O6 ++ [D]) ++ Od6) := (p6.append_right [D]).trans (by
          rw [List.append_assoc, List.append_assoc]
          exact List.perm_append_comm.append_left O6)
        refine ⟨F5, O6, wipeE e5 vs, e5, acc5, accV5, (b5.perm p6').left, h6.wiped ?_, rfl, hD5, r5, fr5.perm (fun _ => Iff.rfl) fun c hc => p6'.mem_iff.mpr (List.mem_append_left _ hc), hI5⟩
        rw [wipe_wipe]
        exact hw.symm
      cases bb with
      | false => exact iteF (fin b4D o4 hD4 (rA.mono (s1.trans fr4.fz)) frD4 (h4.2 rfl))
      | true =>
        refine iteT ⟨e4, F4, O4, _, b4, o4, h4.1 rfl, fun y H5 ⟨F5, O5, a5, e5, b5, o5, st5, fr5, p5⟩ => ?_⟩
        obtain ⟨F6, O6, ds6, e6, b6, o6, r6, fr6, q6⟩ := absorb_ok (.cons st5 .nil) b5 o5 p5
        have fr56 := fr5.trans fr6
        cases r6 with
        | cons r7 rr =>
          cases rr
          obtain ⟨hz, q7⟩ := q6
          have hD5 : H5 D = some (.lst accV) := fr5.out D _ hD4 (fun _ z => nomatch z) fun z => (List.nodup_append.mp b4D.nd).2.2 D z D (List.mem_singleton.mpr rfl) rfl
          have b6D : Bas Z F6 H5 (O6 ++ [D]) := Bas.frame fr56 b4D b6 dD4
          have frD6 : Frm Tq H1 F1 O1 H5 F6 (O6 ++ [D]) := frD4.trans fr56.frame
          have nD : ∀ a ∈ O6, a ≠ D := fun a ha z => (List.nodup_append.mp b6D.nd).2.2 a ha D (List.mem_singleton.mpr rfl) z
          have fD6 : F6 D = none := b6D.dis D (List.mem_append_right _ (List.mem_singleton.mpr rfl))
          have rA6 : RpA F6 accV acc := rA.mono (s1.trans (fr4.fz.trans fr56.fz))
          refine ⟨accV, hD5, by rw [rA6.len]; exact hz, ?_⟩
          have hs : Same F6 (upd H5 D (.lst (accV ++ [y]))) := fun a x ha => by
            have z : a ≠ D := fun z => by subst z; rw [fD6] at ha; cases ha
            rw [upd_ne z]; exact b6D.sub a x ha
          have fr7 : Frm Tq H5 F6 (O6 ++ [D]) (upd H5 D (.lst (accV ++ [y]))) F6 (O6 ++ [D]) := ⟨Same.refl _, fun a x ha _ hn => by
            rw [upd_ne fun z => hn (by rw [z]; exact List.mem_append_right _ (List.mem_singleton.mpr rfl))]; exact ha, fun a ha => by
            by_cases z : a = D
            · subst z; rw [upd_same]; exact fun z => nomatch z
            · rw [upd_ne z]; exact ha, fun a ha => .inl ha, fun a ha => .inl ha, tab_upd fun o e => by rw [hD5] at e; cases e; exact ⟨(fun _ z => nomatch z), (fun _ z => nomatch z)⟩⟩
          exact fin ⟨hs, b6D.nd, b6D.dis, b6D.abs.trans fr7⟩ (o6.stay (Same.refl _) fun a ha => upd_ne (nD a ha)) upd_same (rA6.app (.cons r7 .nil)) (frD6.trans fr7) q7
    · have e' : i = ds.length := by omega
      subst e'
      refine .inl ⟨g2 (List.getElem?_eq_none (Nat.le_refl _)), F, O ++ [D], .t (.lst D acc), e, b, ⟨O, [D], rfl, ?_, .lst hDl rA⟩, fr1.trans fr, done acc e hI D⟩
      subst he0
      exact o.wiped wipe_wipe.symm
theorem w_lc {g : TG} {f : TF} {ix : List Nat} {scope : Scope} {own : List (Str × Nat)} (hc : X.calm = true) (hN : X.N.Nodup) (ok : BlkOk X.N X.env.scope scope own) (hg : Blk X scope fun X' => PG X' tg g) (gk : GOk Z g f ix) (hix : ∀ i ∈ ix, i ∈ own.map (·.2))
    (h : WI Z X tg iter env (LcI Z X scope f elt (own.map (·.2)) (fun e k => k true e) PR)) (hs : ∀ x, foldedSetIterable iter X.env x = pure x := by intro _; rfl) : WE Z X (.ListComp elt [⟨tg, iter, [], 0⟩] scope pos) env PR :=
  we_of (pe_lc (own := own) hc hN (pi_I (Z := Z)) ok hg (fun _ _ _ _ _ => pts_nil) (pe_AB (Z := Z)) hs) fun σ H F O b o => lc_read gk hix (fun σ H F O env k Q b o t q => q true H F O env b o (Frm.refl _ _ _) t) b o h
theorem w_lcIf {g : TG} {f : TF} {ix : List Nat} {scope : Scope} {own : List (Str × Nat)} (hc : X.calm = true) (hN : X.N.Nodup) (ok : BlkOk X.N X.env.scope scope own) (hg : Blk X scope fun X' => PG X' tg g) (gk : GOk Z g f ix) (hix : ∀ i ∈ ix, i ∈ own.map (·.2))
    (h : WI Z X tg iter env (LcI Z X scope f elt (own.map (·.2)) (fun e k => Blk X scope fun X' => WT Z X' c e k) PR)) (hs : ∀ x, foldedSetIterable iter X.env x = pure x := by intro _; rfl) : WE Z X (.ListComp elt [⟨tg, iter, [c], 0⟩] scope pos) env PR :=
  we_of (pe_lc (own := own) hc hN (pi_I (Z := Z)) ok hg (fun s H C cl fp => pts_one (pt_TB (Z := Z) s H C cl fp)) (pe_AB (Z := Z)) hs) fun σ H F O b o =>
    lc_read gk hix (fun σ H F O env k Q b o t q => ⟨env, F, O, k, b, o, t, fun v H' ⟨F1, O1, e1, b1, o1, fr1, p⟩ => q v H' F1 O1 e1 b1 o1 fr1 p⟩) b o h
end
end QL

/-! QF: what a def promises, over data; its body; its calls. -/
namespace QL
open PySem PySem.Spec PyProof.Rows L2

inductive StV (F H : Hp) : List Addr → List V → List T → Prop
  | nil : StV F H [] [] []
  | cons {O1 O2 : List Addr} {v : V} {t : T} {vs : List V} {ts : List T} : Ow F H O1 v t → StV F H O2 vs ts → StV F H (O1 ++ O2) (v :: vs) (t :: ts)
inductive StVO (F H : Hp) : List Addr → List V → List (Option T) → Prop
  | nil : StVO F H [] [] []
  | un {O2 : List Addr} {v : V} {vs : List V} {ts : List (Option T)} : StVO F H O2 vs ts → StVO F H O2 (v :: vs) (none :: ts)
  | cons {O1 O2 : List Addr} {v : V} {t : T} {vs : List V} {ts : List (Option T)} : Ow F H O1 v t → StVO F H O2 vs ts → StVO F H (O1 ++ O2) (v :: vs) (some t :: ts)
theorem StV.len {F H : Hp} : ∀ {O : List Addr} {vs : List V} {ts : List T}, StV F H O vs ts → vs.length = ts.length
  | _, _, _, .nil => rfl
  | _, _, _, .cons _ r => congrArg (· + 1) r.len

/-- an error: its class, its fields -/
structure Ex where
  C : Addr
  fs : List (Str × D)
inductive RpF (F : Hp) : List (Str × V) → List (Str × D) → Prop
  | nil : RpF F [] []
  | cons {n : Str} {v : V} {d : D} {vs : List (Str × V)} {ds : List (Str × D)} : Rp F v d → RpF F vs ds → RpF F ((n, v) :: vs) ((n, d) :: ds)
theorem RpF.mono {F F' : Hp} (s : Same F F') : ∀ {v : List (Str × V)} {d : List (Str × D)}, RpF F v d → RpF F' v d
  | _, _, .nil => .nil
  | _, _, .cons h r => .cons (h.mono s) (RpF.mono s r)
def ExAt (F : Hp) (ex : Ex) (cls : Value) (d : Option Addr) : Prop := cls = .ref ex.C ∧ ((d = none ∧ ex.fs = []) ∨ ∃ dd vfs, d = some dd ∧ F dd = some (.xd vfs) ∧ RpF F vfs ex.fs)

/-- what a def promises: its arguments; what is wanted of its answer and of what the arguments hold then; of an error -/
abbrev Spc := List T → (T → List (Option T) → Prop) → (Ex → List (Option T) → Prop) → Prop
structure FnG (P : Program) (w : World) (K : PySem.W.Frag) (mg : Str → Option Value) (base : Heap) (Tq : List (Addr × Str)) (k : Nat) (f : Addr) (fd : FuncData) (ps : List Str) (sp : Spc) : Prop where
  len : ∀ ts Q E, sp ts Q E → ts.length = ps.length
  run : ∀ (A : Around) (outer : List PySem.Env) (s : Shared) (H : Hp) (args : Args) (us : List Value) (vs : List V) (F : Hp) (O : List Addr) (ts : List T) (QT : T → List (Option T) → Prop) (ET : Ex → List (Option T) → Prop) (E : XK) (tbs : TabZ Tq H F O),
    Room k A → A.guards = some [] → Env0 P w K mg base A outer s H → BindsTo s fd args (ps.zip us) → Vals vs us → Bas ⟨H, F, O, tbs⟩ F H O → StV F H O vs ts → sp ts QT ET →
    (∀ ex ts' cls d H' F' O', Bas ⟨H, F, O, tbs⟩ F' H' O' → StVO F' H' O' vs ts' → ExAt F' ex cls d → ET ex ts' → E cls d H') →
    codeAny (model P w) A (.call (.ref f) args) (CR (L2.CX P w) outer P w H s (fun v H' => ∃ F' O1 O2 t ts', Bas ⟨H, F, O, tbs⟩ F' H' (O1 ++ O2) ∧ StVO F' H' O1 vs ts' ∧ Ow F' H' O2 v t ∧ QT t ts') E) s
theorem FnG.mono {P : Program} {w : World} {K : PySem.W.Frag} {mg : Str → Option Value} {base : Heap} {Tq : List (Addr × Str)} {j k : Nat} {f : Addr} {fd : FuncData} {ps : List Str} {sp : Spc} (G : FnG P w K mg base Tq j f fd ps sp) (h : j ≤ k) : FnG P w K mg base Tq k f fd ps sp :=
  ⟨G.len, fun A outer s H args us vs F O ts QT ET E tbs hr => G.run A outer s H args us vs F O ts QT ET E tbs (hr.mono h)⟩

/-! ### the arguments taken, and put back -/
def deref : List A → Env → (List T → Env → Prop) → Prop
  | [], env, k => k [] env
  | .va d :: as, env, k => deref as env fun ts e => k (.va d :: ts) e
  | .bor a i p :: as, env, k => match getP i p env with
    | some t => t.addr = some a ∧ deref as (setP i p (.hole a) env) fun ts e => k (t :: ts) e
    | none => False
def putb : List A → List (Option T) → Env → (Env → Prop) → Prop
  | [], _, env, k => k env
  | .va _ :: as, _ :: ts, env, k => putb as ts env k
  | .bor a i p :: as, some t :: ts, env, k => getP i p env = some (.hole a) ∧ t.addr = some a ∧ putb as ts (setP i p t env) k
  | _, _, _, _ => False
theorem deref_ok {σ : L2.St} {F H : Hp} : ∀ {as : List A} {vs : List V} {O : List Addr} {env : Env} {k : List T → Env → Prop}, StAs F vs as → OwE F H O σ env → deref as env k →
    ∃ ts e Oc Or, O.Perm (Oc ++ Or) ∧ StV F H Oc vs ts ∧ OwE F H Or σ e ∧ k ts e
  | [], _, O, env, k, .nil, o, h => ⟨[], env, [], O, List.Perm.refl _, .nil, o, h⟩
  | .va d :: as, _, O, env, k, .cons st r, o, h => by
    obtain ⟨ts, e, Oc, Or, p, s, o', q⟩ := deref_ok r o h
    exact ⟨.va d :: ts, e, [] ++ Oc, Or, p, .cons (.va st) s, o', q⟩
  | .bor a i p :: as, _, O, env, k, .cons st r, o, h => by
    unfold deref at h
    cases hg : getP i p env with
    | none => rw [hg] at h; exact h.elim
    | some t =>
      rw [hg] at h
      obtain ⟨w, ⟨Oj, O', h1, h2, h3⟩, _⟩ := o.focus hg
      have hw := h1.ref h.1
      have st : _ = V.ref a := st
      subst st hw
      obtain ⟨O'', q1, q2⟩ := h3 F H [] (.hole a) (Same.refl _) (fun _ _ => rfl) .hole
      obtain ⟨ts, e, Oc, Or, p', s, o', q⟩ := deref_ok r q1 h.2
      refine ⟨t :: ts, e, Oj ++ Oc, Or, ?_, .cons h1 s, o', q⟩
      rw [List.append_assoc]
      exact h2.trans ((q2.symm.trans p').append_left Oj)
theorem putb_ok {σ : L2.St} {F F0 H : Hp} : ∀ {as : List A} {vs : List V} {ts : List (Option T)} {Oc Or : List Addr} {env : Env} {k : Env → Prop}, StAs F0 vs as → StVO F H Oc vs ts → OwE F H Or σ env → putb as ts env k →
    ∃ e O3 Od, OwE F H O3 σ e ∧ (Oc ++ Or).Perm (O3 ++ Od) ∧ k e
  | [], _, _, _, Or, env, k, .nil, .nil, o, h => ⟨env, Or, [], o, by rw [List.append_nil]; exact List.Perm.refl _, h⟩
  | .va d :: as, _, _, _, Or, env, k, .cons _ r, .un s, o, h => by
    obtain ⟨e, O3, Od, o', p, q⟩ := putb_ok r s o h
    exact ⟨e, O3, Od, o', p, q⟩
  | .va d :: as, _, _, _, Or, env, k, .cons _ r, .cons (O1 := O1) (O2 := O2) _ s, o, h => by
    obtain ⟨e, O3, Od, o', p, q⟩ := putb_ok r s o h
    refine ⟨e, O3, O1 ++ Od, o', ?_, q⟩
    rw [List.append_assoc, ← List.append_assoc O3]
    exact (p.append_left O1).trans (by rw [← List.append_assoc]; exact List.perm_append_comm.append_right Od)
  | .bor a i p :: as, _, _, _, Or, env, k, .cons st r, .un s, o, h => h.elim
  | .bor a i p :: as, _, _, _, Or, env, k, .cons st r, .cons (O1 := O1) (O2 := O2) w s, o, h => by
    obtain ⟨hg, ha, h⟩ := h
    obtain ⟨w', ⟨Oj, O', h1, h2, h3⟩, _⟩ := o.focus hg
    have st : _ = V.ref a := st
    subst st
    cases h1
    obtain ⟨O'', q1, q2⟩ := h3 F H O1 _ (Same.refl _) (fun _ _ => rfl) w
    obtain ⟨e, O3, Od, o', p', q⟩ := putb_ok r s q1 h
    refine ⟨e, O3, Od, o', ?_, q⟩
    refine List.Perm.trans ?_ p'
    have e1 : (O2 ++ O'').Perm (O2 ++ (O1 ++ Or)) := (q2.trans (h2.symm.append_left O1 |>.trans (List.Perm.refl _))).append_left O2
    refine List.Perm.trans ?_ e1.symm
    rw [← List.append_assoc]
    exact List.perm_append_comm.append_right Or
def callD (sp : Spc) (as : List A) (env : Env) (PT : T → Env → Prop) (ET : Ex → Env → Prop) : Prop :=
  deref as env fun ts e2 => sp ts (fun t ts' => putb as ts' e2 fun e3 => PT t e3) (fun ex ts' => putb as ts' e2 fun e3 => ET ex e3)
/-- what is wanted of an error, with the slots -/
def wxOf {Tq : List (Addr × Str)} (Z : Zb Tq) (ET : Ex → Env → Prop) : WX := fun cls d σ H => ∃ F O env ex, Bas Z F H O ∧ OwE F H O σ env ∧ ExAt F ex cls d ∧ ET ex env

section
variable {Tq : List (Addr × Str)} {Z : Zb Tq} {X : Cx} {env : Env} {P : R → Env → Prop} {ET : Ex → Env → Prop}
theorem call_g {k : Nat} {f : Addr} {fd : FuncData} {ps : List Str} {sp : Spc} {as : List A} {vs : List V} {us us0 : List Value} {kw : List (Str × Value)} {pins : List (Addr × Obj)} {s : Shared} {σ : L2.St} {H F : Hp} {O : List Addr}
    (G : FnG X.prog X.w X.K X.mg X.base Tq k f fd ps sp) (hr : Room k X.A) (hg : X.A.guards = some []) (tk : Takes X (wxOf Z ET)) (hb : BindsTo s fd ⟨us0, kw⟩ (ps.zip us)) (I : Inv X pins σ H s) (b : Bas Z F H O) (o : OwE F H O σ env)
    (st : StAs F vs as) (r : Vals vs us) (h : callD sp as env (fun t e => P (.t t) e) ET) : wpAny (model X.prog X.w) X.A (call (.ref f) us0 kw) (EP X pins σ (Post Z σ H F O P)) X.xe s := by
  obtain ⟨ts, e2, Oc, Or, pm, sv, o2, h⟩ := deref_ok st o h
  have bc := (b.perm pm).left.entry
  have ex : ∀ c ∈ Or, Held H c := o2.held
  refine wpAny_call (codeAny_mono (G.run X.A X.stack s H ⟨us0, kw⟩ us vs F Oc ts _ _ (fun cls d H' => ∃ e ts' F' O', Bas ⟨H, F, Oc, (b.perm pm).left.tabs⟩ F' H' O' ∧ StVO F' H' O' vs ts' ∧ ExAt F' e cls d ∧ putb as ts' e2 fun e3 => ET e e3) (b.perm pm).left.tabs hr hg I.env0 hb r bc sv h
    fun e ts' cls d H' F' O' b' s' x' q => ⟨e, ts', F', O', b', s', x', q⟩) fun rs s' hq => ?_)
  have back : ∀ {F' H' : Hp} {O1 O2 : List Addr} {ts' : List (Option T)} {kk : Env → Prop}, Bas ⟨H, F, Oc, (b.perm pm).left.tabs⟩ F' H' (O1 ++ O2) → StVO F' H' O1 vs ts' → putb as ts' e2 kk →
      ∃ e3 O3, OwE F' H' O3 σ e3 ∧ Bas Z F' H' (O3 ++ O2) ∧ Frm Tq H F O H' F' (O3 ++ O2) ∧ kk e3 := fun {F' H' O1 O2 ts' kk} b' s' q => by
    have fr := b'.abs
    have b3 := Bas.frame fr (b.perm pm) b' ex
    have keep := fr.rest (R := Or) (pm.nodup b.nd) ex
    obtain ⟨e3, O3, Od, o3, p3, q3⟩ := putb_ok st s' (o2.stay fr.fz keep) q
    have p4 : ((O1 ++ O2) ++ Or).Perm ((O3 ++ O2) ++ Od) := by
      have e1 : ((O1 ++ O2) ++ Or).Perm ((O1 ++ Or) ++ O2) := by
        rw [List.append_assoc, List.append_assoc]
        exact List.perm_append_comm.append_left O1
      have e2 : ((O3 ++ O2) ++ Od).Perm ((O3 ++ Od) ++ O2) := by
        rw [List.append_assoc, List.append_assoc]
        exact List.perm_append_comm.append_left O3
      exact e1.trans ((p3.append_right O2).trans e2.symm)
    exact ⟨e3, O3, o3, (b3.perm p4).left, (fr.frame (R := Or)).perm (fun c => pm.symm.mem_iff) (fun c hc => p4.mem_iff.mpr (List.mem_append_left _ hc)), q3⟩
  cases rs with
  | error e =>
    refine tk e s' (XE.of_call I (fun cls d H' hE => ?_) hq)
    obtain ⟨x, ts', F', O', b', sv', xa, q⟩ := hE
    obtain ⟨e3, O3, o3, b3, fr3, q3⟩ := back (O2 := []) (by rw [List.append_nil]; exact b') sv' q
    rw [List.append_nil] at b3 fr3
    exact ⟨F', O3, e3, x, b3, o3, xa, q3⟩
  | ok fl =>
    cases fl with
    | ret u =>
      refine EP.imp (fun v H' q => ?_) u s' (I.after hq)
      obtain ⟨F', O1, O2, t, ts', b', sv', w', q⟩ := q
      obtain ⟨e3, O3, o3, b3, fr3, q3⟩ := back b' sv' q
      exact ⟨F', O3 ++ O2, .t t, e3, b3, ⟨O3, O2, rfl, o3, w'⟩, fr3, q3⟩
    | next => exact hq.elim
    | brk => exact hq.elim
    | cont => exact hq.elim

/-! ### f(a, ..), f(a, .., k = b, ..) -/
/-- the parameters in their order, from what is written by place (us) and by name (ws, names ks): g and its twins over data -/
structure KwB (K : PySem.W.Frag) (fd : FuncData) (ps ks : List Str) (n m : Nat) (g : {α : Type} → List α → List α → (List α)) (ds : List Value) (dds : List D) : Prop where
  to : ∀ (s : Shared) (us ws : List Value), K.In s.heap → us.length = n → ws.length = m → BindsTo s fd ⟨us, ks.zip ws⟩ (ps.zip (g us ws ++ ds))
variable {x : Str} {p pos : Pos} {e : Expr} {es : List Expr}
def vaAll (ds : List D) : List A := ds.map A.va
theorem w_call {k : Nat} {f : Addr} {fd : FuncData} {ps : List Str} {sp : Spc} {ds : List Value} {vds : List V} {dds : List D} (G : FnG X.prog X.w X.K X.mg X.base Tq k f fd ps sp) (hr : Room k X.A) (hgd : X.A.guards = some []) (tk : Takes X (wxOf Z ET))
    (hm : X.mg x = some (.ref f)) (hk : PySem.W.keepIn X.K (.ref f) = true) (hb : Binds X.K fd ps ds) (hd : Vals vds ds) (hdd : ∀ F : Hp, StAs F vds (vaAll dds)) (h : WAs Z X (e :: es) env fun as e1 => callD sp (as ++ vaAll dds) e1 (fun t e => P (.t t) e) ET)
    (hg : Gl X x := by rfl) (hdb : (x == ("__debug__" : Str)) = false := by decide) (he : starEach (e :: es) X.env = (false, eval e X.env) :: starEach es X.env := by rfl) (hpl : (backTo pos (starEach es X.env)).any (·.1) = false := by rfl) :
    WE Z X (.Call (.Name x p) (e :: es) [] pos) env P := fun pins s σ H F O I b o => by
  refine wpAny_Call_Name_kw (ld_glob I hg hm ?_ hdb)
  refine PySem.W.callWith_K (h₀ := X.base) I.ok.mod.kin hk (thn ((pa_As (Z := Z)).run pos pins s σ H (PostAs Z σ H F O _) I ⟨env, F, O, _, b, o, h, fun _ _ q => q⟩) fun us s1 ⟨vs, H1, I1, r, F1, O1, as, e1, b1, o1, st, fr, q⟩ => ⟨I1.kIn, ?_⟩) he hpl
  have sapp : ∀ {vs : List V} {as : List A}, StAs F1 vs as → StAs F1 (vs ++ vds) (as ++ vaAll dds) := fun {vs as} z => by
    induction z with
    | nil => exact hdd F1
    | cons a _ ih => exact .cons a ih
  have r2 : Vals (vs ++ vds) (us ++ ds) := r.append hd
  have hl : (us ++ ds).length = ps.length := by
    obtain ⟨ts, e2, Oc, Or, pm, sv, o2, hh⟩ := deref_ok (sapp st) o1 q
    rw [← r2.length, sv.len, G.len _ _ _ hh]
  exact thn (call_g (us0 := us) (kw := []) (us := us ++ ds) G hr hgd tk (hb s1 us I1.kIn hl) I1 b1 o1 (sapp st) r2 q) (EP.imp fun v H' q => q.from fr)
end

/-! ### a def's body -/
def startE (N : List Str) (ts : List T) : Env := ts.map some ++ List.replicate (N.length - ts.length) none
theorem StV.start {F H : Hp} {N : List Str} : ∀ {O : List Addr} {vs : List V} {ts : List T}, StV F H O vs ts → ∀ m, OwE F H O (vs.map some ++ List.replicate m none) (ts.map some ++ List.replicate m none)
  | _, _, _, .nil, m => by
    induction m with
    | zero => exact .nil
    | succ m ih => exact .un ih
  | _, _, _, .cons w r, m => .so w (r.start (N := N) m)
/-- what the parameters' slots hold at the end: what was handed in, as it is now -/
def back (ts : List T) (e : Env) (k : List (Option T) → Prop) : Prop := match ts, e with
  | t :: ts, u :: e => match t.addr with
    | none => back ts e fun r => k (none :: r)
    | some a => match u with
      | some u => u.addr = some a ∧ back ts e fun r => k (some u :: r)
      | none => False
  | _ :: _, [] => False
  | [], _ => k []
theorem back_ok {F F0 H0 H : Hp} : ∀ {O0 O : List Addr} {vs : List V} {ts : List T} {σ : L2.St} {e : Env} {k : List (Option T) → Prop}, StV F0 H0 O0 vs ts → OwE F H O σ e → back ts e k → ∃ O' Od ts', O.Perm (O' ++ Od) ∧ StVO F H O' vs ts' ∧ k ts'
  | _, O, _, _, _, _, k, .nil, o, h => ⟨[], O, [], List.Perm.refl _, .nil, by unfold back at h; exact h⟩
  | _, _, _, _, _, _, k, .cons w0 r0, .nil, h => h.elim
  | _, _, _, _, _, _, k, .cons (t := t0) w0 r0, .un r, h => by
    unfold back at h
    cases h0 : t0.addr with
    | none =>
      rw [h0] at h
      obtain ⟨O', Od, ts', p, s, q⟩ := back_ok r0 r h
      exact ⟨O', Od, _, p, .un s, q⟩
    | some a => rw [h0] at h; exact h.elim
  | _, _, _, _, _, _, k, .cons (t := t0) w0 r0, .so (O1 := O1) (t := t) w r, h => by
    unfold back at h
    cases h0 : t0.addr with
    | none =>
      rw [h0] at h
      obtain ⟨O', Od, ts', p, s, q⟩ := back_ok r0 r h
      refine ⟨O', O1 ++ Od, _, ?_, .un s, q⟩
      exact (p.append_left O1).trans (by rw [← List.append_assoc, ← List.append_assoc]; exact List.perm_append_comm.append_right Od)
    | some a =>
      rw [h0] at h
      obtain ⟨O', Od, ts', p, s, q⟩ := back_ok r0 r h.2
      have e1 := w0.ref h0
      have e2 := w.ref h.1
      subst e1 e2
      exact ⟨O1 ++ O', Od, _, by rw [List.append_assoc]; exact p.append_left O1, .cons w s, q⟩
def finP (QT : T → List (Option T) → Prop) (ts : List T) : Out → Prop
  | .ret t e => back ts e (QT t)
  | .nx e => back ts e (QT (.va .none))
  | _ => False
/-- the context of a def's body -/
abbrev BX (P : Program) (w : World) (K : PySem.W.Frag) (mg : Str → Option Value) (base : Heap) (N : List Str) (qual : Str) (st : Stmt) (f : Addr) (cdv : Value) (A : Around) (outer : List PySem.Env) (s : Shared) (H : Hp) (E : XK) : Cx :=
  cxOf (L2.CX P w) P w K mg base N qual (defScope st) f cdv A outer s H E
theorem fn_g {P : Program} {w : World} {K : PySem.W.Frag} {mg : Str → Option Value} {base : Heap} {Tq : List (Addr × Str)} {x qual : Str} {st : Stmt} {f : Addr} {fd : FuncData} {N ps : List Str} {k : Nat} {sp : Spc} (Fn : Fun K x qual st f fd) (S : FnScope N ps (defScope st)) (len : ∀ ts Q E, sp ts Q E → ts.length = ps.length)
    (hbody : ∀ (cdv : Value) (A : Around) (outer : List PySem.Env) (s : Shared) (H : Hp) (E : XK) (Z : Zb Tq) (ts : List T) (QT : T → List (Option T) → Prop) (ET : Ex → List (Option T) → Prop), Room k (BX P w K mg base N qual st f cdv A outer s H E).A → (BX P w K mg base N qual st f cdv A outer s H E).A.guards = some [] →
      PassesOwn (model P w) (BX P w K mg base N qual st f cdv A outer s H E).A (BX P w K mg base N qual st f cdv A outer s H E).env (BX P w K mg base N qual st f cdv A outer s H E).xe →
      Takes (BX P w K mg base N qual st f cdv A outer s H E) (wxOf Z fun ex e => back ts e (ET ex)) → sp ts QT ET → WSs Z (BX P w K mg base N qual st f cdv A outer s H E) (defBody st) (startE N ts) (finP QT ts)) : FnG P w K mg base Tq (k + 1) f fd ps sp := by
  obtain ⟨oc, od, kV, doc, pm, an, cdv, ct, osl, rfl, lk, hcd⟩ := Fn.ex
  refine ⟨len, fun A outer s H args us vs F O ts QT ET E tbs hr hg e0 hb r b sv hsp hE => ?_⟩
  have hl : vs.length = ps.length := sv.len.trans (len _ _ _ hsp)
  refine Att.call_fn (e0.mod.kin.keeps fun b o e => (e0.bs b o e).1) (e0.mod.nolimit.keeps fun b o e => (e0.bs b o e).1) lk hcd hr.depth hb ?_ (fun s1 ic => ?_) S.co S.gen S.kind
  · refine List.all_eq_true.mpr fun y hy => ?_
    rcases S.par y.1 (List.of_mem_zip hy).1 with q | q <;> rw [q] <;> rfl
  · have I : Inv (BX P w K mg base N qual st f cdv A outer s H E) [] (L2.start N vs) H s1 := inv_start S hr.hd e0 hl r ic
    have tk : Takes (BX P w K mg base N qual st f cdv A outer s H E) (wxOf ⟨H, F, O, tbs⟩ fun ex e => back ts e (ET ex)) := by
      refine (takes_of (X := BX P w K mg base N qual st f cdv A outer s H E) (E := E) rfl rfl rfl rfl).imp fun cls d σ H' ⟨F', O', env, ex, b', o', xa, q⟩ => ?_
      obtain ⟨O1, Od, ts', p1, s1, q⟩ := back_ok sv o' q
      exact hE ex _ cls d H' F' O1 (b'.perm p1).left s1 xa q
    have hgd : (BX P w K mg base N qual st f cdv A outer s H E).A.guards = some [] := hg
    have body := hbody cdv A outer s H E ⟨H, F, O, tbs⟩ ts QT ET (hr.deeper _) hgd (passes_of (X := BX P w K mg base N qual st f cdv A outer s H E) rfl) tk hsp
    have o0 : OwE F H O (L2.start N vs) (startE N ts) := by
      unfold L2.start startE
      rw [sv.len]
      exact sv.start (N := N) _
    refine wpAny_mono (body [] s1 (L2.start N vs) H F O I b o0) (fun fl s' hs => ?_) fun e s' hs => hs
    have fin : ∀ {σ' : L2.St} {H' F' : Hp} {O1 O2 : List Addr} {t : T} {e : Env} {v : V} {u : Value}, Inv (BX P w K mg base N qual st f cdv A outer s H E) [] σ' H' s' → RelV v u → Bas ⟨H, F, O, tbs⟩ F' H' (O1 ++ O2) → (∃ σ'', OwE F' H' O1 σ'' e) → Ow F' H' O2 v t → back ts e (QT t) →
        CE outer P w H s (fun v H' => ∃ F' O1 O2 t ts', Bas ⟨H, F, O, tbs⟩ F' H' (O1 ++ O2) ∧ StVO F' H' O1 vs ts' ∧ Ow F' H' O2 v t ∧ QT t ts') u s' := fun {σ' H' F' O1 O2 t e v u} J rv b' ⟨σ'', o'⟩ w' q => by
      obtain ⟨O3, Od, ts', p3, s3, q⟩ := back_ok sv o' q
      refine ⟨v, H', J.os, J.bare, J.base, J.hok, rv, F', O3, O2, t, _, ?_, s3, w', q⟩
      have p4 : (O1 ++ O2).Perm ((O3 ++ O2) ++ Od) := (p3.append_right O2).trans (by
        rw [List.append_assoc, List.append_assoc]
        exact List.perm_append_comm.append_left O3)
      exact (b'.perm p4).left
    cases fl with
    | ret u =>
      obtain ⟨v, σ', H', J, rv, F', O1, O2, σ'', t, e, b', o', w', _, q⟩ := hs
      exact fin J rv b' ⟨σ'', o'⟩ w' q
    | next =>
      obtain ⟨σ', H', J, F', O1, e, b', o', _, q⟩ := hs
      exact fin (v := V.non) (u := Value.none) (t := .va .none) (O2 := []) J rfl (by rw [List.append_nil]; exact b') ⟨_, o'⟩ (.va .non) q
    | brk =>
      obtain ⟨_, _, _, _, _, _, _, _, _, q⟩ := hs
      exact q.elim
    | cont =>
      obtain ⟨_, _, _, _, _, _, _, _, _, q⟩ := hs
      exact q.elim
end QL

/-! QG: subscripts, slices, items stored, pairs stored, calls of built-ins. -/
namespace QL
open PySem PySem.Spec PyProof.Rows L2

theorem mutL {Tq : List (Addr × Str)} {Z : Zb Tq} {F H : Hp} {O : List Addr} {σ : L2.St} {env : Env} {i : Nat} {p : List Str} {a : Addr} {ds : List D} (b : Bas Z F H O) (o : OwE F H O σ env) (hg : getP i p env = some (.lst a ds)) :
    ∃ xs, H a = some (.lst xs) ∧ RpA F xs ds ∧ ∀ ys es, RpA F ys es → ∃ O', Bas Z F (upd H a (.lst ys)) O' ∧ OwE F (upd H a (.lst ys)) O' σ (setP i p (.lst a es) env) ∧ Frm Tq H F O (upd H a (.lst ys)) F O' := by
  obtain ⟨w, ⟨Oj, O', h1, h2, h3⟩, _⟩ := o.focus hg
  cases h1 with
  | lst hH r =>
    refine ⟨_, hH, r, fun ys es r' => ?_⟩
    have nd := h2.nodup b.nd
    have ha : a ∈ O := h2.mem_iff.mpr (List.mem_append_left _ (List.mem_singleton.mpr rfl))
    have hn : ∀ c ∈ O', c ≠ a := fun c hc z => (List.nodup_append.mp nd).2.2 a (List.mem_singleton.mpr rfl) c hc z.symm
    obtain ⟨O'', q1, q2⟩ := h3 F (upd H a (.lst ys)) [a] (.lst a es) (Same.refl _) (fun c hc => upd_ne (hn c hc)) (.lst upd_same r')
    have pm : O.Perm O'' := h2.trans q2.symm
    have fr : Frm Tq H F O (upd H a (.lst ys)) F O'' := ⟨Same.refl _, fun c x e _ n => by rw [upd_ne fun z => n (by rw [z]; exact ha)]; exact e, fun c e => by
      by_cases z : c = a
      · subst z; rw [upd_same]; exact fun z => nomatch z
      · rw [upd_ne z]; exact e, fun c e => .inl e, fun c hc => .inl (pm.mem_iff.mpr hc), tab_own hH⟩
    have da := b.dis a ha
    refine ⟨O'', ⟨fun c x e => ?_, pm.nodup b.nd, fun c hc => b.dis c (pm.mem_iff.mpr hc), b.abs.trans fr⟩, q1, fr⟩
    rw [upd_ne fun z => by rw [z, da] at e; cases e]
    exact b.sub c x e

/-! ### subscripts -/
theorem RpA.at {F : Hp} {xs : List V} {ds : List D} {i : Int} {d : D} (r : RpA F xs ds) (h : atI ds i = some d) : ∃ v, atI xs i = some v ∧ Rp F v d := by
  unfold atI at h ⊢
  rw [r.len]
  cases hn : ixN ds.length i with
  | none => rw [hn] at h; cases h
  | some j => rw [hn] at h; exact r.get' h
def ixD (d1 d2 : D) (k : T → Prop) : Prop := match d1, d2 with
  | .list xs, .int i => ∃ d, atI xs i = some d ∧ k (.va d)
  | .tuple xs, .int i => ∃ d, atI xs i = some d ∧ k (.va d)
  | _, _ => False
section
variable {Tq : List (Addr × Str)} {Z : Zb Tq} {X : Cx} {e a b c o ix : Expr} {es : List Expr} {env : Env} {pos : Pos} {P : R → Env → Prop} {PO : Out → Prop}
theorem ixr : IxR X (rD ixD) := fun value slice pins s σ H x y v u Q I rx ry ⟨F, d1, d2, k, sF, w1, w2, hg, q⟩ hs => by
  refine ix_seq value slice pins s σ H x y v u Q I rx ry ?_ hs
  cases d1 with
  | list xs =>
    cases d2 with
    | int i =>
      obtain ⟨p, vs, rfl, h1, r1⟩ := w1.lst' sF
      cases w2.int
      obtain ⟨d, h3, h4⟩ := hg
      obtain ⟨z, h5, h6⟩ := r1.at h3
      exact .inl ⟨p, vs, i, z, rfl, rfl, SqL.of h1, h5, q _ _ (NewV.val sF h6 h4)⟩
    | _ => exact hg.elim
  | tuple xs =>
    cases d2 with
    | int i =>
      obtain ⟨p, vs, rfl, h1, r1⟩ := w1.tup
      cases w2.int
      obtain ⟨d, h3, h4⟩ := hg
      obtain ⟨z, h5, h6⟩ := r1.at h3
      exact .inr (.inl ⟨p, vs, i, z, rfl, rfl, (.inl (rd_mono sF h1)), h5, q _ _ (NewV.val sF h6 h4)⟩)
    | _ => exact hg.elim
  | _ => exact hg.elim
theorem w_ix (h : W2 Z X a b env fun d1 d2 e2 => ixD d1 d2 fun t => P (.t t) e2) (hs : PlainIx b := by intro _ _; rfl) : WE Z X (.Subscript a b pos) env P :=
  we_of (pe_ix ixr pe_A pe_A hs) fun σ H F O b0 o => w2_run b0 o h
/-- a slice's part -/
def PostO {Tq : List (Addr × Str)} (Z : Zb Tq) (σ : L2.St) (H0 F0 : Hp) (O0 : List Addr) (P : Option Int → Env → Prop) : Option Int → Hp → Prop := fun k H => ∃ F O env, Bas Z F H O ∧ OwE F H O σ env ∧ Frm Tq H0 F0 O0 H F O ∧ P k env
def WO {Tq : List (Addr × Str)} (Z : Zb Tq) (X : Cx) : Option Expr → Env → (Option Int → Env → Prop) → Prop
  | none, env, k => k none env
  | some e, env, k => WE Z X e env fun r e1 => ∃ i, r = .t (.va (.int i)) ∧ k (some i) e1
def tO {Tq : List (Addr × Str)} (Z : Zb Tq) (X : Cx) (e : Option Expr) : TO := fun σ H Q => ∃ env F O P, Bas Z F H O ∧ OwE F H O σ env ∧ WO Z X e env P ∧ ∀ v H', PostO Z σ H F O P v H' → Q v H'
theorem post_int {σ : L2.St} {H F0 H0 : Hp} {O0 : List Addr} {K : Int → Env → Prop} {v : V} (h : Post Z σ H0 F0 O0 (fun r e1 => ∃ k, r = .t (.va (.int k)) ∧ K k e1) v H) :
    ∃ k F O env, v = .int k ∧ Bas Z F H O ∧ OwE F H O σ env ∧ Frm Tq H0 F0 O0 H F O ∧ K k env := by
  obtain ⟨F1, O1, r, env1, b1, st, fr1, k, e1, h1⟩ := h
  subst e1
  obtain ⟨O1', O2, rfl, o1, ow⟩ := st
  cases ow with
  | va r =>
    cases r with
    | int k =>
      rw [List.append_nil] at b1 fr1
      exact ⟨k, F1, O1', env1, rfl, b1, o1, fr1, h1⟩
theorem po_O : ∀ {e : Option Expr}, L2.PO X e (tO Z X e)
  | none => ⟨fun pins s σ H Q I ⟨env, F, O, P, b, o, w, q⟩ => po_none.run pins s σ H Q I (q _ _ ⟨F, O, env, b, o, Frm.refl _ _ _, w⟩)⟩
  | some e => ⟨fun pins s σ H Q I ⟨env, F, O, P, b, o, w, q⟩ => (po_some (pe_E (Z := Z))).run pins s σ H Q I ⟨env, F, O, _, b, o, w, fun v H1 h => by
      obtain ⟨k, F1, O1, e1, rfl, b1, o1, fr, p⟩ := post_int h
      exact ⟨k, rfl, q _ _ ⟨F1, O1, e1, b1, o1, fr, p⟩⟩⟩⟩
def cutD (xs : List D) (lo hi : Option Int) : List D := (xs.drop (HT.sIx xs.length 0 lo)).take (HT.sIx xs.length xs.length hi - HT.sIx xs.length 0 lo)
theorem RpA.cut {F : Hp} {vs : List V} {ds : List D} (r : RpA F vs ds) (lo hi : Option Int) : RpA F (cutV vs lo hi) (cutD ds lo hi) := by
  unfold cutV cutD
  rw [r.len]
  exact (r.drop _).take _
def slD (d : D) (lo hi : Option Int) (k : T → Prop) : Prop := match d with
  | .list xs => ∀ p, k (.lst p (cutD xs lo hi))
  | .tuple xs => k (.va (.tuple (cutD xs lo hi)))
  | _ => False
def rSlD : V → Option Int → Option Int → Hp → VK → Prop := fun x lo hi H Q => ∃ F d k, Same F H ∧ Vw F H x d ∧ slD d lo hi k ∧ ∀ v H', NewV F H k v H' → Q v H'
theorem slr : SlR X rSlD := fun pins s σ H x v vl vu lo hi sl Q I rx hs pl pu ⟨F, d, k, sF, w, hg, q⟩ => by
  cases d with
  | list xs =>
    obtain ⟨p, vs, rfl, h1, r1⟩ := w.lst' sF
    exact sl_list pins s σ H _ v vl vu lo hi sl Q I rx hs pl pu ⟨p, vs, rfl, SqL.of h1, fun p' hp' => q _ _ (NewV.lst sF (r1.cut lo hi) hp' (hg p'))⟩
  | tuple xs =>
    obtain ⟨p, vs, rfl, h1, r1⟩ := w.tup
    refine sl_tupA pins s σ H _ v vl vu lo hi sl Q I rx hs pl pu ⟨p, vs, rfl, (.inl (rd_mono sF h1)), fun hw => ?_, fun _ p' hp' => q _ _ (NewV.tup sF (r1.cut lo hi) hp' hg)⟩
    have hx : cutD xs lo hi = xs := by
      unfold cutD
      rw [← r1.len, hw.1, hw.2, List.drop_zero, r1.len, Nat.sub_zero, List.take_length]
    unfold slD at hg
    simp only [hx] at hg
    exact q _ _ (NewV.val sF (.tup h1 r1) hg)
  | _ => exact hg.elim
theorem w_sl {lo hi : Option Expr} {p2 : Pos} (h : WA Z X a env fun a1 e1 => WO Z X lo e1 fun l e2 => WO Z X hi e2 fun u e3 => View a1 e3 fun d => slD d l u fun t => P (.t t) e3) : WE Z X (.Subscript a (.Slice lo hi none p2) pos) env P :=
  we_of (pe_slice slr pe_A po_O po_O) fun σ H F O b0 o => ⟨env, F, O, _, b0, o, h, fun v1 H1 ⟨F1, O1, a1, e1, b1, o1, st1, fr1, h1⟩ => ⟨e1, F1, O1, _, b1, o1, h1, fun l H2 ⟨F2, O2, e2, b2, o2, fr2, h2⟩ =>
    ⟨e2, F2, O2, _, b2, o2, h2, fun u H3 ⟨F3, O3, e3, b3, o3, fr3, h3⟩ => by
      obtain ⟨d, w, h4⟩ := View.vw h3 o3 (st1.mono (fr2.fz.trans fr3.fz))
      exact ⟨F3, d, _, b3.sub, w, h4, fun v H' n => (n.post b3 o3 fun t q => q).from ((fr1.trans fr2).trans fr3)⟩⟩⟩⟩

/-! ### an item stored -/
theorem ws_setix {sp : Pos} (h : WA Z X e env fun a1 e1 => WE Z X o e1 fun r e2 => ∃ a i p, r = .bor a i p ∧ WE Z X ix e2 fun r3 e3 => ∃ n, r3 = .t (.va (.int n)) ∧
      absorb [a1] e3 fun ds e4 => ∃ d ds0 j, ds = [d] ∧ getP i p e4 = some (.lst a ds0) ∧ ixN ds0.length n = some j ∧ PO (.nx (setP i p (.lst a (ds0.set j d)) e4)))
    (hs : swapsWithSole [.Subscript o ix sp] e pos.line X.env = pure false := by rfl) (hw : swappedStores [.Subscript o ix sp] e X.env = pure none := by rfl)
    (h1 : (assignEach [.Subscript o ix sp] X.env).map (·.2) = [assign (.Subscript o ix sp) X.env] := by rfl)
    (ha : ∀ v, assign (.Subscript o ix sp) X.env v = (do
      let ov ← holding [v] (eval o X.env)
      let iv ← holding [v, ov] (eval ix X.env)
      standAt sp
      holding [v, ov, iv] (setItem ov iv v)
      release [v, ov, iv] []) := by intro _; rfl) : WS Z X (.Assign [.Subscript o ix sp] e pos) env PO :=
  ws_of (ps_asg (pe_A (Z := Z)) (pg_sub (pe_E (Z := Z)) (pe_E (Z := Z)) set_list ha) hs hw h1) fun σ H F O b o => ⟨env, F, O, _, b, o, h, fun v H1 ⟨F1, O1, a1, e1, b1, o1, st1, fr1, p⟩ =>
    ⟨e1, F1, O1, _, b1, o1, p, fun ov H2 ⟨F2, O2, r, e2, b2, st2, fr2, a, i, q, er, p⟩ => by
      subst er
      obtain ⟨o2, eov⟩ := st2
      subst eov
      refine ⟨e2, F2, O2, _, b2, o2, p, fun iv H3 h3 => ?_⟩
      obtain ⟨n, F3, O3, e3, rfl, b3, o3, fr3, p⟩ := post_int h3
      obtain ⟨F4, O4, ds, e4, b4, o4, r4, fr4, d, ds0, j, hds, hg, hj, p⟩ := absorb_ok (.cons (st1.mono (fr2.fz.trans fr3.fz)) .nil) b3 o3 p
      subst hds
      cases r4 with
      | cons r4 rn =>
        obtain ⟨xs, hH, rx, upd'⟩ := mutL b4 o4 hg
        obtain ⟨O5, b5, o5, fr5⟩ := upd' (xs.set j v) (ds0.set j d) (rx.set r4 j)
        refine ⟨a, xs, n, j, rfl, rfl, hH, by rw [rx.len]; exact hj, ?_⟩
        exact ⟨F4, O5, _, b5, o5, (((fr1.trans fr2).trans fr3).trans fr4).trans fr5, p⟩⟩⟩

/-! ### x, y = e1, e2 -/
/-- two results, one after the other -/
def parP {Tq : List (Addr × Str)} (Z : Zb Tq) (X : Cx) (b : Expr) (i j : Nat) (k : Env → Prop) (r1 : R) (e1 : Env) : Prop := ∃ t1, r1 = .t t1 ∧ WE Z X b e1 fun r2 e2 => ∃ t2, r2 = .t t2 ∧ i < e2.length ∧ j < e2.length ∧ k ((e2.set i (some t1)).set j (some t2))
theorem ws_par (i j : Nat) {x y : Str} {px py pt : Pos} {kt k2 pt2} (hc : X.calm = true) (hN : X.N.Nodup) (h : WE Z X a env (parP Z X b i j fun e => PO (.nx e)))
    (hi : X.N[i]? = some x := by rfl) (hj : X.N[j]? = some y := by rfl) (hij : i ≠ j := by decide) (hx : X.env.scope.names.lookup x = some .local := by rfl) (hy : X.env.scope.names.lookup y = some .local := by rfl)
    (hw : swappedStores [.Tuple [.Name x px, .Name y py] kt pt] (.Tuple [a, b] k2 pt2) X.env = pure (some [x, y]) := by rfl)
    (hs : swapsWithSole [.Tuple [.Name x px, .Name y py] kt pt] (.Tuple [a, b] k2 pt2) pos.line X.env = pure false := by rfl) (hs1 : starEach [a, b] X.env = (false, eval a X.env) :: starEach [b] X.env := by rfl) (hs2 : starEach [b] X.env = (false, eval b X.env) :: starEach [] X.env := by rfl) :
    WS Z X (.Assign [.Tuple [.Name x px, .Name y py] kt pt] (.Tuple [a, b] k2 pt2) pos) env PO :=
  ws_of (ps_par hc hN hi hj hij hx hy (pa_cons (pe_E (Z := Z)) (pa_cons (pe_E (Z := Z)) pa_nil hs2) hs1) hw hs) fun σ H F O b0 o => by
    refine ⟨env, F, O, _, b0, o, h, fun v1 H1 ⟨F1, O1, r1, e1, b1, st1, fr1, t1, er1, p⟩ => ?_⟩
    subst er1
    obtain ⟨Oa, Ob, rfl, o1, w1⟩ := st1
    refine ⟨e1, F1, Oa, _, b1.left, o1, p, fun v2 H2 ⟨F2, O2, r2, e2, b2, st2, fr2, t2, er2, li, lj, p⟩ => ?_⟩
    subst er2
    obtain ⟨Oc, Od, rfl, o2, w2⟩ := st2
    have ex : ∀ c ∈ Ob, Held H1 c := w1.held
    have b3 := Bas.frame fr2 b1 b2 ex
    have w3 : Ow F2 H2 Ob v1 t1 := w1.stay fr2.fz (fr2.rest b1.nd ex)
    obtain ⟨O5, Oe, o5, p5⟩ := o2.set i w3 li
    obtain ⟨O6, Of, o6, p6⟩ := o5.set j w2 (by rw [List.length_set]; exact lj)
    have pm : ((Oc ++ Od) ++ Ob).Perm (O6 ++ (Of ++ Oe)) := by
      have z1 : ((Oc ++ Od) ++ Ob).Perm (Od ++ (Ob ++ Oc)) := by
        rw [List.append_assoc]
        refine (List.perm_append_comm (l₁ := Oc)).trans ?_
        rw [List.append_assoc]
      refine z1.trans ((p5.append_left Od).trans ?_)
      rw [← List.append_assoc, ← List.append_assoc]
      exact p6.append_right Oe
    have fr3 : Frm Tq H F O H2 F2 ((Oc ++ Od) ++ Ob) := fr1.trans fr2.frame
    refine ⟨v1, v2, rfl, F2, O6, _, (b3.perm pm).left, o6, fr3.perm (fun _ => Iff.rfl) fun c hc => pm.mem_iff.mpr (List.mem_append_left _ hc), p⟩

/-! ### built-in functions -/
def DCall (X : Cx) (f : Value) (g : List D → (T → Prop) → Prop) : Prop :=
  ∀ (pins : List (Addr × Obj)) (s : Shared) (σ : L2.St) (H F : Hp) (vs : List V) (us : List Value) (ds : List D) (k : T → Prop), Inv X pins σ H s → Same F H → Vws F H vs ds → Vals vs us → g ds k →
    wpAny (model X.prog X.w) X.A (call f us) (EP X pins σ (NewV F H k)) X.xe s
def rC (g : List D → (T → Prop) → Prop) : List V → Hp → VK → Prop := fun vs H Q => ∃ F ds k, Same F H ∧ Vws F H vs ds ∧ g ds k ∧ ∀ v H', NewV F H k v H' → Q v H'
theorem DCall.r {f : Value} {g : List D → (T → Prop) → Prop} (h : DCall X f g) : CallR X f (rC g) := fun pins s σ H vs us Q I r ⟨F, ds, k, sF, ws, hg, q⟩ => thn (h pins s σ H F vs us ds k I sF ws r hg) (EP.imp q)
theorem DCall.of {f : Value} {g : List D → (T → Prop) → Prop} {r : List V → Hp → VK → Prop} (hc : CallR X f r) (q : ∀ H F vs ds k, Same F H → Vws F H vs ds → g ds k → r vs H (NewV F H k)) : DCall X f g :=
  fun pins s σ H F vs us ds k I sF ws rv hg => hc pins s σ H vs us _ I rv (q H F vs ds k sF ws hg)
theorem callD_post {g : List D → (T → Prop) → Prop} {σ : L2.St} {H F : Hp} {O : List Addr} {t : TA} (b0 : Bas Z F H O) (o : OwE F H O σ env)
    (h : WAs Z X es env fun as e1 => Views as e1 fun ds => g ds fun t => P (.t t) e1) : tCB (rC g) (tAs Z X es) σ H (Post Z σ H F O P) :=
  ⟨env, F, O, _, b0, o, h, fun vs H1 ⟨F1, O1, as, e1, b1, o1, st, fr, p⟩ => by
    obtain ⟨ds, ws, q⟩ := Views.vws o1 st p
    exact ⟨F1, ds, _, b1.sub, ws, q, fun v H' n => (n.post b1 o1 fun t q => q).from fr⟩⟩
theorem w_callB {g : List D → (T → Prop) → Prop} {x : Str} {id : String} {p : Pos} (hc : DCall X (.builtin id) g) (hm : X.mg x = none) (hv : bootBuiltins x = some (.builtin id)) (h : WAs Z X (e :: es) env fun as e1 => Views as e1 fun ds => g ds fun t => P (.t t) e1)
    (hg : Gl X x := by rfl) (hn : x ≠ "__name__" := by decide) (hdb : (x == ("__debug__" : Str)) = false := by decide)
    (he : starEach (e :: es) X.env = (false, eval e X.env) :: starEach es X.env := by rfl) (hpl : (backTo pos (starEach es X.env)).any (·.1) = false := by rfl) : WE Z X (.Call (.Name x p) (e :: es) [] pos) env P :=
  we_of (pe_callB hc.r hg hm hv pa_As hn hdb he hpl) fun σ H F O b0 o => callD_post (t := tNil) b0 o h
theorem w_callTy {g : List D → (T → Prop) → Prop} {x : Str} {id : String} {p : Pos} (hc : DCall X (.type id) g) (hm : X.mg x = none) (hv : bootBuiltins x = some (.type id)) (h : WAs Z X (e :: es) env fun as e1 => Views as e1 fun ds => g ds fun t => P (.t t) e1)
    (hg : Gl X x := by rfl) (hn : x ≠ "__name__" := by decide) (hdb : (x == ("__debug__" : Str)) = false := by decide)
    (he : starEach (e :: es) X.env = (false, eval e X.env) :: starEach es X.env := by rfl) (hpl : (backTo pos (starEach es X.env)).any (·.1) = false := by rfl) : WE Z X (.Call (.Name x p) (e :: es) [] pos) env P :=
  we_of (pe_callTy hc.r hg hm hv pa_As hn hdb he hpl) fun σ H F O b0 o => callD_post (t := tNil) b0 o h

theorem Vws.one {F H : Hp} {vs : List V} {d : D} (h : Vws F H vs [d]) : ∃ v, vs = [v] ∧ Vw F H v d := by
  cases h with | cons w r => cases r; exact ⟨_, rfl, w⟩
theorem Vws.two {F H : Hp} {vs : List V} {d d' : D} (h : Vws F H vs [d, d']) : ∃ v v', vs = [v, v'] ∧ Vw F H v d ∧ Vw F H v' d' := by
  cases h with | cons w r => cases r with | cons w' r => cases r; exact ⟨_, _, rfl, w, w'⟩
def lenG (ds : List D) (k : T → Prop) : Prop := match ds with
  | [.list xs] => k (.va (.int xs.length))
  | [.tuple xs] => k (.va (.int xs.length))
  | _ => False
theorem dc_len : DCall X (.builtin "len") lenG := .of call_len_seq fun H F vs ds k sF ws h => by
  unfold lenG at h
  split at h
  · obtain ⟨v, rfl, w⟩ := ws.one
    obtain ⟨p, xs, rfl, h1, r1⟩ := w.lst' sF
    exact ⟨p, xs, rfl, .inl (SqL.of h1), NewV.val sF (.int _) (by rw [r1.len]; exact h)⟩
  · obtain ⟨v, rfl, w⟩ := ws.one
    obtain ⟨p, xs, rfl, h1, r1⟩ := w.tup
    exact ⟨p, xs, rfl, .inr ((.inl (rd_mono sF h1))), NewV.val sF (.int _) (by rw [r1.len]; exact h)⟩
  · exact h.elim
def absG (ds : List D) (k : T → Prop) : Prop := match ds with
  | [.int i] => k (.va (.int i.natAbs))
  | _ => False
theorem dc_abs : DCall X (.builtin "abs") absG := .of call_abs fun H F vs ds k sF ws h => by
  unfold absG at h
  split at h
  · rename_i i
    obtain ⟨v, rfl, w⟩ := ws.one
    cases w.int
    have e : (if i < 0 then -i else i) = (i.natAbs : Int) := by split <;> omega
    exact ⟨i, rfl, NewV.val sF (.int _) (by rw [e]; exact h)⟩
  · exact h.elim
def int1G (ds : List D) (k : T → Prop) : Prop := match ds with
  | [.int i] => k (.va (.int i))
  | [.bool b] => k (.va (.int (if b then 1 else 0)))
  | _ => False
theorem dc_int : DCall X (.type "int") int1G := .of call_int1 fun H F vs ds k sF ws h => by
  unfold int1G at h
  split at h
  · obtain ⟨v, rfl, w⟩ := ws.one
    cases w.int
    exact .inl ⟨_, rfl, NewV.val sF (.int _) h⟩
  · obtain ⟨v, rfl, w⟩ := ws.one
    cases w.bl
    exact .inr ⟨_, rfl, NewV.val sF (.int _) h⟩
  · exact h.elim
def minG (ds : List D) (k : T → Prop) : Prop := match ds with
  | [.int i, .int j] => k (.va (.int (min i j)))
  | _ => False
theorem dc_min2 (hc : X.calm = true) : DCall X (.builtin "min") minG := .of (call_min2 hc) fun H F vs ds k sF ws h => by
  unfold minG at h
  split at h
  · rename_i i j
    obtain ⟨v, v', rfl, w, w'⟩ := ws.two
    cases w.int
    cases w'.int
    have e : (if j < i then j else i) = min i j := by split <;> omega
    exact ⟨i, j, rfl, NewV.val sF (.int _) (by rw [e]; exact h)⟩
  · exact h.elim
def maxG (ds : List D) (k : T → Prop) : Prop := match ds with
  | [.int i, .int j] => k (.va (.int (max i j)))
  | _ => False
theorem dc_max2 (hc : X.calm = true) : DCall X (.builtin "max") maxG := .of (call_max2 hc) fun H F vs ds k sF ws h => by
  unfold maxG at h
  split at h
  · rename_i i j
    obtain ⟨v, v', rfl, w, w'⟩ := ws.two
    cases w.int
    cases w'.int
    have e : (if j > i then j else i) = max i j := by split <;> omega
    exact ⟨i, j, rfl, NewV.val sF (.int _) (by rw [e]; exact h)⟩
  · exact h.elim
def tupG (ds : List D) (k : T → Prop) : Prop := match ds with
  | [.list xs] => k (.va (.tuple xs))
  | [.tuple xs] => k (.va (.tuple xs))
  | _ => False
theorem dc_tuple : DCall X (.type "tuple") tupG := .of call_tuple_of fun H F vs ds k sF ws h => by
  unfold tupG at h
  split at h
  · obtain ⟨v, rfl, w⟩ := ws.one
    obtain ⟨p, xs, rfl, h1, r1⟩ := w.lst' sF
    exact ⟨p, xs, rfl, .inl ⟨SqL.of h1, fun l hl => NewV.tup sF r1 hl h⟩⟩
  · obtain ⟨v, rfl, w⟩ := ws.one
    obtain ⟨p, xs, rfl, h1, r1⟩ := w.tup
    exact ⟨p, xs, rfl, .inr ⟨(.inl (rd_mono sF h1)), NewV.val sF (.tup h1 r1) h⟩⟩
  · exact h.elim
def allG (ds : List D) (k : T → Prop) : Prop := ∃ bs : List Bool, ds = [.list (bs.map .bool)] ∧ k (.va (.bool (bs.all id)))
theorem dc_all (hc : X.calm = true) : DCall X (.builtin "all") allG := .of (cr_all hc) fun H F vs ds k sF ws ⟨bs, e, h⟩ => by
  subst e
  obtain ⟨v, rfl, w⟩ := ws.one
  obtain ⟨p, xs, rfl, h1, r1⟩ := w.lst' sF
  exact ⟨p, bs, rfl, by rw [← r1.bls]; exact SqL.of h1, NewV.val sF (.bl _) h⟩
end
end QL

/-! QH: what is shown, isinstance, chains, dict displays, calls by name, the script. -/
namespace QL
open PySem PySem.Spec PyProof.Rows L2

section
variable {X : Cx}
theorem far (hb : (X.base.get? sysModules).isSome = true) {pins : List (Addr × Obj)} {σ : L2.St} {H : Hp} {s : Shared} (I : Inv X pins σ H s) {a : Addr} {o : HO} (h : H a = some o) : sysModules ≠ a := fun e => by
  obtain ⟨ob, ho⟩ := Option.isSome_iff_exists.mp hb
  have := (I.bs _ _ ho).2
  rw [e, h] at this
  cases this

/-! ### repr -/
def showOk (d : D) : Prop := d.showable = true ∧ d.depth ≤ 100 ∧ d.shown.length ≤ sizeLine
/-! ### isinstance(x, T) -/
def tyD : D → String
  | .none => "NoneType"
  | .bool _ => "bool"
  | .int _ => "int"
  | .str _ => "str"
  | .list _ => "list"
  | .tuple _ => "tuple"
  | .dict _ => "dict"
def isB (d : D) (T : String) : Bool := tyD d == T || (T == "int" && tyD d == "bool")
theorem Vw.ty {K : PySem.W.Frag} {F H : Hp} {v : V} {d : D} (sF : Same F H) (w : Vw F H v d) : TyX K H v (.type (tyD d)) := by
  have r := w.rp sF
  cases r with
  | non => exact .base .non
  | bl b => exact .base (.bl b)
  | int i => exact .base (.int i)
  | str x => exact .base (.str x)
  | lst h _ => exact .base (.lst h)
  | tup h _ =>
    rcases h with h | ⟨o, h⟩
    · exact .base (.tup h)
    · exact .fTuple h
  | dic h _ =>
    rcases h with h | ⟨o, h⟩
    · exact .base (.dK h)
    · exact .fDict h
variable {Tq : List (Addr × Str)} {Z : Zb Tq} {e a b c o ix : Expr} {es : List Expr} {env : Env} {pos : Pos} {P : R → Env → Prop} {PO : Out → Prop}
theorem w_isi {T : Str} {t : String} {p p2 : Pos} (h : WA Z X e env fun a1 e1 => View a1 e1 fun d => P (.t (.va (.bool (isB d t)))) e1) (hk : ∀ d, kitB (tyD d) t = some (isB d t)) (hm : X.mg "isinstance" = none) (hmT : X.mg T = none) (hv : bootBuiltins T = some (.type t))
    (hg : Gl X "isinstance" := by rfl) (hgT : Gl X T := by rfl) (hn : T ≠ "__name__" := by decide) (hd : (T == ("__debug__" : Str)) = false := by decide)
    (he : starEach [e, .Name T p2] X.env = (false, eval e X.env) :: starEach [.Name T p2] X.env := by rfl) (he2 : starEach [.Name T p2] X.env = (false, eval (.Name T p2) X.env) :: starEach [] X.env := by rfl)
    (hpl : (backTo pos (starEach [.Name T p2] X.env)).any (·.1) = false := by rfl) : WE Z X (.Call (.Name "isinstance" p) [e, .Name T p2] [] pos) env P :=
  we_of (pe_callB (call_isi (X := X)) hg hm rfl (pa_cons (pe_A (Z := Z)) (pa_cons (pe_bltn (v := .ty t) hgT hmT hv rfl hn hd) pa_nil he2) he) (by decide) (by decide) he hpl) fun σ H F O b o => ⟨env, F, O, _, b, o, h, fun v H1 ⟨F1, O1, a1, e1, b1, o1, st, fr, p⟩ => by
    obtain ⟨d, w, q⟩ := View.vw p o1 st
    exact ⟨v, .ty t, .type (tyD d), .type t, isB d t, rfl, .ty t, w.ty b1.sub, kit_ty (hk d), (post_val b1 o1 (.bl _) q).from fr⟩⟩
theorem kit_int : ∀ d, kitB (tyD d) "int" = some (isB d "int") := by intro d; cases d <;> (simp only [isB, tyD]; decide +kernel)
theorem kit_bool : ∀ d, kitB (tyD d) "bool" = some (isB d "bool") := by intro d; cases d <;> (simp only [isB, tyD]; decide +kernel)
theorem kit_tuple : ∀ d, kitB (tyD d) "tuple" = some (isB d "tuple") := by intro d; cases d <;> (simp only [isB, tyD]; decide +kernel)

/-! ### a op b op c -/
theorem w_chain {op op' : CmpOp} {g g' : D → D → (T → Prop) → Prop} (ho : DOp X (compareOp op) g) (ho' : DOp X (compareOp op') g')
    (h : WA Z X a env fun a1 e1 => WA Z X b e1 fun a2 e2 => View a1 e2 fun d1 => View a2 e2 fun d2 => g d1 d2 fun t => ∃ k, t = .va (.bool k) ∧ (k = true → WA Z X c e2 fun a3 e3 => View a2 e3 fun d2' => View a3 e3 fun d3 => g' d2' d3 fun t => P (.t t) e3) ∧ (k = false → P (.t (.va (.bool false))) e2))
    (hm : lastMarks [op, op'] [b, c] = false := by with_unfolding_all rfl) : WE Z X (.Compare a [op, op'] [b, c] pos) env P :=
  we_of (pe_chain ho.r ho'.r (pe_A (Z := Z)) (pe_A (Z := Z)) (pe_A (Z := Z)) hm) fun σ H F O b0 o => by
    refine ⟨env, F, O, _, b0, o, h, fun v1 H1 ⟨F1, O1, a1, e1, b1, o1, st1, fr1, h1⟩ => ?_⟩
    refine ⟨e1, F1, O1, _, b1, o1, h1, fun v2 H2 ⟨F2, O2, a2, e2, b2, o2, st2, fr2, h2⟩ => ?_⟩
    obtain ⟨d1, w1, h3⟩ := View.vw h2 o2 (st1.mono fr2.fz)
    obtain ⟨d2, w2, h4⟩ := View.vw h3 o2 st2
    refine ⟨F2, d1, d2, _, b2.sub, w1, w2, h4, fun v H3 n => ?_⟩
    obtain ⟨F3, O3, r3, e3, b3, st3, fr3, ee, k, er, hT, hF⟩ := n.post b2 o2 (P := fun r e => e = e2 ∧ ∃ k, r = .t (.va (.bool k)) ∧ (k = true → WA Z X c e2 fun a3 e3 => View a2 e3 fun d2' => View a3 e3 fun d3 => g' d2' d3 fun t => P (.t t) e3) ∧ (k = false → P (.t (.va (.bool false))) e2))
      fun t ⟨k, e, q⟩ => ⟨rfl, k, by rw [e], q⟩
    subst er ee
    obtain ⟨Oa, Ob, rfl, o3, w3⟩ := st3
    cases w3 with
    | va r =>
      cases r with
      | bl k =>
        rw [List.append_nil] at b3 fr3
        refine ⟨k, rfl, ?_⟩
        cases k with
        | false => exact iteF ((post_val b3 o3 (.bl _) (hF rfl)).from ((fr1.trans fr2).trans fr3))
        | true =>
          refine iteT ⟨e3, F3, Oa, _, b3, o3, hT rfl, fun v4 H4 ⟨F4, O4, a3, e4, b4, o4, st4, fr4, h5⟩ => ?_⟩
          obtain ⟨d2', w5, h6⟩ := View.vw h5 o4 (st2.mono (fr3.fz.trans fr4.fz))
          obtain ⟨d3, w6, h7⟩ := View.vw h6 o4 st4
          exact ⟨F4, d2', d3, _, b4.sub, w5, w6, h7, fun v H' n => (n.post b4 o4 fun t q => q).from (((fr1.trans fr2).trans fr3).trans fr4)⟩

/-! ### {}, {'a': x} -/
theorem NewV.dic {F H : Hp} {k : T → Prop} {p : Addr} {xs : List (Key × V)} {ds : List (Key × D)} (b : Same F H) (r : RpT F xs ds) (n : H p = none) (h : k (.dic p ds)) : NewV F H k (.ref p) (upd H p (.dK xs)) := by
  refine ⟨F, [p], .dic p ds, Same.refl _, same_new n, b.trans (same_new n), fun _ z => .inl z, List.nodup_cons.mpr ⟨fun z => (nomatch z), List.nodup_nil⟩, fun a ha => ?_, .dic upd_same r, h⟩
  rw [List.mem_singleton.mp ha]
  exact ⟨n, b.free n⟩
/-! ### calls by name alone: f(b = e2, a = e1) -/
def pick {α : Type} (ns : List Nat) (xs : List α) : List α := ns.filterMap (xs[·]?)
theorem StAs.get {F : Hp} : ∀ {vs : List V} {as : List A} (i : Nat), StAs F vs as → (vs[i]? = none ∧ as[i]? = none) ∨ ∃ v a, vs[i]? = some v ∧ as[i]? = some a ∧ StA F v a
  | _, _, _, .nil => .inl ⟨rfl, rfl⟩
  | _, _, 0, .cons h r => .inr ⟨_, _, rfl, rfl, h⟩
  | _, _, i + 1, .cons h r => r.get i
theorem StAs.pick {F : Hp} {vs : List V} {as : List A} (h : StAs F vs as) : ∀ ns : List Nat, StAs F (QL.pick ns vs) (QL.pick ns as)
  | [] => .nil
  | n :: ns => by
    unfold QL.pick
    rcases h.get n with ⟨e1, e2⟩ | ⟨v, a, e1, e2, r⟩
    · rw [List.filterMap_cons_none e1, List.filterMap_cons_none e2]
      exact h.pick ns
    · rw [List.filterMap_cons_some e1, List.filterMap_cons_some e2]
      exact .cons r (h.pick ns)
/-- how such a call binds: the names as they are written, their places in the parameters' order -/
def KwOk (K : PySem.W.Frag) (fd : FuncData) (ps ks : List Str) (ns : List Nat) : Prop := ∀ (s : Shared) (us : List Value), K.In s.heap → us.length = ks.length → BindsTo s fd ⟨[], ks.zip us⟩ (ps.zip (pick ns us))
theorem StAs.len {F : Hp} : ∀ {vs : List V} {as : List A}, StAs F vs as → vs.length = as.length
  | _, _, .nil => rfl
  | _, _, .cons _ r => congrArg (· + 1) r.len
/-! ### the script: a list that stands in the written part -/
def scT (K : PySem.W.Frag) (a : Addr) (ns : List Int) : T := .ob (some a) fun F _ O v => v = .ref a ∧ O = [] ∧ SqL K F a (ns.map V.int)
theorem sql_mono {K : PySem.W.Frag} {F F' : Hp} {a : Addr} {xs : List V} (s : Same F F') (h : SqL K F a xs) : SqL K F' a xs := by
  rcases h with h | h
  · exact .inl (rd_mono s h)
  · exact .inr h
theorem scT_ow {K : PySem.W.Frag} {F H : Hp} {a : Addr} {ns : List Int} (h : SqL K F a (ns.map V.int)) : Ow F H [] (.ref a) (scT K a ns) :=
  .ob ⟨rfl, rfl, h⟩ ⟨fun F H F' H' O v ⟨h1, h2, h3⟩ s _ => ⟨h1, h2, sql_mono s h3⟩, fun F H O v ⟨_, h2, _⟩ b hb => (by subst h2; cases hb), fun F H O v b ⟨h1, _, _⟩ e => by cases e; exact h1⟩
theorem sc_at {Tq : List (Addr × Str)} {Z : Zb Tq} {F H : Hp} {O : List Addr} {σ : L2.St} {env : Env} {i : Nat} {K : PySem.W.Frag} {a : Addr} {ns : List Int} (b : Bas Z F H O) (o : OwE F H O σ env) (hg : env[i]? = some (some (scT K a ns))) : σ[i]? = some (some (.ref a)) ∧ SqL K H a (ns.map V.int) := by
  obtain ⟨w, hw, Oj, O', h1, h2, h3⟩ := o.focusI hg
  cases h1 with
  | ob h _ =>
    obtain ⟨e, _, q⟩ := h
    subst e
    exact ⟨hw, sql_mono b.sub q⟩
theorem w_scLen (i : Nat) {x : Str} {p p2 : Pos} {a : Addr} {ns : List Int} (hm : X.mg "len" = none) (he : env[i]? = some (some (scT X.K a ns))) (h : P (.t (.va (.int ns.length))) env) (hN : X.N[i]? = some x := by rfl)
    (hg : Gl X "len" := by rfl) (hv : Vis X.env.scope x := by first | exact Or.inl rfl | exact Or.inr (Or.inl rfl) | exact Or.inr (Or.inr rfl)) (hd : (x == ("__debug__" : Str)) = false := by decide) (hcd : (x == ("__classdict__" : Str)) = false := by decide)
    (hs : starEach [.Name x p2] X.env = (false, eval (.Name x p2) X.env) :: starEach [] X.env := by rfl) (hpl : (backTo pos (starEach [] X.env)).any (·.1) = false := by rfl) : WE Z X (.Call (.Name "len" p) [.Name x p2] [] pos) env P :=
  we_of (pe_callB call_len_seq hg hm rfl (pa_cons (pe_var hN hv hd hcd) pa_nil hs) (by decide) (by decide) hs hpl) fun σ H F O b o => by
    obtain ⟨e1, q⟩ := sc_at b o he
    refine ⟨_, e1, a, _, rfl, .inl q, ?_⟩
    rw [List.length_map]
    exact post_val b o (.int _) h
theorem w_scIx (i j : Nat) {x y : Str} {p p2 : Pos} {a : Addr} {ns : List Int} {n : Int} {m : Int} (he : env[i]? = some (some (scT X.K a ns))) (hj : env[j]? = some (some (.va (.int n)))) (ha : atI ns n = some m) (h : P (.t (.va (.int m))) env) (hN : X.N[i]? = some x := by rfl) (hM : X.N[j]? = some y := by rfl)
    (hv : Vis X.env.scope x := by first | exact Or.inl rfl | exact Or.inr (Or.inl rfl) | exact Or.inr (Or.inr rfl)) (hd : (x == ("__debug__" : Str)) = false := by decide) (hcd : (x == ("__classdict__" : Str)) = false := by decide)
    (hv2 : Vis X.env.scope y := by first | exact Or.inl rfl | exact Or.inr (Or.inl rfl) | exact Or.inr (Or.inr rfl)) (hd2 : (y == ("__debug__" : Str)) = false := by decide) (hcd2 : (y == ("__classdict__" : Str)) = false := by decide)
    (hs : PlainIx (.Name y p2) := by intro _ _; rfl) : WE Z X (.Subscript (.Name x p) (.Name y p2) pos) env P :=
  we_of (pe_ix ix_list (pe_var hN hv hd hcd) (pe_var hM hv2 hd2 hcd2) hs) fun σ H F O b o => by
    obtain ⟨e1, q⟩ := sc_at b o he
    obtain ⟨w, hw, Oj, O', h1, h2, h3⟩ := o.focusI hj
    cases h1 with
    | va r =>
      cases r
      refine ⟨_, e1, _, hw, a, _, n, .int m, rfl, rfl, q, ?_, post_val b o (.int _) h⟩
      unfold atI at ha ⊢
      rw [List.length_map]
      cases hn : ixN ns.length n with
      | none => rw [hn] at ha; cases ha
      | some k =>
        rw [hn] at ha
        have ha : ns[k]? = some m := ha
        show (ns.map V.int)[k]? = some (V.int m)
        rw [List.getElem?_map, ha]
        rfl
end
end QL

/-! QI: methods of lists, starred displays, sums of tuples, zip as what is walked, repr without dicts. -/
namespace QL
open PySem PySem.Spec PyProof.Rows L2 StX

section
variable {X : Cx} {Tq : List (Addr × Str)} {Z : Zb Tq} {e a b c o ix tg : Expr} {es : List Expr} {env : Env} {pos : Pos} {P : R → Env → Prop} {PO : Out → Prop}

/-! ### repr -/
def showOk0 (d : D) : Prop := d.hasDict = false ∧ showOk d
def reprG0 (ds : List D) (k : T → Prop) : Prop := ∃ d, ds = [d] ∧ showOk0 d ∧ k (.va (.str d.shown))
theorem dc_repr0 (hg : X.A.guards = some []) (hu : X.A.units + 110 < cLine) : DCall X (.builtin "repr") reprG0 := fun pins s σ H F vs us ds k I sF ws rv ⟨d, e, ⟨nd, ok⟩, h⟩ => by
  subst e
  obtain ⟨v, rfl, w⟩ := ws.one
  obtain ⟨u, rfl, ru⟩ := rv.one
  have rp := w.rp sF
  have fin : ∀ {h' : Heap} {t tk : Nat}, Inv X pins σ H { s with heap := h', toks := tk } → EP X pins σ (NewV F H k) (.str d.shown t) { s with heap := h', toks := tk } := fun {h' t tk} I' => ⟨.str d.shown, H, I', ⟨t, rfl⟩, NewV.val sF (.str _) h⟩
  have big : ∀ {a : Addr}, u = .ref a → wpAny (model X.prog X.w) X.A (call (.builtin "repr") [u]) (EP X pins σ (NewV F H k)) X.xe s := fun {a} e => by
    obtain ⟨as, hr⟩ := rp.reads I ru nd
    subst e
    exact repr_of_reads' hr ok.1 (PyData.noDict_hsm nd) hg (by have := ok.2.1; omega) (fun _ _ e => e) (fun h' u tk hk => fin (I.kept hk)) ok.2.2
  cases rp with
  | non => cases ru; exact P.repr_of_none (fin (I.tok _))
  | bl b => cases ru; exact P.repr_of_bool (fin (I.tok _))
  | int i =>
    obtain ⟨t, rfl⟩ := ru
    exact P.repr_of_int (by simpa [PyData.showable] using ok.1) (fin (I.tok _))
  | str x =>
    obtain ⟨t, rfl⟩ := ru
    exact P.repr_of_str (fin (I.tok _)) ok.2.2
  | lst _ _ => exact big ru
  | tup _ _ => exact big ru
  | dic _ _ => cases nd

/-! ### xs.append(e), xs.pop() -/
theorem lst_at {F H : Hp} {O : List Addr} {σ : L2.St} {a : Addr} {i : Nat} {p : List Str} {ds : List D} {K : PySem.W.Frag} (o : OwE F H O σ env) (hg : getP i p env = some (.lst a ds)) : tyV K "list" (.ref a) H := by
  obtain ⟨w, ⟨Oj, O', h1, h2, h3⟩, _⟩ := o.focus hg
  cases h1 with
  | lst hH r => exact .inl ⟨rfl, _, SqL.of hH⟩
theorem w_append {apos : Pos} (h : WE Z X o env fun r e1 => ∃ a i p ds0, r = .bor a i p ∧ getP i p e1 = some (.lst a ds0) ∧ WA Z X e e1 fun a1 e2 => absorb [a1] e2 fun ds e3 => ∃ d ds1, ds = [d] ∧ getP i p e3 = some (.lst a ds1) ∧ ds1.length < sizeLine ∧ P (.t (.va .none)) (setP i p (.lst a (ds1 ++ [d])) e3))
    (hbase : attributeBase o "append" X.env (eval o X.env) = eval o X.env := by rfl)
    (hfew : ((backTo pos (starEach [e] X.env)).all (fun x => !x.1) && (backToKw pos (keywordEach [] X.env)).all (fun x => x.1.isSome)
      && decide (([e] : List Expr).length + ([] : List Keyword).length + (if ([] : List Keyword).isEmpty then 0 else 1) < 30)) = true := by rfl)
    (hline : (apos.endLine == pos.line) = true := by rfl) (hs : starEach [e] X.env = (false, eval e X.env) :: starEach [] X.env := by rfl) (hpl : (backTo pos (starEach [] X.env)).any (·.1) = false := by rfl) :
    WE Z X (.Call (.Attribute o "append" apos) [e] [] pos) env P :=
  we_of (pe_bm PySem.F.plainAttrs_list PySem.F.slot_list_append PySem.F.type_list_append mt_append (pe_E (Z := Z)) (pa_cons (pe_A (Z := Z)) pa_nil hs) hbase hfew hline hs hpl) fun σ H F O b0 o0 =>
    ⟨env, F, O, _, b0, o0, h, fun v H1 ⟨F1, O1, r, e1, b1, st, fr1, a, i, p, ds0, er, hg, q⟩ => by
      subst er
      obtain ⟨o1, ev⟩ := st
      subst ev
      refine ⟨lst_at o1 hg, e1, F1, O1, _, b1, o1, q, fun v2 H2 ⟨F2, O2, a2, e2, b2, o2, st2, fr2, q2⟩ => ?_⟩
      obtain ⟨F3, O3, ds, e3, b3, o3, r3, fr3, d, ds1, eds, hg3, hz, q3⟩ := absorb_ok (.cons st2 .nil) b2 o2 q2
      subst eds
      cases r3 with
      | cons r3 rn =>
        cases rn
        obtain ⟨xs, hH, rx, up⟩ := mutL b3 o3 hg3
        obtain ⟨O4, b4, o4, fr4⟩ := up (xs ++ [v2]) (ds1 ++ [d]) (rx.app (.cons r3 .nil))
        exact ⟨a, xs, v2, rfl, rfl, hH, by rw [rx.len]; exact hz, (post_val b4 o4 .non q3).from (((fr1.trans fr2).trans fr3).trans fr4)⟩⟩
theorem RpA.dropLast {F : Hp} {vs : List V} {ds : List D} (r : RpA F vs ds) : RpA F vs.dropLast ds.dropLast := by
  rw [List.dropLast_eq_take, List.dropLast_eq_take, r.len]
  exact r.take _
theorem w_pop {apos : Pos} (h : WE Z X o env fun r e1 => ∃ a i p ds d, r = .bor a i p ∧ getP i p e1 = some (.lst a ds) ∧ ds[ds.length - 1]? = some d ∧ P (.t (.va d)) (setP i p (.lst a ds.dropLast) e1))
    (hbase : attributeBase o "pop" X.env (eval o X.env) = eval o X.env := by rfl) (hline : (apos.endLine == pos.line) = true := by rfl) : WE Z X (.Call (.Attribute o "pop" apos) [] [] pos) env P :=
  we_of (pe_bm0 PySem.F.plainAttrs_list PySem.F.slot_list_pop PySem.F.type_list_pop mt_pop (pe_E (Z := Z)) hbase hline) fun σ H F O b0 o0 => ⟨env, F, O, _, b0, o0, h, fun v H1 ⟨F1, O1, r, e1, b1, st, fr1, a, i, p, ds, d, er, hg, hd, q⟩ => by
    subst er
    obtain ⟨o1, ev⟩ := st
    subst ev
    refine ⟨lst_at o1 hg, ?_⟩
    obtain ⟨xs, hH, rx, up⟩ := mutL b1 o1 hg
    obtain ⟨O4, b4, o4, fr4⟩ := up xs.dropLast ds.dropLast rx.dropLast
    obtain ⟨y, hy, ry⟩ := rx.get' hd
    exact ⟨a, xs, y, rfl, rfl, hH, by rw [rx.len]; exact hy, (post_val b4 o4 ry q).from (fr1.trans fr4)⟩⟩

/-! ### for x, y in zip(t, u), t and u tuples -/
def zipD (xs ys : List D) : List D := (xs.zip ys).map fun p => .tuple [p.1, p.2]
def zipG (ds : List D) (k : List D → Prop) : Prop := match ds with
  | [.tuple xs, .tuple ys] => k (zipD xs ys)
  | _ => False
end
end QL

/-! QZ: list(it) and tuple(it) where what the iterator gives is seen in the heap; zip of two tuples. -/
namespace QL
open PySem PySem.Spec PyProof.Rows L2

/-- an iterator at I that is walked into the list at S: the values so far, and what the heap then is -/
structure Src (prog : Program) (w : World) (A : Around) (S I : Addr) (wr : List Addr) (n : Nat) (St : Nat → List Value → Heap → Prop) (Fn : List Value → Heap → Prop) : Prop where
  notS : S ∉ wr
  neS : S ≠ I
  frame : ∀ i acc h h', St i acc h → (∀ b o, b ≠ S → h.get? b = some o → h'.get? b = some o) → (∃ o, h'.get? S = some o) → St i acc h'
  item : ∀ i acc (s : Shared) (Q : Option Value → Shared → Prop) (E : Value → Shared → Prop), i < n → St i acc s.heap →
    (∀ v h' tk, St (i + 1) (acc ++ [v]) h' → (∀ b o, b ∉ wr → s.heap.get? b = some o → h'.get? b = some o) → Q (some v) { s with heap := h', toks := tk }) → wpAny (model prog w) A (pyNext (.ref I)) Q E s
  done : ∀ acc (s : Shared) (Q : Option Value → Shared → Prop) (E : Value → Shared → Prop), St n acc s.heap →
    (∀ h' tk, Fn acc h' → (∀ b o, b ∉ wr → s.heap.get? b = some o → h'.get? b = some o) → Q none { s with heap := h', toks := tk }) → wpAny (model prog w) A (pyNext (.ref I)) Q E s
  self : ∀ acc (s : Shared) (Q : Value → Shared → Prop) (E : Value → Shared → Prop), St 0 acc s.heap → Q (.ref I) s → wpAny (model prog w) A (pyIter (.ref I)) Q E s
abbrev lstObj (acc : List Value) (c : Nat) : Obj := { cls := .type "list", data := .seq acc.toArray c }
section
variable {prog : Program} {w : World} {A : Around} {S I : Addr} {wr : List Addr} {n : Nat} {St : Nat → List Value → Heap → Prop} {Fn : List Value → Heap → Prop} {R : Result → Shared → Prop}
theorem src_loop (W : Src prog w A.in1 S I wr n St Fn) (hn : n ≤ sizeLine) (res : Value) : ∀ (k i : Nat) (s : Shared) (acc : List Value) (c : Nat), n - i = k → i ≤ n → acc.length = i → St i acc s.heap → s.heap.get? S = some (lstObj acc c) →
    (∀ h' tk acc' c', Fn acc' h' → acc'.length = n → h'.get? S = some (lstObj acc' c') → (∀ b o, b ≠ S → b ∉ wr → s.heap.get? b = some o → h'.get? b = some o) → R (.ok (.ret res)) { s with heap := h', toks := tk }) →
    codeAny (model prog w) A (.builtin "list.extend.loop" ⟨[.ref S, .ref I, res], []⟩) R s := by
  intro k
  induction k with
  | zero =>
    intro i s acc c hk hi hl hst hS hR
    have e : i = n := by omega
    subst e
    refine codeAny_builtin F.entry_extend_loop ?_
    rw [Around.under_plainId F.plain_extend_loop _]
    show wpAny _ A.in1 (pyNext (.ref I) >>= _) _ _ s
    exact wpAny_bind (W.done acc s _ _ hst fun h' tk hst' kp => wpAny_pure (hR h' tk acc c hst' hl (kp S _ W.notS hS) fun b o _ hb e => kp b o hb e))
  | succ k ih =>
    intro i s acc c hk hi hl hst hS hR
    have hlt : i < n := by omega
    refine codeAny_builtin F.entry_extend_loop ?_
    rw [Around.under_plainId F.plain_extend_loop _]
    show wpAny _ A.in1 (pyNext (.ref I) >>= _) _ _ s
    refine wpAny_bind (W.item i acc s _ _ hlt hst fun v h' tk hst' kp => ?_)
    have hS' : h'.get? S = some (lstObj acc c) := kp S _ W.notS hS
    show wpAny _ A.in1 (updateSeq S (·.push v) >>= _) _ _ _
    refine wpAny_bind ?_
    have hu := PySem.IsL.update hS' (·.push v)
    rw [show acc.toArray.push v = (acc ++ [v]).toArray by simp] at hu
    refine wpAny_updateSeq (s := { s with heap := h', toks := tk }) hS' rfl (wpAny_pure ⟨plainId_quiet F.plain_extend_loop _, ?_⟩) (by rw [List.size_toArray]; omega) (by show (acc.toArray.push v).size ≤ sizeLine + 1; rw [Array.size_push, List.size_toArray]; omega)
    refine ih (i + 1) { s with heap := h'.update S (Obj.mapSeq (·.push v)), toks := tk } (acc ++ [v]) _ (by omega) hlt (by rw [List.length_append, hl]; rfl) ?_ hu fun h2 tk2 acc2 c2 s2 l2 g2 k2 => ?_
    · exact W.frame _ _ _ _ hst' (fun b o hb e => (Heap.get?_update_other _ _ (Ne.symm hb)).trans e) ⟨_, hu⟩
    · exact hR h2 tk2 acc2 c2 s2 l2 g2 fun b o hb hw e => k2 b o hb hw ((Heap.get?_update_other _ _ (Ne.symm hb)).trans (kp b o hw e))

/-- the type of such an iterator tells no length -/
structure Mute (T : String) : Prop where
  len : typeLookup (.type T) "__len__" = pure none
  hint : typeLookup (.type T) "__length_hint__" = pure none
  nl : (Value.type T == Value.type "list") = false
  nt : (Value.type T == Value.type "tuple") = false
theorem mute_zip : Mute "zip" := ⟨by rw [typeLookup_type, builtinLookup_eq_fast]; kernel_rfl, by rw [typeLookup_type, builtinLookup_eq_fast]; kernel_rfl, by decide, by decide⟩
theorem src_extend {T : String} (m : Mute T) (W : Src prog w A.in1 S I wr n St Fn) (hn : n ≤ sizeLine) (res : Value) (s : Shared) (c : Nat) (hT : ∀ i acc (s' : Shared), St i acc s'.heap → s'.TypeIs (.ref I) T) (hst : St 0 [] s.heap) (hS : s.heap.get? S = some (lstObj [] c))
    (hR : ∀ h' tk acc' c', Fn acc' h' → acc'.length = n → h'.get? S = some (lstObj acc' c') → (∀ b o, b ≠ S → b ∉ wr → s.heap.get? b = some o → h'.get? b = some o) → R (.ok (.ret res)) { s with heap := h', toks := tk }) :
    wpAny (model prog w) A.in1 (Builtin.List.listExtendWith (.ref S) (.ref I) res)
      (fun fin s' => match fin with | .done f => R (.ok f) s' | .again c' => c'.quiet = true ∧ codeAny (model prog w) A c' R s') (fun e s' => R (.error e) s') s := by
  unfold Builtin.List.listExtendWith
  have h0 := hT 0 [] s hst
  refine wpAny_bind (wpAny_typeOf h0 ?_)
  have h1 : Builtin.List.listSameRef (.ref S) (.ref I) = false := by simp [Builtin.List.listSameRef, W.neS]
  simp only [h1, m.nl, m.nt, Bool.or_false, Bool.false_eq_true, if_false]
  refine wpAny_bind (W.self [] _ _ _ hst ?_)
  refine wpAny_bind (wpAny_holding ?_)
  unfold Builtin.List.listLengthHint
  refine wpAny_bind (wpAny_specialOf h0 m.len ?_)
  show wpAny _ A.in1 (specialOf (Value.ref I) (Str.ofString "__length_hint__") >>= _) _ _ _
  refine wpAny_bind (wpAny_specialOf h0 m.hint ?_)
  refine wpAny_pure ?_
  show wpAny _ A.in1 (rule "list.extend.makes-room" >>= fun _ => Builtin.List.listTouch (.ref S) >>= fun _ => again (.builtin "list.extend.loop" ⟨[.ref S, .ref I, res], []⟩)) _ _ _
  refine wpAny_bind (wpAny_rule ?_)
  refine wpAny_bind ?_
  show wpAny _ A.in1 (updateSeq S (·.push .none) >>= fun _ => updateSeq S (·.pop)) _ _ _
  refine wpAny_bind (wpAny_updateSeq hS rfl ?_)
  have g1 := Heap.get?_update_self (Obj.mapSeq (·.push Value.none)) hS rfl
  refine wpAny_updateSeq g1 rfl ?_
  have g2 := Heap.get?_update_self (Obj.mapSeq (·.pop)) g1 rfl
  have out : ∀ b o, b ≠ S → s.heap.get? b = some o → ((s.heap.update S (Obj.mapSeq (·.push Value.none))).update S (Obj.mapSeq (·.pop))).get? b = some o := fun b o hb e =>
    (Heap.get?_update_other _ _ (Ne.symm hb)).trans ((Heap.get?_update_other _ _ (Ne.symm hb)).trans e)
  exact wpAny_pure ⟨plainId_quiet F.plain_extend_loop _, src_loop W hn res n 0 { s with heap := (s.heap.update S (Obj.mapSeq (·.push Value.none))).update S (Obj.mapSeq (·.pop)) } [] _ (Nat.sub_zero n) (Nat.zero_le _) rfl (W.frame _ _ _ _ hst out ⟨_, g2⟩) g2
    fun h' tk acc' c' s2 l2 g k => hR h' tk acc' c' s2 l2 g fun b o hb hw e => k b o hb hw (out b o hb e)⟩
variable {E : Value → Shared → Prop} {s : Shared}
/-- list(it) -/
theorem call_list_src {T : String} (m : Mute T) {Q : Value → Shared → Prop} (W : Src prog w A.in1.in1 s.heap.objs.size I wr n St Fn) (hn : n ≤ sizeLine) (hT : ∀ i acc (s' : Shared), St i acc s'.heap → s'.TypeIs (.ref I) T)
    (hst : ∀ h', (∀ b o, s.heap.get? b = some o → h'.get? b = some o) → (∃ o, h'.get? s.heap.objs.size = some o) → St 0 [] h')
    (hQ : ∀ h' tk acc c, Fn acc h' → acc.length = n → h'.get? s.heap.objs.size = some (lstObj acc c) → (∀ b o, b ∉ wr → s.heap.get? b = some o → h'.get? b = some o) → Q (.ref s.heap.objs.size) { s with heap := h', toks := tk }) :
    wpAny (model prog w) A (call (.type "list") [.ref I]) Q E s := by
  refine callType_codes (Q₁ := fun ob s₁ => ob = .ref s.heap.objs.size ∧ s₁ = { s with heap := s.heap.push (lstObj [] 0) }) F.called_list (F.typeCall_list_1 _) F.entry_list_init (code_list_new _ ⟨rfl, rfl⟩) fun ob s₁ h₁ => ?_
  obtain ⟨rfl, rfl⟩ := h₁
  have g0 : (s.heap.push (lstObj [] 0)).get? s.heap.objs.size = some (lstObj [] 0) := Heap.get?_push_size _ rfl
  have up : ∀ b o, s.heap.get? b = some o → (s.heap.push (lstObj [] 0)).get? b = some o := fun b o e => Heap.get?_push_of_some _ e
  refine ⟨⟨_, g0, rfl⟩, F.args_list_init_2 _ _, ?_⟩
  show wpAny _ _ (do let old ← Builtin.List.listItems (.ref s.heap.objs.size); Builtin.List.listUpdate (.ref s.heap.objs.size) (fun _ => #[]); letGo old.toList.reverse; Builtin.List.listExtendWith (.ref s.heap.objs.size) (.ref I) .none) _ _ _
  refine wpAny_bind ?_
  unfold Builtin.List.listItems
  refine wpAny_bind (wpAny_seqItems g0 rfl (wpAny_pure ?_))
  show wpAny _ _ (updateSeq s.heap.objs.size (fun _ => #[]) >>= fun _ => letGo (#[] : Array Value).toList.reverse >>= fun _ => Builtin.List.listExtendWith (.ref s.heap.objs.size) (.ref I) .none) _ _ _
  refine wpAny_bind (wpAny_updateSeq g0 rfl ?_)
  have g1 := Heap.get?_update_self (Obj.mapSeq (fun _ => (#[] : Array Value))) g0 rfl
  have out : ∀ b o, s.heap.get? b = some o → ((s.heap.push (lstObj [] 0)).update s.heap.objs.size (Obj.mapSeq (fun _ => (#[] : Array Value)))).get? b = some o := fun b o e =>
    (Heap.get?_update_other _ _ (Nat.ne_of_gt (Heap.lt_size e))).trans (up b o e)
  refine wpAny_bind (wpAny_letGo ?_)
  refine src_extend (s := { s with heap := (s.heap.push (lstObj [] 0)).update s.heap.objs.size (Obj.mapSeq (fun _ => (#[] : Array Value))) }) m W hn .none _ hT (hst _ out ⟨_, g1⟩) g1 fun h' tk acc c s2 l2 g k => ?_
  exact ⟨rfl, hQ h' tk acc c s2 l2 g fun b o hb e => k b o (Nat.ne_of_lt (Heap.lt_size e)) hb (out b o e)⟩
theorem code_collect_src {T : String} (m : Mute T) {R : Result → Shared → Prop} (W : Src prog w A.in1 s.heap.objs.size I wr n St Fn) (hn : n ≤ sizeLine) (hT : ∀ i acc (s' : Shared), St i acc s'.heap → s'.TypeIs (.ref I) T)
    (hst : ∀ h', (∀ b o, s.heap.get? b = some o → h'.get? b = some o) → (∃ o, h'.get? s.heap.objs.size = some o) → St 0 [] h')
    (hR : ∀ h' tk acc c, Fn acc h' → acc.length = n → h'.get? s.heap.objs.size = some (lstObj acc c) → (∀ b o, b ∉ wr → s.heap.get? b = some o → h'.get? b = some o) → R (.ok (.ret (.ref s.heap.objs.size))) { s with heap := h', toks := tk }) :
    codeAny (model prog w) A (.builtin "proto.collect" ⟨[.ref I], []⟩) R s := by
  refine codeAny_builtin F.entry_proto_collect ?_
  rw [Around.under_plainId F.plain_proto_collect _]
  show wpAny _ A.in1 (newList [] >>= fun l' => again (.builtin "list.__iadd__" ⟨[l', .ref I], []⟩)) _ _ s
  refine wpAny_bind (wpAny_newObj_type ?_)
  refine wpAny_pure ⟨plainId_quiet F.plain_list_iadd _, codeAny_builtin F.entry_list_iadd ?_⟩
  rw [Around.under_plainId F.plain_list_iadd _]
  have g0 : (s.heap.push (lstObj [] 0)).get? s.heap.objs.size = some (lstObj [] 0) := Heap.get?_push_size _ rfl
  have up : ∀ b o, s.heap.get? b = some o → (s.heap.push (lstObj [] 0)).get? b = some o := fun b o e => Heap.get?_push_of_some _ e
  show wpAny _ A.in1 (Builtin.List.listExtendWith (.ref s.heap.objs.size) (.ref I) (.ref s.heap.objs.size)) _ _ _
  exact src_extend (R := R) (s := { s with heap := s.heap.push (lstObj [] 0) }) m W hn (.ref s.heap.objs.size) _ hT (hst _ up ⟨_, g0⟩) g0 fun h' tk acc c s2 l2 g k => hR h' tk acc c s2 l2 g fun b o hb e => k b o (Nat.ne_of_lt (Heap.lt_size e)) hb (up b o e)
theorem collect_src {T : String} (m : Mute T) {Q : List Value → Shared → Prop} (W : Src prog w A.in1 s.heap.objs.size I wr n St Fn) (hn : n ≤ sizeLine) (hT : ∀ i acc (s' : Shared), St i acc s'.heap → s'.TypeIs (.ref I) T)
    (hst : ∀ h', (∀ b o, s.heap.get? b = some o → h'.get? b = some o) → (∃ o, h'.get? s.heap.objs.size = some o) → St 0 [] h')
    (hQ : ∀ h' tk acc, Fn acc h' → acc.length = n → (∀ b o, b ∉ wr → s.heap.get? b = some o → h'.get? b = some o) → Q acc { s with heap := h', toks := tk }) : wpAny (model prog w) A (collect (.ref I)) Q E s := by
  unfold collect
  refine wpAny_bind (wpAny_runValue (code_collect_src m W hn hT hst fun h' tk acc c s2 l2 g k => ?_))
  show wpAny _ A (load s.heap.objs.size >>= _) _ _ _
  refine wpAny_bind (wpAny_load g ?_)
  exact wpAny_pure (hQ h' tk acc s2 l2 k)
/-- tuple(it) -/
theorem call_tuple_src {T : String} (m : Mute T) {Q : Value → Shared → Prop} (W : Src prog w A.in1.in1.in1 s.heap.objs.size I wr n St Fn) (hn : n ≤ sizeLine) (hT : ∀ i acc (s' : Shared), St i acc s'.heap → s'.TypeIs (.ref I) T)
    (hst : ∀ h', (∀ b o, s.heap.get? b = some o → h'.get? b = some o) → (∃ o, h'.get? s.heap.objs.size = some o) → St 0 [] h') (hI : s.TypeIs (.ref I) T)
    (hQ : ∀ h' tk acc, Fn acc h' → acc.length = n → (∀ b o, b ∉ wr → s.heap.get? b = some o → h'.get? b = some o) → Q (.ref h'.objs.size) { s with heap := h'.push { cls := .type "tuple", data := .seq acc.toArray }, toks := tk }) :
    wpAny (model prog w) A (call (.type "tuple") [.ref I]) Q E s := by
  refine callType_codes (Q₁ := fun ob s₁ => s₁.TypeIs ob "tuple" ∧ Q ob s₁) F.called_tuple (F.typeCall_tuple_1 _) F.entry_object_init ?_ fun ob s₁ h₁ => ?_
  · refine codeAny_of_tree ?_
    show wpAny _ A.in1.in1 (do checkBuiltinCall "tuple.__new__" ⟨[.type "tuple", .ref I], []⟩; again (.builtin "tuple.__new__" ⟨[.type "tuple", .ref I], []⟩)) _ _ s
    refine wpAny_bind (wpAny_of_eq (F.newCall_tuple_1 _) (wpAny_pure ⟨plainId_quiet F.plain_tuple_new _, codeAny_builtin F.entry_tuple_new ?_⟩))
    rw [Around.under_plainId F.plain_tuple_new _]
    have hsub := sub_tuple_self
    have hinit := init_tuple_lookup
    have hmh := madeHere_tuple
    wp_walk using wpAny_typeOf hI
    rw [if_neg (show ¬ ((Value.type T == Value.type "tuple") = true) by rw [m.nt]; exact Bool.false_ne_true)]
    wp_walk using collect_src (A := A.in1.in1) m W hn hT hst
    intro h' tk acc s2 l2 k
    show wpAny _ _ (Builtin.Tuple.tupleExact acc.toArray >>= fun v => ret v) _ _ _
    unfold Builtin.Tuple.tupleExact
    refine wpAny_bind (wpAny_newObj_type ?_ (by show acc.toArray.size ≤ sizeLine; rw [List.size_toArray, l2]; exact hn))
    refine wpAny_pure ?_
    exact ⟨⟨_, Heap.get?_push_size _ rfl, rfl⟩, hQ h' tk acc s2 l2 k⟩
  · exact ⟨h₁.1, F.args_object_init_2 ob _, object_init_meets F.called_tuple.init.lookup F.called_tuple.made (by decide) prog w A.in1 _ s₁ ⟨h₁.1, rfl, h₁.2⟩⟩

/-! ### zip of two tuples; the pairs it gives stay alive -/
section
variable {z TI TO T i1 i2 l1 l2 : Addr} {xs ys : Array Value} {k : Nat}
open PySem.W in
theorem zh_item {f : Bool} {oT : Obj} {x y : Value} {Q : Option Value → Shared → Prop} (D : ZipApart z TI TO i1 i2 l1 l2) (hz : IsZipHeld s.heap z TI TO T f) (hT : s.heap.get? T = some oT) (hTI : IsPair s.heap TI (.ref i1) (.ref i2))
    (a1 : s.heap.IsTupleIter i1 l1 k) (a2 : s.heap.IsTupleIter i2 l2 k) (t1 : s.heap.IsTuple l1 xs) (t2 : s.heap.IsTuple l2 ys) (hx : xs[k]? = some x) (hy : ys[k]? = some y)
    (hQ : ∀ h', IsZipHeld h' z TI TO T true → h'.IsTupleIter i1 l1 (k + 1) → h'.IsTupleIter i2 l2 (k + 1) → IsPair h' s.heap.objs.size x y → (∀ c o, c ≠ z → c ≠ i1 → c ≠ i2 → s.heap.get? c = some o → h'.get? c = some o) →
      Q (some (.ref s.heap.objs.size)) { s with heap := h' }) : wpAny (model prog w) A (pyNext (.ref z)) Q E s := by
  have ty : s.TypeIs (.ref z) "zip" := ⟨_, hz, rfl⟩
  have body : ∀ E' : Value → Shared → Prop, wpAny (model prog w) A.in1 (Builtin.«zip.__next__» ⟨[.ref z], []⟩) (fun fin s' => ∃ v, fin = .done (.ret v) ∧ wpAny (model prog w) A (pure (some v)) Q E s') E' s := by
    intro E'
    show wpAny _ _ (field (.ref z) 2 >>= _) _ _ _
    refine wpAny_bind (wpAny_field hz rfl (x := .bool false) rfl ?_)
    show wpAny _ _ (field (.ref z) 3 >>= _) _ _ _
    refine wpAny_bind (wpAny_field hz rfl (x := .ref TI) rfl (wpAny_bind (wpAny_seqItems hTI rfl ?_)))
    show wpAny _ _ (Builtin.SmallTypes.ownedTupleIsFree (.ref z) >>= _) _ _ _
    refine wpAny_bind (wpAny_tupleHeld_zip hz hT fun g1 z1 e1 => ?_)
    simp only [Bool.false_eq_true, if_false]
    refine wpAny_bind ?_
    rw [← Array.forIn_toList]
    simp only [List.forIn_cons, List.forIn_nil]
    refine wpAny_bind (wpAny_bind (wpAny_holding ?_))
    show wpAny _ _ (Builtin.SmallTypes.nextOf (.ref i1) >>= _) _ _ _
    refine wpAny_bind (RZ.nextOf_tuple_item (s := { s with heap := g1 }) (a1.extBut e1.extBut D.i1z) (t1.extBut e1.extBut D.l1z) hx fun g2 b1 e2 => wpAny_pure (wpAny_pure ?_))
    refine wpAny_bind (wpAny_bind (wpAny_holding ?_))
    show wpAny _ _ (Builtin.SmallTypes.nextOf (.ref i2) >>= _) _ _ _
    refine wpAny_bind (RZ.nextOf_tuple_item (s := { s with heap := g2 }) ((a2.extBut e1.extBut D.i2z).extBut e2.extBut D.i12.symm) ((t2.extBut e1.extBut D.l2z).extBut e2.extBut D.l2i1) hy fun g3 b2 e3 => wpAny_pure (wpAny_pure (wpAny_pure ?_)))
    show wpAny _ _ (newTuple [x, y] >>= _) _ _ _
    refine wpAny_bind (wpAny_newTuple ?_)
    have sz : g3.objs.size = s.heap.objs.size := by rw [e3.1, e2.1, e1.1]
    have z3 : IsZipHeld g3 z TI TO T true := e3.extBut _ _ D.i2z.symm (e2.extBut _ _ D.i1z.symm z1)
    have kp : ∀ c o, c ≠ z → c ≠ i1 → c ≠ i2 → s.heap.get? c = some o → g3.get? c = some o := fun c o c1 c2 c3 e => e3.extBut _ _ c3 (e2.extBut _ _ c2 (e1.extBut _ _ c1 e))
    have up : ∀ c o, g3.get? c = some o → (g3.push { cls := .type "tuple", data := .seq #[x, y] }).get? c = some o := fun c o e => Heap.get?_push_of_some _ e
    refine wpAny_pure ⟨_, rfl, wpAny_pure ?_⟩
    show Q (some (.ref g3.objs.size)) _
    have pr : IsPair (g3.push { cls := .type "tuple", data := .seq #[x, y] }) g3.objs.size x y := Heap.get?_push_size _ rfl
    rw [sz] at pr ⊢
    exact hQ _ (up _ _ z3) ((b1.extBut e3.extBut D.i12).at fun o e => up _ o e) (b2.at fun o e => up _ o e) pr fun c o c1 c2 c3 e => up _ _ (kp c o c1 c2 c3 e)
  unfold pyNext
  exact wpAny_bind (wpAny_attempt (wpAny_callSpecial?_slot (name := Str.ofString "__next__") ty F.slot_zip_next (wpAny_call_entry F.slot_zip_next ty F.entry_zip_next (body _) (F.args_zip_next_1 _))))

open PySem.W in
theorem zh_end {f : Bool} {oT : Obj} {Q : Option Value → Shared → Prop} (hh : A.handled = none) (D : ZipApart z TI TO i1 i2 l1 l2) (hz : IsZipHeld s.heap z TI TO T f) (hT : s.heap.get? T = some oT) (hTI : IsPair s.heap TI (.ref i1) (.ref i2))
    (a1 : s.heap.IsTupleIter i1 l1 k) (a2 : s.heap.IsTupleIter i2 l2 k) (t1 : s.heap.IsTuple l1 xs) (t2 : s.heap.IsTuple l2 ys) (hend : xs[k]? = none ∨ ys[k]? = none)
    (hQ : ∀ h', (∀ c o, c ≠ z → c ≠ i1 → c ≠ i2 → s.heap.get? c = some o → h'.get? c = some o) → Q none { s with heap := h' }) : wpAny (model prog w) A (pyNext (.ref z)) Q E s := by
  have ty : s.TypeIs (.ref z) "zip" := ⟨_, hz, rfl⟩
  have stop : ∀ (h' : Heap) (e : Addr), (∀ c o, c ≠ z → c ≠ i1 → c ≠ i2 → s.heap.get? c = some o → h'.get? c = some o) → (∃ o, h'.get? e = some o ∧ o.cls = .type "StopIteration") →
      wpAny (model prog w) A (do let b ← isInstance (.ref e) (.type "StopIteration"); if b then pure none else throw (.ref e)) Q E { s with heap := h' } := fun h' e kp ⟨o, ho, hc⟩ =>
    wpAny_bind (wpAny_isInstance (T := "StopIteration") (b := true) ⟨o, ho, hc⟩ isSubtype_stop (wpAny_pure (hQ _ kp)))
  unfold pyNext
  refine wpAny_bind (wpAny_attempt (wpAny_callSpecial?_slot (name := Str.ofString "__next__") ty F.slot_zip_next (wpAny_call_entry F.slot_zip_next ty F.entry_zip_next ?_ (F.args_zip_next_1 _))))
  show wpAny _ _ (field (.ref z) 2 >>= _) _ _ _
  refine wpAny_bind (wpAny_field hz rfl (x := .bool false) rfl ?_)
  show wpAny _ _ (field (.ref z) 3 >>= _) _ _ _
  refine wpAny_bind (wpAny_field hz rfl (x := .ref TI) rfl (wpAny_bind (wpAny_seqItems hTI rfl ?_)))
  show wpAny _ _ (Builtin.SmallTypes.ownedTupleIsFree (.ref z) >>= _) _ _ _
  refine wpAny_bind (wpAny_tupleHeld_zip hz hT fun g1 z1 e1 => ?_)
  simp only [Bool.false_eq_true, if_false]
  refine wpAny_bind ?_
  rw [← Array.forIn_toList]
  simp only [List.forIn_cons, List.forIn_nil]
  refine wpAny_bind (wpAny_bind (wpAny_holding ?_))
  show wpAny _ _ (Builtin.SmallTypes.nextOf (.ref i1) >>= _) _ _ _
  cases hx : xs[k]? with
  | none =>
    refine wpAny_bind (RZ.nextOf_tuple_end (s := { s with heap := g1 }) hh (a1.extBut e1.extBut D.i1z) (t1.extBut e1.extBut D.l1z) hx fun g2 e e2 he => ?_)
    exact stop g2 e (fun c o c1 c2 _ q => e2 _ _ c2 (e1.extBut _ _ c1 q)) he
  | some x =>
    have hy : ys[k]? = none := hend.resolve_left fun q => by rw [hx] at q; cases q
    refine wpAny_bind (RZ.nextOf_tuple_item (s := { s with heap := g1 }) (a1.extBut e1.extBut D.i1z) (t1.extBut e1.extBut D.l1z) hx fun g2 b1 e2 => wpAny_pure (wpAny_pure ?_))
    refine wpAny_bind (wpAny_bind (wpAny_holding ?_))
    show wpAny _ _ (Builtin.SmallTypes.nextOf (.ref i2) >>= _) _ _ _
    refine wpAny_bind (RZ.nextOf_tuple_end (s := { s with heap := g2 }) hh ((a2.extBut e1.extBut D.i2z).extBut e2.extBut D.i12.symm) ((t2.extBut e1.extBut D.l2z).extBut e2.extBut D.l2i1) hy fun g3 e e3 he => ?_)
    exact stop g3 e (fun c o c1 c2 c3 q => e3 _ _ c3 (e2.extBut _ _ c2 (e1.extBut _ _ c1 q))) he
/-- the pairs so far -/
def Prs (h : Heap) (xs ys : Array Value) (acc : List Value) : Prop := ∀ (j : Nat) (v : Value), acc[j]? = some v → ∃ t x y, v = Value.ref t ∧ IsPair h t x y ∧ xs[j]? = some x ∧ ys[j]? = some y
open PySem.W in
structure Zst (S z TI TO i1 i2 l1 l2 : Addr) (xs ys : Array Value) (i : Nat) (acc : List Value) (h : Heap) : Prop where
  len : acc.length = i
  ex : ∃ o, h.get? S = some o
  ti : IsPair h TI (.ref i1) (.ref i2)
  to : ∃ a b, IsPair h TO a b
  a1 : h.IsTupleIter i1 l1 i
  a2 : h.IsTupleIter i2 l2 i
  t1 : h.IsTuple l1 xs
  t2 : h.IsTuple l2 ys
  prs : Prs h xs ys acc
  st : (i = 0 ∧ IsZip h z TI TO .none) ∨ ∃ T f oT, 0 < i ∧ IsZipHeld h z TI TO T f ∧ h.get? T = some oT ∧ T ≠ z ∧ T ≠ i1 ∧ T ≠ i2 ∧ T ≠ S
  out : ∀ (j : Nat) (t : Addr), acc[j]? = some (Value.ref t) → t ≠ z ∧ t ≠ TO ∧ t ≠ i1 ∧ t ≠ i2 ∧ t ≠ S ∧ z < t
structure Far (S z TI TO i1 i2 l1 l2 : Addr) : Prop where
  z : z ≠ S
  ti : TI ≠ S
  to : TO ≠ S
  i1 : i1 ≠ S
  i2 : i2 ≠ S
  l1 : l1 ≠ S
  l2 : l2 ≠ S
theorem Prs.snoc {h : Heap} {acc : List Value} {t : Addr} {x y : Value} (p : Prs h xs ys acc) (hp : IsPair h t x y) (hx : xs[acc.length]? = some x) (hy : ys[acc.length]? = some y) : Prs h xs ys (acc ++ [Value.ref t]) := fun j v e => by
  by_cases hj : j < acc.length
  · rw [List.getElem?_append_left hj] at e
    exact p j v e
  · rw [List.getElem?_append_right (by omega)] at e
    have ej : j - acc.length = 0 := by
      cases q : j - acc.length with
      | zero => rfl
      | succ m => rw [q] at e; cases e
    rw [ej] at e
    cases e
    have ej : j = acc.length := by omega
    subst ej
    exact ⟨t, x, y, rfl, hp, hx, hy⟩
theorem Prs.keep {h h' : Heap} {acc : List Value} (p : Prs h xs ys acc) (k : ∀ (j : Nat) (t : Addr) o, acc[j]? = some (Value.ref t) → h.get? t = some o → h'.get? t = some o) : Prs h' xs ys acc := fun j v e => by
  obtain ⟨t, x, y, ev, hp, hx, hy⟩ := p j v e
  subst ev
  exact ⟨t, x, y, rfl, k j t _ e hp, hx, hy⟩
theorem out_snoc {acc : List Value} {a : Addr} {C : Addr → Prop} (p : ∀ (j : Nat) (t : Addr), acc[j]? = some (Value.ref t) → C t) (h : C a) : ∀ (j : Nat) (t : Addr), (acc ++ [Value.ref a])[j]? = some (Value.ref t) → C t := fun j t e => by
  have := List.mem_of_getElem? e
  rcases List.mem_append.mp this with m | m
  · obtain ⟨i, hi⟩ := List.getElem?_of_mem m
    exact p i t hi
  · cases List.mem_singleton.mp m; exact h
open PySem.W in
theorem src_zipT {S : Addr} (hh : A.handled = none) (D : ZipApart z TI TO i1 i2 l1 l2) (fa : Far S z TI TO i1 i2 l1 l2) : Src prog w A S z [z, TO, i1, i2] (min xs.size ys.size) (Zst S z TI TO i1 i2 l1 l2 xs ys) (fun acc h => Prs h xs ys acc ∧ ∀ (j : Nat) (t : Addr), acc[j]? = some (Value.ref t) → z < t) where
  notS := by simp [fa.z.symm, fa.to.symm, fa.i1.symm, fa.i2.symm]
  neS := fa.z.symm
  frame := fun i acc h h' Zs k ex => by
    refine ⟨Zs.len, ex, k _ _ fa.ti Zs.ti, Zs.to.imp fun a q => q.imp fun b q => k _ _ fa.to q, Zs.a1.at fun o => k _ o fa.i1, Zs.a2.at fun o => k _ o fa.i2, Zs.t1.at fun o => k _ o fa.l1, Zs.t2.at fun o => k _ o fa.l2,
      Zs.prs.keep fun j t o e => k t o (Zs.out j t e).2.2.2.2.1, ?_, Zs.out⟩
    rcases Zs.st with ⟨e, q⟩ | ⟨T, f, oT, ip, q, g, n1, n2, n3, n4⟩
    · exact .inl ⟨e, k _ _ fa.z q⟩
    · exact .inr ⟨T, f, oT, ip, k _ _ fa.z q, k _ _ n4 g, n1, n2, n3, n4⟩
  item := fun i acc s Q E hi Zs hQ => by
    have hx : xs[i]? = some xs[i] := Array.getElem?_eq_getElem (by omega)
    have hy : ys[i]? = some ys[i] := Array.getElem?_eq_getElem (by omega)
    obtain ⟨oS, hS⟩ := Zs.ex
    have lS : S ≠ s.heap.objs.size := Nat.ne_of_lt (Heap.lt_size hS)
    have l1' : i1 ≠ s.heap.objs.size := by obtain ⟨_, e, _⟩ := Zs.a1; exact Nat.ne_of_lt (Heap.lt_size e)
    have l2' : i2 ≠ s.heap.objs.size := by obtain ⟨_, e, _⟩ := Zs.a2; exact Nat.ne_of_lt (Heap.lt_size e)
    have len := Zs.len
    rcases Zs.st with ⟨e0, q⟩ | ⟨T, f, oT, ip, q, g, n1, n2, n3, n4⟩
    · obtain ⟨a, b, hTO⟩ := Zs.to
      have lz : z ≠ s.heap.objs.size := Nat.ne_of_lt (Heap.lt_size q)
      have lTO : TO ≠ s.heap.objs.size := Nat.ne_of_lt (Heap.lt_size hTO)
      refine RZ.pyNext_zipT_item D q Zs.ti hTO Zs.a1 Zs.a2 Zs.t1 Zs.t2 hx hy fun h' z' TO' b1 b2 pr _ kp => ?_
      have eacc : acc = [] := List.length_eq_zero_iff.mp (len.trans e0)
      subst eacc
      refine hQ (.ref s.heap.objs.size) h' s.toks ⟨by rw [List.length_append, len]; rfl, ⟨_, kp _ _ fa.z.symm fa.to.symm fa.i1.symm fa.i2.symm hS⟩, kp _ _ D.TIz D.TITO D.TIi1 D.TIi2 Zs.ti, ⟨_, _, TO'⟩, b1, b2, Zs.t1.at fun o => kp _ o D.l1z D.l1TO D.l1i1 D.l1i2, Zs.t2.at fun o => kp _ o D.l2z D.l2TO D.l2i1 D.l2i2, ?_, .inr ⟨_, false, _, Nat.succ_pos _, z', pr, lz.symm, l1'.symm, l2'.symm, lS.symm⟩, ?_⟩ ?_
      · exact Prs.snoc (acc := []) (fun j v e => nomatch e) pr (by rw [len]; exact hx) (by rw [len]; exact hy)
      · exact out_snoc (acc := []) (fun j t e => nomatch e) ⟨lz.symm, lTO.symm, l1'.symm, l2'.symm, lS.symm, Heap.lt_size q⟩
      · intro b o hb e
        simp only [List.mem_cons, List.not_mem_nil, or_false, not_or] at hb
        exact kp b o hb.1 hb.2.1 hb.2.2.1 hb.2.2.2 e
    · obtain ⟨a, b, hTO⟩ := Zs.to
      have lz : z ≠ s.heap.objs.size := Nat.ne_of_lt (Heap.lt_size q)
      have lTO : TO ≠ s.heap.objs.size := Nat.ne_of_lt (Heap.lt_size hTO)
      refine zh_item D q g Zs.ti Zs.a1 Zs.a2 Zs.t1 Zs.t2 hx hy fun h' z' b1 b2 pr kp => ?_
      refine hQ (.ref s.heap.objs.size) h' s.toks ⟨by rw [List.length_append, len]; rfl, ⟨_, kp _ _ fa.z.symm fa.i1.symm fa.i2.symm hS⟩, kp _ _ D.TIz D.TIi1 D.TIi2 Zs.ti, ⟨_, _, kp _ _ D.TOz D.TOi1 D.TOi2 hTO⟩, b1, b2, Zs.t1.at fun o => kp _ o D.l1z D.l1i1 D.l1i2, Zs.t2.at fun o => kp _ o D.l2z D.l2i1 D.l2i2, ?_, .inr ⟨T, true, oT, Nat.succ_pos _, z', kp _ _ n1 n2 n3 g, n1, n2, n3, n4⟩, ?_⟩ ?_
      · exact Prs.snoc (Zs.prs.keep fun j t o e => kp t o (Zs.out j t e).1 (Zs.out j t e).2.2.1 (Zs.out j t e).2.2.2.1) pr (by rw [len]; exact hx) (by rw [len]; exact hy)
      · refine out_snoc Zs.out ⟨lz.symm, lTO.symm, l1'.symm, l2'.symm, lS.symm, Heap.lt_size q⟩
      · intro b o hb e
        simp only [List.mem_cons, List.not_mem_nil, or_false, not_or] at hb
        exact kp b o hb.1 hb.2.2.1 hb.2.2.2 e
  done := fun acc s Q E Zs hQ => by
    have hend : xs[min xs.size ys.size]? = none ∨ ys[min xs.size ys.size]? = none := by
      rw [Array.getElem?_eq_none_iff, Array.getElem?_eq_none_iff]
      omega
    rcases Zs.st with ⟨e0, q⟩ | ⟨T, f, oT, ip, q, g, n1, n2, n3, n4⟩
    · obtain ⟨a, b, hTO⟩ := Zs.to
      refine RZ.pyNext_zipT_end hh D q Zs.ti hTO Zs.a1 Zs.a2 Zs.t1 Zs.t2 hend fun h' kp => hQ h' s.toks ⟨Zs.prs.keep fun j t o e => kp t o (Zs.out j t e).1 (Zs.out j t e).2.1 (Zs.out j t e).2.2.1 (Zs.out j t e).2.2.2.1, fun j t e => (Zs.out j t e).2.2.2.2.2⟩ fun b o hb e => ?_
      simp only [List.mem_cons, List.not_mem_nil, or_false, not_or] at hb
      exact kp b o hb.1 hb.2.1 hb.2.2.1 hb.2.2.2 e
    · refine zh_end hh D q g Zs.ti Zs.a1 Zs.a2 Zs.t1 Zs.t2 hend fun h' kp => hQ h' s.toks ⟨Zs.prs.keep fun j t o e => kp t o (Zs.out j t e).1 (Zs.out j t e).2.2.1 (Zs.out j t e).2.2.2.1, fun j t e => (Zs.out j t e).2.2.2.2.2⟩ fun b o hb e => ?_
      simp only [List.mem_cons, List.not_mem_nil, or_false, not_or] at hb
      exact kp b o hb.1 hb.2.2.1 hb.2.2.2 e
  self := fun acc s Q E Zs h => by
    rcases Zs.st with ⟨_, q⟩ | ⟨T, f, oT, ip, _⟩
    · exact wpAny_pyIter_zip q h
    · exact absurd ip (Nat.lt_irrefl 0)
end
end
end QL

/-! QY: many new objects at once; tuple(zip(t, u)), list(zip(t, u)). -/
namespace QL
open PySem PySem.Spec PyProof.Rows L2

/-- what was, and N from n on -/
def Hn (H : Hp) (n : Nat) (N : Hp) : Hp := fun b => if n ≤ b then N b else H b
theorem Hn_old {H N : Hp} {n : Nat} {b : Addr} (h : b < n) : Hn H n N b = H b := if_neg (Nat.not_le.mpr h)
theorem Hn_new {H N : Hp} {n : Nat} {b : Addr} (h : n ≤ b) : Hn H n N b = N b := if_pos h
theorem Inv.many {X : Cx} {pins : List (Addr × Obj)} {σ : L2.St} {H N : Hp} {s : Shared} {h' : Heap} {t' : Nat} (I : Inv X pins σ H s) (k : ∀ b u, s.heap.get? b = some u → h'.get? b = some u)
    (new : ∀ b o, s.heap.objs.size ≤ b → N b = some o → (∀ H' : Hp, ObjOk X.prog X.w H' h' b o)) : Inv X pins σ (Hn H s.heap.objs.size N) { s with heap := h', toks := t' } := by
  have old : ∀ {b : Addr} {o : HO}, H b = some o → Hn H s.heap.objs.size N b = some o := fun {b o} e => by rw [Hn_old (I.hok.lt e)]; exact e
  refine I.un (t' := t') ⟨fun b u q _ _ _ => k b u q, fun b u q _ _ _ => ⟨u.slots, k b u q⟩, fun b u q n _ => by rw [Hn_old (Heap.lt_size q)]; exact n, fun b u q _ => ⟨u, k b u q⟩, fun b xs q => old q, fun b u xs q => old q, fun b ps q => ⟨#[], by rw [old q]; simp⟩⟩ ?_
  intro a o e
  by_cases ha : s.heap.objs.size ≤ a
  · rw [Hn_new ha] at e
    exact new a o ha e _
  · rw [Hn_old (Nat.not_le.mp ha)] at e
    exact (I.hok a o e).stay (fun b u _ q => k b u q) (fun b q => old q) fun b xs q => old q
theorem NewV.many {F H NF N : Hp} {n : Nat} {k : T → Prop} {v : V} {t : T} {O' : List Addr} (sF : Same F H) (fresh : ∀ b, n ≤ b → H b = none) (sub : ∀ b o, n ≤ b → NF b = some o → N b = some o) (nd : O'.Nodup) (no : ∀ a ∈ O', n ≤ a ∧ NF a = none)
    (ow : Ow (Hn F n NF) (Hn H n N) O' v t) (h : k t) : NewV F H k v (Hn H n N) := by
  have lt : ∀ {b : Addr} {o : HO}, H b = some o → b < n := fun {b o} e => by
    rcases Nat.lt_or_ge b n with z | z
    · exact z
    · rw [fresh b z] at e; cases e
  refine ⟨Hn F n NF, O', t, fun b o e => ?_, fun b o e => by rw [Hn_old (lt e)]; exact e, fun b o e => ?_, fun b e => ?_, nd, fun a ha => ⟨fresh a (no a ha).1, by rw [Hn_new (no a ha).1]; exact (no a ha).2⟩, ow, h⟩
  · rw [Hn_old (lt (sF b o e))]; exact e
  · by_cases z : n ≤ b
    · rw [Hn_new z] at e ⊢; exact sub b o z e
    · rw [Hn_old (Nat.not_le.mp z)] at e ⊢; exact sF b o e
  · by_cases z : n ≤ b
    · exact .inr (fresh b z)
    · rw [Hn_old (Nat.not_le.mp z)] at e; exact .inl e

/-! ### the pairs that a walk over a zip has given -/
open Classical in
/-- pairs of values at the addresses in acc -/
noncomputable def prN (acc : List Value) (vs ws : List V) : Hp := fun b => if h : ∃ j : Nat, acc[j]? = some (Value.ref b) then (match vs[h.choose]?, ws[h.choose]? with | some v, some w => some (.tup [v, w]) | _, _ => none) else none
theorem prN_at {h : Heap} {n : Nat} {xs ys acc : List Value} {vs ws : List V} {ds es : List D} {F : Hp} (rv : Vals vs xs) (rw_ : Vals ws ys) (r1 : RpA F vs ds) (r2 : RpA F ws es) (p : Prs h xs.toArray ys.toArray acc) {b : Addr} {o : HO} (e : prN acc vs ws b = some o) :
    ∃ v w x y, o = .tup [v, w] ∧ IsPair h b x y ∧ L2.RelV v x ∧ L2.RelV w y := by
  unfold prN at e
  split at e
  · rename_i hj
    have hc := hj.choose_spec
    obtain ⟨t, x, y, et, hp, hx, hy⟩ := p _ _ hc
    cases et
    split at e
    · rename_i v w e1 e2
      cases e
      obtain ⟨u1, g1, q1⟩ := rv.get e1
      obtain ⟨u2, g2, q2⟩ := rw_.get e2
      have hx' : xs[hj.choose]? = some x := by simpa using hx
      have hy' : ys[hj.choose]? = some y := by simpa using hy
      rw [g1] at hx'
      rw [g2] at hy'
      cases hx'
      cases hy'
      exact ⟨v, w, _, _, rfl, hp, q1, q2⟩
    · cases e
  · cases e
theorem prN_of {h : Heap} {xs ys acc : List Value} {vs ws : List V} {ds es : List D} {F : Hp} (rv : Vals vs xs) (rw_ : Vals ws ys) (r1 : RpA F vs ds) (r2 : RpA F ws es) (inj : ∀ (v1 v2 : V) (u : Value), L2.RelV v1 u → L2.RelV v2 u → v1 = v2) (p : Prs h xs.toArray ys.toArray acc) {j : Nat} {u : Value} (e : acc[j]? = some u) :
    ∃ b v w d1 d2, u = Value.ref b ∧ prN acc vs ws b = some (.tup [v, w]) ∧ ds[j]? = some d1 ∧ es[j]? = some d2 ∧ Rp F v d1 ∧ Rp F w d2 := by
  obtain ⟨t, x, y, rfl, hp, hx, hy⟩ := p _ _ e
  have hx' : xs[j]? = some x := by simpa using hx
  have hy' : ys[j]? = some y := by simpa using hy
  have gv : ∃ v, vs[j]? = some v ∧ L2.RelV v x := by
    cases q : vs[j]? with
    | none => rw [List.getElem?_eq_none_iff, rv.length, ← List.getElem?_eq_none_iff] at q; rw [q] at hx'; cases hx'
    | some v => obtain ⟨u, g, r⟩ := rv.get q; rw [g] at hx'; cases hx'; exact ⟨v, rfl, r⟩
  have gw : ∃ v, ws[j]? = some v ∧ L2.RelV v y := by
    cases q : ws[j]? with
    | none => rw [List.getElem?_eq_none_iff, rw_.length, ← List.getElem?_eq_none_iff] at q; rw [q] at hy'; cases hy'
    | some v => obtain ⟨u, g, r⟩ := rw_.get q; rw [g] at hy'; cases hy'; exact ⟨v, rfl, r⟩
  obtain ⟨v, g1, q1⟩ := gv
  obtain ⟨w, g2, q2⟩ := gw
  obtain ⟨d1, k1, s1⟩ := r1.get g1
  obtain ⟨d2, k2, s2⟩ := r2.get g2
  refine ⟨t, v, w, d1, d2, rfl, ?_, k1, k2, s1, s2⟩
  unfold prN
  have hj : ∃ j : Nat, acc[j]? = some (Value.ref t) := ⟨j, e⟩
  rw [dif_pos hj]
  -- another place of the same address bears the same values
  obtain ⟨t', x', y', et, hp', hx2, hy2⟩ := p _ _ hj.choose_spec
  cases et
  have ee := hp.symm.trans hp'
  simp only [Option.some.injEq, Obj.mk.injEq, Data.seq.injEq, true_and, and_true] at ee
  have exy : x = x' ∧ y = y' := by simpa using ee
  obtain ⟨rfl, rfl⟩ := exy
  have hx3 : xs[hj.choose]? = some x := by simpa using hx2
  have hy3 : ys[hj.choose]? = some y := by simpa using hy2
  have gv' : vs[hj.choose]? = some v := by
    cases q : vs[hj.choose]? with
    | none => rw [List.getElem?_eq_none_iff, rv.length, ← List.getElem?_eq_none_iff] at q; rw [q] at hx3; cases hx3
    | some v' => obtain ⟨u, g, r⟩ := rv.get q; rw [g] at hx3; cases hx3; rw [inj v' v _ r q1]
  have gw' : ws[hj.choose]? = some w := by
    cases q : ws[hj.choose]? with
    | none => rw [List.getElem?_eq_none_iff, rw_.length, ← List.getElem?_eq_none_iff] at q; rw [q] at hy3; cases hy3
    | some v' => obtain ⟨u, g, r⟩ := rw_.get q; rw [g] at hy3; cases hy3; rw [inj v' w _ r q2]
  rw [gv', gw']
def vOf : Value → Option V
  | .none => some .non
  | .bool b => some (.bl b)
  | .int i _ => some (.int i)
  | .str x _ => some (.str x)
  | .bytes x _ => some (.byt x)
  | .float x _ => some (.flt x)
  | .ref a => some (.ref a)
  | .type n => some (.ty n)
  | _ => none
theorem vOf_rel : ∀ (v : V) (u : Value), L2.RelV v u → vOf u = some v
  | .non, _, rfl => rfl
  | .bl _, _, rfl => rfl
  | .int _, _, ⟨_, rfl⟩ => rfl
  | .str _, _, ⟨_, rfl⟩ => rfl
  | .byt _, _, ⟨_, rfl⟩ => rfl
  | .flt _, _, ⟨_, rfl⟩ => rfl
  | .ref _, _, rfl => rfl
  | .ty _, _, rfl => rfl
theorem relV_inj (v1 v2 : V) (u : Value) (h1 : L2.RelV v1 u) (h2 : L2.RelV v2 u) : v1 = v2 := Option.some.inj ((vOf_rel _ _ h1).symm.trans (vOf_rel _ _ h2))
theorem RpA.of_get {F : Hp} : ∀ {vs : List V} {ds : List D}, vs.length = ds.length → (∀ (j : Nat) v, vs[j]? = some v → ∃ d, ds[j]? = some d ∧ Rp F v d) → RpA F vs ds
  | [], [], _, _ => .nil
  | [], _ :: _, h, _ => nomatch h
  | _ :: _, [], h, _ => nomatch h
  | v :: vs, d :: ds, h, k => by
    obtain ⟨d', e, r⟩ := k 0 v rfl
    cases e
    exact .cons r (RpA.of_get (Nat.succ.inj h) fun j v e => k (j + 1) v e)
/-- what is known behind a walk over zip(t, u) into a list or a tuple; n: where new objects begin -/
structure ZipGot (F : Hp) (n : Nat) (ds es : List D) (h' : Heap) (acc : List Value) (vs ws : List V) (us ts : List Value) : Prop where
  prs : Prs h' us.toArray ts.toArray acc
  len : acc.length = min us.length ts.length
  r1 : RpA F vs ds
  r2 : RpA F ws es
  v1 : Vals vs us
  v2 : Vals ws ts
  ge : ∀ (j : Nat) (t : Addr), acc[j]? = some (Value.ref t) → n ≤ t
  old : ∀ b o, F b = some o → b < n
def refV : Value → V
  | .ref t => .ref t
  | _ => .non
theorem ZipGot.tups {F : Hp} {n : Nat} {ds es : List D} {h' : Heap} {acc : List Value} {vs ws : List V} {us ts : List Value} (g : ZipGot F n ds es h' acc vs ws us ts) :
    Vals (acc.map refV) acc ∧ RpA (Hn F n (prN acc vs ws)) (acc.map refV) (zipD ds es) := by
  have sF : Same F (Hn F n (prN acc vs ws)) := fun b o e => by rw [Hn_old (g.old b o e)]; exact e
  have each := fun {j : Nat} {u : Value} (e : acc[j]? = some u) => prN_of g.v1 g.v2 g.r1 g.r2 relV_inj g.prs e
  refine ⟨?_, RpA.of_get ?_ fun j v e => ?_⟩
  · have : ∀ (l : List Value), (∀ u ∈ l, ∃ b, u = Value.ref b) → Vals (l.map refV) l := fun l => by
      induction l with
      | nil => intro _; exact .nil
      | cons u l ih =>
        intro h
        obtain ⟨b, rfl⟩ := h u List.mem_cons_self
        exact .cons rfl (ih fun u hu => h u (List.mem_cons_of_mem _ hu))
    refine this acc fun u hu => ?_
    obtain ⟨j, hj⟩ := List.getElem?_of_mem hu
    obtain ⟨b, v, w, d1, d2, e, _⟩ := each hj
    exact ⟨b, e⟩
  · unfold zipD
    rw [List.length_map, List.length_map, List.length_zip, g.len, ← g.v1.length, ← g.v2.length, g.r1.len, g.r2.len]
  · rw [List.getElem?_map, Option.map_eq_some_iff] at e
    obtain ⟨u, hu, ev⟩ := e
    obtain ⟨b, v1, w1, d1, d2, e1, e2, e3, e4, q1, q2⟩ := each hu
    subst e1
    subst ev
    refine ⟨.tuple [d1, d2], ?_, .tup ?_ (.cons (q1.mono sF) (.cons (q2.mono sF) .nil))⟩
    · unfold zipD
      rw [List.getElem?_map, show (ds.zip es)[j]? = some (d1, d2) from List.getElem?_zip_eq_some.mpr ⟨e3, e4⟩]
      rfl
    · refine .inl ?_
      rw [Hn_new (g.ge j b hu)]
      exact e2
theorem prN_ok {P : Program} {w : World} {F : Hp} {n : Nat} {ds es : List D} {h' : Heap} {acc : List Value} {vs ws : List V} {us ts : List Value} (g : ZipGot F n ds es h' acc vs ws us ts) {b : Addr} {o : HO} (e : prN acc vs ws b = some o) : ∀ H' : Hp, ObjOk P w H' h' b o := fun H' => by
  obtain ⟨v, w', x, y, rfl, hp, q1, q2⟩ := prN_at (n := n) g.v1 g.v2 g.r1 g.r2 g.prs e
  exact ⟨by show 2 ≤ sizeLine; decide, [x, y], .cons q1 (.cons q2 .nil), _, hp, rfl, _, rfl⟩
theorem far_of (I l1 l2 : Nat) (h1 : l1 < I) (h2 : l2 < I) : Far (I + 5) (I + 4) (I + 2) (I + 3) I (I + 1) l1 l2 := by
  constructor <;> (refine PySem.W.neN ?_; omega)
section
variable {X : Cx} {Tq : List (Addr × Str)} {Z : Zb Tq} {a b : Expr} {env : Env} {pos pos2 : Pos} {P : R → Env → Prop}
/-- the walk over zip(t, u), from where its arguments are made -/
theorem zip_walk (hc : X.calm = true) {pins : List (Addr × Obj)} {σ : L2.St} {H F : Hp} {s : Shared} {l1 l2 : Addr} {vs ws : List V} {ds es : List D} {O : List Addr} {k : T → Prop} (I : Inv X pins σ H s) (sF : Same F H) (h1 : Rd F l1 (.tup vs)) (h2 : Rd F l2 (.tup ws)) (r1 : RpA F vs ds) (r2 : RpA F ws es) (T0 : Value) (hT0 : (T0 = .type "tuple" ∧ k (.va (.tuple (zipD ds es)))) ∨ (T0 = .type "list" ∧ ∀ p, k (.lst p (zipD ds es)))) :
    wpAny (model X.prog X.w) X.A (call (.type "zip") [.ref l1, .ref l2]) (fun u s' => wpAny (model X.prog X.w) X.A (call T0 [u]) (EP X pins σ (NewV F H k)) X.xe s') X.xe s := by
  obtain ⟨us, rv, p1, z1⟩ := I.tuple ((.inl (rd_mono sF h1)))
  obtain ⟨ts, rw_, p2, z2⟩ := I.tuple ((.inl (rd_mono sF h2)))
  obtain ⟨o1, ho1, _⟩ := id p1
  obtain ⟨o2, ho2, _⟩ := id p2
  have lt1 := Heap.lt_size ho1
  have lt2 := Heap.lt_size ho2
  refine RZ.call_zipT (show s.heap.IsTuple l1 us.toArray from p1) (show s.heap.IsTuple l2 ts.toArray from p2) fun g hz hTI hTO q1 q2 hsz hk => ?_
  have ap := PySem.W.ktu_apart s.heap.objs.size l1 l2 lt1 lt2
  have far : Far g.objs.size (s.heap.objs.size + 4) (s.heap.objs.size + 2) (s.heap.objs.size + 3) s.heap.objs.size (s.heap.objs.size + 1) l1 l2 := by
    rw [hsz]
    exact far_of _ _ _ lt1 lt2
  have hn : min us.toArray.size ts.toArray.size ≤ sizeLine := by
    rw [List.size_toArray, ← rv.length]; omega
  have st0 : ∀ h' : Heap, (∀ b o, g.get? b = some o → h'.get? b = some o) → (∃ o, h'.get? g.objs.size = some o) → Zst g.objs.size (s.heap.objs.size + 4) (s.heap.objs.size + 2) (s.heap.objs.size + 3) s.heap.objs.size (s.heap.objs.size + 1) l1 l2 us.toArray ts.toArray 0 [] h' := fun h' kp ex =>
    ⟨rfl, ex, kp _ _ hTI, ⟨_, _, kp _ _ hTO⟩, q1.at fun o e => kp _ o e, q2.at fun o e => kp _ o e, (show s.heap.IsTuple l1 us.toArray from p1).at fun o e => kp _ o (hk _ _ e), (show s.heap.IsTuple l2 ts.toArray from p2).at fun o e => kp _ o (hk _ _ e),
      fun j v e => (nomatch e), .inl ⟨rfl, kp _ _ hz⟩, fun j t e => (nomatch e)⟩
  have ty : ∀ i acc (s' : Shared), Zst g.objs.size (s.heap.objs.size + 4) (s.heap.objs.size + 2) (s.heap.objs.size + 3) s.heap.objs.size (s.heap.objs.size + 1) l1 l2 us.toArray ts.toArray i acc s'.heap → s'.TypeIs (.ref (s.heap.objs.size + 4)) "zip" := fun i acc s' Zs => by
    rcases Zs.st with ⟨_, q⟩ | ⟨T, f, oT, _, q, _⟩
    · exact ⟨_, q, rfl⟩
    · exact ⟨_, q, rfl⟩
  have kept : ∀ {h' : Heap}, (∀ b o, b ∉ [s.heap.objs.size + 4, s.heap.objs.size + 3, s.heap.objs.size, s.heap.objs.size + 1] → g.get? b = some o → h'.get? b = some o) → ∀ b o, s.heap.get? b = some o → h'.get? b = some o := fun {h'} kp b o e => by
    refine kp b o (fun hm => ?_) (hk b o e)
    have := Heap.lt_size e
    simp only [List.mem_cons, List.not_mem_nil, or_false] at hm
    rcases hm with z | z | z | z
    · exact absurd (z ▸ this) (Nat.not_lt.mpr (Nat.le_add_right _ _))
    · exact absurd (z ▸ this) (Nat.not_lt.mpr (Nat.le_add_right _ _))
    · exact absurd (z ▸ this) (Nat.lt_irrefl _)
    · exact absurd (z ▸ this) (Nat.not_lt.mpr (Nat.le_add_right _ _))
  have fresh : ∀ b, s.heap.objs.size ≤ b → H b = none := fun b hb => I.hok.fresh hb
  have old : ∀ b o, F b = some o → b < s.heap.objs.size := fun b o e => I.hok.lt (sF b o e)
  rcases hT0 with ⟨e, hk0⟩ | ⟨e, hk0⟩
  · subst e
    refine call_tuple_src (s := { s with heap := g }) mute_zip (src_zipT (I.ok.hd hc) ap far) hn ty st0 ⟨_, hz, rfl⟩ fun h' tk acc ⟨Pr, bg⟩ len kp => ?_
    have ge : ∀ (j : Nat) (t : Addr), acc[j]? = some (Value.ref t) → s.heap.objs.size ≤ t := fun j t e => Nat.le_of_lt (Nat.lt_of_le_of_lt (Nat.le_add_right _ 4) (bg j t e))
    have G : ZipGot F s.heap.objs.size ds es h' acc vs ws us ts := ⟨Pr, by rw [len]; simp, r1, r2, rv, rw_, ge, old⟩
    obtain ⟨vz, rz⟩ := G.tups
    have lz : (acc.map refV).length ≤ sizeLine := by rw [List.length_map, len]; exact hn
    have le' : s.heap.objs.size ≤ h'.objs.size := Nat.le_of_lt (Nat.lt_of_le_of_lt (Nat.le_add_right _ 2) (Heap.lt_size (kp _ _ (by simp) hTI)))
    -- the pairs, and the tuple
    have k1 := kept kp
    have I2 : Inv X pins σ (Hn H s.heap.objs.size (upd (prN acc vs ws) h'.objs.size (.tup (acc.map refV)))) { s with heap := h'.push { cls := .type "tuple", data := .seq acc.toArray }, toks := tk } :=
      Inv.many (t' := tk) I (fun b u e => Heap.get?_push_of_some _ (k1 b u e)) fun b o hb e => by
        by_cases z : b = h'.objs.size
        · subst z
          rw [upd_same] at e
          cases e
          exact fun H' => ⟨lz, acc, vz, IsTup.new _ _⟩
        · rw [upd_ne z] at e
          intro H'
          exact (prN_ok (P := X.prog) (w := X.w) G e H').stay (fun c u _ q => Heap.get?_push_of_some _ q) (fun _ q => q) fun _ _ q => q
    refine ⟨.ref h'.objs.size, _, I2, rfl, NewV.many (NF := upd (prN acc vs ws) h'.objs.size (.tup (acc.map refV))) (O' := []) sF fresh (fun b o _ e => e) List.nodup_nil (fun _ z => (nomatch z)) (.va (.tup (.inl (by rw [Hn_new le', upd_same])) ?_)) hk0⟩
    refine rz.mono fun c o e => ?_
    by_cases z : s.heap.objs.size ≤ c
    · rw [Hn_new z] at e ⊢
      obtain ⟨_, _, _, _, _, hp, _⟩ := prN_at (n := s.heap.objs.size) G.v1 G.v2 G.r1 G.r2 G.prs e
      rw [upd_ne (Nat.ne_of_lt (Heap.lt_size hp))]
      exact e
    · rw [Hn_old (Nat.not_le.mp z)] at e ⊢
      exact e
  · subst e
    refine call_list_src (s := { s with heap := g }) mute_zip (src_zipT (I.ok.hd hc) ap far) hn ty st0 fun h' tk acc c0 ⟨Pr, bg⟩ len hS kp => ?_
    have ge : ∀ (j : Nat) (t : Addr), acc[j]? = some (Value.ref t) → s.heap.objs.size ≤ t := fun j t e => Nat.le_of_lt (Nat.lt_of_le_of_lt (Nat.le_add_right _ 4) (bg j t e))
    have G : ZipGot F s.heap.objs.size ds es h' acc vs ws us ts := ⟨Pr, by rw [len]; simp, r1, r2, rv, rw_, ge, old⟩
    obtain ⟨vz, rz⟩ := G.tups
    have lz : (acc.map refV).length ≤ sizeLine := by rw [List.length_map, len]; exact hn
    have leS : s.heap.objs.size ≤ g.objs.size := by rw [hsz]; exact Nat.le_add_right _ _
    have noS : prN acc vs ws g.objs.size = none := by
      cases q : prN acc vs ws g.objs.size with
      | none => rfl
      | some o =>
        obtain ⟨_, _, _, _, _, hp, _⟩ := prN_at (n := s.heap.objs.size) G.v1 G.v2 G.r1 G.r2 G.prs q
        have := hp.symm.trans hS
        simp at this
    have I2 : Inv X pins σ (Hn H s.heap.objs.size (upd (prN acc vs ws) g.objs.size (.lst (acc.map refV)))) { s with heap := h', toks := tk } :=
      Inv.many (t' := tk) I (kept kp) fun b o hb e => by
        by_cases z : b = g.objs.size
        · subst z
          rw [upd_same] at e
          cases e
          exact fun H' => ⟨lz, acc, c0, vz, hS⟩
        · rw [upd_ne z] at e
          exact prN_ok (P := X.prog) (w := X.w) G e
    refine ⟨.ref g.objs.size, _, I2, rfl, NewV.many (NF := prN acc vs ws) (O' := [g.objs.size]) sF fresh (fun b o _ e => ?_) (List.nodup_cons.mpr ⟨fun z => (nomatch z), List.nodup_nil⟩) (fun c hc' => ?_) (.lst (by rw [Hn_new leS, upd_same]) rz) (hk0 _)⟩
    · rw [upd_ne fun z => by rw [z, noS] at e; cases e]
      exact e
    · rw [List.mem_singleton.mp hc']
      exact ⟨leS, noS⟩
/-- tuple(zip(t, u)) -/
theorem w_zipT {p p2 : Pos} (hc : X.calm = true) (hm : X.mg "tuple" = none) (hm2 : X.mg "zip" = none) (h : WAs Z X [a, b] env fun as e1 => absorb as e1 fun ds e2 => zipG ds fun xs => P (.t (.va (.tuple xs))) e2) (hg : Gl X "tuple" := by rfl) (hg2 : Gl X "zip" := by rfl)
    (hs : starEach [a, b] X.env = (false, eval a X.env) :: starEach [b] X.env := by rfl) (hpl : (backTo pos2 (starEach [b] X.env)).any (·.1) = false := by rfl)
    (hs2 : starEach [.Call (.Name "zip" p2) [a, b] [] pos2] X.env = (false, eval (.Call (.Name "zip" p2) [a, b] [] pos2) X.env) :: starEach [] X.env := by rfl) :
    WE Z X (.Call (.Name "tuple" p) [.Call (.Name "zip" p2) [a, b] [] pos2] [] pos) env P := fun pins s σ H F O I b0 o => by
  refine Call_ (ld_blt I hg hm boot_tuple (PyProof.Rows.callWith_type1 (args_cons (Call_ (ld_blt I hg2 hm2 PyProof.Rows.boot_zip (PyProof.Rows.callWith_type1 (thn ((pa_As (Z := Z)).run pos2 pins s σ H (PostAs Z σ H F O _) I ⟨env, F, O, _, b0, o, h, fun _ _ q => q⟩)
    fun us s1 ⟨vs, H1, I1, rv, F1, O1, as, e1, b1, o1, st, fr, q⟩ => ?_) hs hpl))) hs2) hs2 rfl))
  obtain ⟨F2, O2, ds, e2, b2, o2, r2, fr2, q⟩ := absorb_ok st b1 o1 q
  unfold zipG at q
  split at q
  · cases r2 with
    | cons r3 rn =>
      cases rn with
      | cons r4 rn =>
        cases rn
        cases r3 with
        | tup h3 r3 =>
          cases r4 with
          | tup h4 r4 =>
            cases rv with
            | cons u1 rv =>
              cases rv with
              | cons u2 rv =>
                cases rv
                cases u1
                cases u2
                refine thn (zip_walk (k := fun t => t = .va (.tuple (zipD _ _))) (O := O2) hc I1 b2.sub h3 h4 r3 r4 (.type "tuple") (.inl ⟨rfl, rfl⟩)) fun u s2 q2 => args_nil (thn q2 (EP.imp fun v H' n => ?_))
                exact (n.post b2 o2 (fun t e => by subst e; exact q)).from (fr.trans fr2)
  · exact q.elim
end
end QL

/-! QJ: a law row's end, from the promise (FnG) of its def; tables of code objects. -/
namespace QL
open PySem PySem.Spec PyProof.Rows L2

/-- what is tracked at the start: the script alone, or nothing; and the tables -/
structure Start (P : Program) (w : World) (K : PySem.W.Frag) (h : Heap) (a : Addr) (ns : List Int) (Ts Es : List Addr) (H F : Hp) : Prop where
  one : ∀ c, F c ≠ none → (c = a ∨ c ∈ Es) ∧ K.lookup c = none ∧ ∃ o u, h.get? c = some o ∧ F c = some (.frz o u)
  em : ∀ c ∈ Es, ∃ o, F c = some (.frz o (.tup []))
  tb : ∀ c, c ∈ Ts → H c = some (.tbl #[])
  nt : ∀ c, c ∉ Ts → H c = F c
  sub : Same F H
  ok : HOk P w H h
  sq : SqL K F a (ns.map V.int)
/-- the empty tuples that are told apart from the rest -/
def EmAt (K : PySem.W.Frag) (h : Heap) (Es : List Addr) : Prop := ∀ c ∈ Es, K.lookup c = none ∧ ∃ o n, h.get? c = some o ∧ o.cls = .type "tuple" ∧ o.data = .seq #[] n
theorem start_of {P : Program} {w : World} {K : PySem.W.Frag} {h : Heap} {a : Addr} {vs : List Value} {ns : List Int} {Ts Es : List Addr} (KX : K.In h) (ha : h.get? a = some { cls := .type "list", data := .seq vs.toArray }) (hi : IntsAre vs ns) (hl : ns.length ≤ sizeLine)
    (hT : ∀ c ∈ Ts, h.get? c = some { cls := .none, data := .fields #[] }) (hE : EmAt K h Es) : ∃ H F, Start P w K h a ns Ts Es H F := by
  have rv := vals_ints hi
  have aT : a ∉ Ts := fun z => by
    have q := hT a z
    rw [ha] at q
    have z' : Data.seq vs.toArray _ = Data.fields #[] := congrArg Obj.data (Option.some.inj q)
    cases z'
  have aE : a ∉ Es := fun z => by
    obtain ⟨_, o, n, e1, e2, _⟩ := hE a z
    rw [ha] at e1
    cases e1
    exact absurd (show Value.type "list" = Value.type "tuple" from e2) (by decide)
  have eT : ∀ c ∈ Es, c ∉ Ts := fun c hc z => by
    obtain ⟨_, o, n, e1, _, e3⟩ := hE c hc
    rw [hT c z] at e1
    cases e1
    cases e3
  have main : ∀ F0 : Hp, (∀ c, F0 c ≠ none → c = a ∧ K.lookup c = none ∧ ∃ o, h.get? c = some o ∧ F0 c = some (.frz o (.lst (ns.map V.int)))) → HOk P w F0 h → SqL K F0 a (ns.map V.int) → ∃ H F, Start P w K h a ns Ts Es H F := fun F0 h1 h2 h3 => by
    let F : Hp := fun b => if b ∈ Es then (h.get? b).map fun o => HO.frz o (.tup []) else F0 b
    have fE : ∀ c ∈ Es, ∃ o, h.get? c = some o ∧ F c = some (.frz o (.tup [])) := fun c hc => by
      obtain ⟨_, o, n, e1, _, _⟩ := hE c hc
      exact ⟨o, e1, (if_pos hc).trans (by rw [e1]; rfl)⟩
    have fN : ∀ c, c ∉ Es → F c = F0 c := fun c hc => if_neg hc
    have one : ∀ c, F c ≠ none → (c = a ∨ c ∈ Es) ∧ K.lookup c = none ∧ ∃ o u, h.get? c = some o ∧ F c = some (.frz o u) := fun c hc => by
      by_cases z : c ∈ Es
      · obtain ⟨o, e1, e2⟩ := fE c z
        exact ⟨.inr z, (hE c z).1, o, _, e1, e2⟩
      · rw [fN c z] at hc ⊢
        obtain ⟨k1, k2, o, k3, k4⟩ := h1 c hc
        exact ⟨.inl k1, k2, o, _, k3, k4⟩
    have ok : HOk P w F h := fun c u hc => by
      by_cases z : c ∈ Es
      · obtain ⟨o, e1, e2⟩ := fE c z
        obtain ⟨_, o', n, e3, e4, e5⟩ := hE c z
        rw [e2] at hc
        cases hc
        rw [e1] at e3
        cases e3
        exact ⟨e1, Nat.zero_le _, [], .nil, o, e1, e4, n, e5⟩
      · rw [fN c z] at hc
        obtain ⟨k1, k2, o, k3, k4⟩ := h1 c (by rw [hc]; exact fun z => nomatch z)
        have q := h2 c u hc
        rw [k4] at hc
        cases hc
        exact q
    have sq : SqL K F a (ns.map V.int) := by
      rcases h3 with h3 | h3
      · refine .inl ?_
        rcases h3 with h3 | ⟨o, h3⟩
        · exact .inl ((fN a aE).trans h3)
        · exact .inr ⟨o, (fN a aE).trans h3⟩
      · exact .inr h3
    have sub : ∀ c u, F c = some u → (if c ∈ Ts then some (HO.tbl #[]) else F c) = some u := fun c u hc => by
      have : c ∉ Ts := fun z => by
        rcases (one c (by rw [hc]; exact fun z => nomatch z)).1 with y | y
        · exact aT (y ▸ z)
        · exact eT c y z
      exact (if_neg this).trans hc
    refine ⟨fun b => if b ∈ Ts then some (.tbl #[]) else F b, F, one, fun c hc => ?_, fun c hc => if_pos hc, fun c hc => if_neg hc, sub, fun c u hc => ?_, sq⟩
    · obtain ⟨o, _, e2⟩ := fE c hc
      exact ⟨o, e2⟩
    · by_cases z : c ∈ Ts
      · have hc' := (if_pos z).symm.trans hc
        cases hc'
        exact hT c z
      · have hc' : F c = some u := (if_neg z).symm.trans hc
        exact (ok c u hc').stay (fun _ _ _ z => z) (fun b z => sub b _ z) fun b xs z => sub b _ z
  by_cases hk : K.lookup a = none
  · refine main (fun b => if b = a then some (.frz { cls := .type "list", data := .seq vs.toArray } (.lst (ns.map V.int))) else none) (fun c hc => ?_) (fun c u hc => ?_) (.inl (.inr ⟨_, if_pos rfl⟩))
    · by_cases z : c = a
      · subst z; exact ⟨rfl, hk, _, ha, if_pos rfl⟩
      · rw [if_neg z] at hc; exact absurd rfl hc
    · by_cases z : c = a
      · subst z
        have hc' := (if_pos rfl).symm.trans hc
        cases hc'
        exact ⟨ha, by rw [List.length_map]; exact hl, vs, _, rv, ha⟩
      · have hc' := (if_neg z).symm.trans hc
        cases hc'
  · obtain ⟨o, ho⟩ := Option.ne_none_iff_exists'.mp hk
    have e := KX a o ho
    rw [ha] at e
    cases e
    refine main (fun _ => none) (fun _ z => absurd rfl z) (fun _ _ z => (nomatch z)) (.inr ⟨_, vs.toArray, _, ho, rfl, rfl, rfl, ?_, by simpa using rv⟩)
    rw [List.size_toArray, hi.length]
    exact hl
/-- a code object, its table, the name of what the table tells -/
abbrev Cs := List (Addr × Addr × Str)
abbrev Cs.tq (cs : Cs) : List (Addr × Str) := cs.map (·.2)
/-- the tables, and the empty tuples -/
abbrev Cs.tqE (cs : Cs) (Es : List Addr) : List (Addr × Str) := cs.tq ++ Es.map fun e => (e, ("()" : Str))
theorem law_goesE {P : Program} {w : World} {K : PySem.W.Frag} {mg mb : Str → Option Value} {k : Nat} {fa a : Addr} {fd : FuncData} {x : Str} {sp : Spc} {s : Shared} {vs : List Value} {ns : List Int} {cs : Cs} {Es : List Addr} (hE : EmAt K s.heap Es) (hq : ∀ p ∈ cs, p.2.2 ≠ "()")
    (KX : K.In s.heap) (hns : s.heap.Ns mainGlobals mg) (hb : s.heap.Ns builtinsNs mb) (hbb : ∀ x : Str, x ≠ "__name__" → mb x = bootBuiltins x) (hlim : s.heap.NoLimit) (hg : s.gens = #[])
    (hT : ∀ p ∈ cs, s.heap.get? p.2.1 = some { cls := .none, data := .fields #[] }) (nT : ∀ p ∈ cs, K.lookup p.2.1 = none) (C : ∀ p ∈ cs, PySem.W.CodeHd s.heap p.1 p.2.1)
    (hbm : ∃ (bm : Addr) (ob : Obj), mg "__builtins__" = some (.ref bm) ∧ bm ≠ builtinsNs ∧ s.heap.get? bm = some ob ∧ ob.cls = .type "module" ∧ ob.dict = some builtinsNs ∧ ob.data = .plain)
    (ha : s.heap.get? a = some { cls := .type "list", data := .seq vs.toArray }) (hi : IntsAre vs ns) (hl : ns.length ≤ sizeLine) (hr : Room k callerA)
    (F : ∀ base : Heap, K.In base → base.Ns mainGlobals mg → (∀ p ∈ cs, LamX.TabB base mg p.1 p.2.1) → FnG P w K mg base (cs.tqE Es) k fa fd [x] sp) (hbind : ∀ (s : Shared) (u : Value), BindsTo s fd ⟨[u], []⟩ [(x, u)])
    (hsp : sp [scT K a ns] (fun t _ => t = .va (.bool true)) fun _ _ => False) :
    codeAny (model P w) callerA (.call (.ref fa) ⟨[.ref a], []⟩) (fun r s' => r = .ok (.ret (.bool true)) ∧ PySem.OldK s.heap s'.heap ∧ s'.os = s.os ∧ AllBare s'.gens) s := by
  have hTs : ∀ c ∈ cs.map (·.2.1), s.heap.get? c = some { cls := .none, data := .fields #[] } := fun c hc => by
    obtain ⟨p, hp, e⟩ := List.mem_map.mp hc
    rw [← e]
    exact hT p hp
  obtain ⟨H, F0, S⟩ := start_of (P := P) (w := w) (K := K) KX ha hi hl hTs hE
  have none_if : ∀ {c : Addr} {o : Obj}, s.heap.get? c = some o → (∀ ys n, o.data ≠ .seq ys n) → o.data ≠ .fields #[] → H c = none := fun {c o} e hd hf => by
    by_cases z : c ∈ cs.map (·.2.1)
    · rw [hTs c z] at e
      cases e
      exact absurd rfl hf
    · rw [S.nt c z]
      cases q : F0 c with
      | none => rfl
      | some u =>
        obtain ⟨h1, _, o', _, ho', _⟩ := S.one c (by rw [q]; exact fun z => nomatch z)
        rcases h1 with rfl | h1
        · rw [ha] at e
          cases e
          exact absurd rfl (hd _ _)
        · obtain ⟨_, o9, n9, e9, _, d9⟩ := hE c h1
          rw [e] at e9
          cases e9
          exact absurd d9 (hd _ _)
  have ns_ : ∀ {c : Addr} {m : Str → Option Value}, s.heap.Ns c m → (hidT s.heap H).Ns c m := fun {c m} ⟨o, es, ep, e, d, r⟩ => ⟨o, es, ep, hidT_get e (none_if e (fun ys n z => by rw [d] at z; cases z) fun z => by rw [d] at z; cases z), d, r⟩
  have kin : K.In (hidT s.heap H) := fun c o e => hidT_get (KX c o e) (by
    by_cases z : c ∈ cs.map (·.2.1)
    · obtain ⟨p, hp, ep⟩ := List.mem_map.mp z
      rw [← ep, nT p hp] at e
      cases e
    · rw [S.nt c z]
      cases q : F0 c with
      | none => rfl
      | some u =>
        obtain ⟨_, q2, _⟩ := S.one c (by rw [q]; exact fun z => nomatch z)
        rw [e] at q2
        cases q2)
  have lim : (hidT s.heap H).NoLimit := let ⟨mc, h1, h2⟩ := hlim; ⟨mc, ns_ h1, h2⟩
  have env : Env0 P w K mg (hidT s.heap H) callerA [] s H := by
    refine ⟨rfl, ⟨kin, ns_ hns, ⟨mb, ns_ hb, hbb⟩, lim⟩, fun b o e => of_hidT e, Nat.le_of_eq (hidT_size _ _), trivial, fun b hb => ?_, S.ok, .of_eq hg⟩
    exact absurd (show b ∈ ([] : List Addr) from hb) List.not_mem_nil
  have TB : ∀ p ∈ cs, LamX.TabB (hidT s.heap H) mg p.1 p.2.1 := fun p hp => by
    have hTp := hT p hp
    refine ⟨?_, ?_, fun z => ?_⟩
    · obtain ⟨o, us, file, tf, flags, tg, inF, text, tt, e1, r1, r2, r3, r4, r5, r6, r7, r8, hne⟩ := C p hp
      refine ⟨o, us, file, tf, flags, tg, inF, text, tt, hidT_get e1 (none_if e1 (fun vs n z => ?_) fun z => ?_), r1, r2, r3, r4, r5, r6, r7, r8, hne⟩
      · rw [r2] at z
        cases z
      · rw [r2] at z
        cases z
        simp at r3
    · obtain ⟨bm, ob, b1, b2, b3, b4, b5, b6⟩ := hbm
      have nG : bm ≠ mainGlobals := fun q => by
        obtain ⟨o, es, ep, e, hd, _⟩ := hns
        rw [q, e] at b3
        cases b3
        rw [hd] at b6
        cases b6
      have nP : bm ≠ p.2.1 := fun q => by
        rw [q, hTp] at b3
        cases b3
        cases b6
      refine ⟨bm, ob, b1, b2, nG, nP, hidT_get b3 (none_if b3 (fun vs n z => ?_) fun z => ?_), b4, b5, b6⟩
      · rw [b6] at z
        cases z
      · rw [b6] at z
        cases z
    · obtain ⟨o, es, ep, e, hd, _⟩ := hns
      rw [z, hTp] at e
      cases e
      cases hd
  have aT : a ∉ cs.map (·.2.1) := fun z => by
    have q := hTs a z
    rw [ha] at q
    have z' : Data.seq vs.toArray _ = Data.fields #[] := congrArg Obj.data (Option.some.inj q)
    cases z'
  have ofT : ∀ p ∈ cs.tqE Es, p.2 ≠ "()" → ∃ c ∈ cs, c.2 = p := fun p hp ne => by
    rcases List.mem_append.mp hp with z | z
    · obtain ⟨c, hc, e⟩ := List.mem_map.mp z
      exact ⟨c, hc, e⟩
    · obtain ⟨c, _, e⟩ := List.mem_map.mp z
      rw [← e] at ne
      exact absurd rfl ne
  have ofE : ∀ p ∈ cs.tqE Es, p.2 = "()" → p.1 ∈ Es := fun p hp e => by
    rcases List.mem_append.mp hp with z | z
    · obtain ⟨c, hc, e2⟩ := List.mem_map.mp z
      rw [← e2] at e
      exact absurd e (hq c hc)
    · obtain ⟨c, hc, e2⟩ := List.mem_map.mp z
      rw [← e2]; exact hc
  have tz1 : ∀ p ∈ cs.tqE Es, p.2 ≠ "()" → LamX.TabS H p.1 p.2 := fun p hp ne => by
    obtain ⟨c, hc, e⟩ := ofT p hp ne
    refine LamX.TabS.nil (S.tb _ (List.mem_map.mpr ⟨c, hc, ?_⟩))
    rw [← e]
  have tz2 : ∀ p ∈ cs.tqE Es, p.2 ≠ "()" → F0 p.1 = none := fun p hp ne => by
    cases q : F0 p.1 with
    | none => rfl
    | some u =>
      obtain ⟨c, hc, e⟩ := ofT p hp ne
      obtain ⟨e2, _⟩ := S.one p.1 (by rw [q]; exact fun z => nomatch z)
      rcases e2 with e2 | e2
      · exact absurd (List.mem_map.mpr ⟨c, hc, by rw [← e2, ← e]⟩) aT
      · obtain ⟨_, o9, n9, e9, _, d9⟩ := hE p.1 e2
        rw [hTs p.1 (List.mem_map.mpr ⟨c, hc, by rw [← e]⟩)] at e9
        cases e9
        cases d9
  have tz4 : ∀ p ∈ cs.tqE Es, p.2 = "()" → Rd F0 p.1 (.tup []) := fun p hp e => by
    obtain ⟨o, z⟩ := S.em _ (ofE p hp e)
    exact .inr ⟨o, z⟩
  have tabz : TabZ (cs.tqE Es) H F0 [] := ⟨tz1, tz2, (fun _ _ _ z => nomatch z), tz4⟩
  have bas : Bas ⟨H, F0, [], tabz⟩ F0 H [] := ⟨S.sub, List.nodup_nil, fun _ z => (nomatch z), Frm.refl _ _ _⟩
  have args : StV F0 H [] [.ref a] [scT K a ns] := by
    have := StV.cons (O1 := []) (O2 := []) (scT_ow (F := F0) (H := H) S.sq) .nil
    exact this
  refine codeAny_mono ((F _ kin (ns_ hns) TB).run callerA [] s H ⟨[.ref a], []⟩ [.ref a] [.ref a] F0 [] _ _ _ (fun _ _ _ => False) tabz hr rfl env (hbind s (.ref a)) (.cons rfl .nil) bas args hsp fun _ _ _ _ _ _ _ _ _ _ q => q) fun r s' h => ?_
  cases r with
  | error e =>
    obtain ⟨_, _, _, _, _, _, _, _, _, _, _, _, q⟩ := h
    exact q.elim
  | ok fl =>
    cases fl with
    | next => exact h.elim
    | brk => exact h.elim
    | cont => exact h.elim
    | ret u =>
      obtain ⟨v, H', os, bare, un, hok', rv', F', O1, O2, t, ts', _, _, ow, et⟩ := h
      subst et
      have ev : v = .bl true := by
        cases ow with
        | va r => cases r; rfl
      subst ev
      obtain rfl : u = Value.bool true := rv'
      have key : ∀ b o, b ∉ cs.map (·.2.1) → s.heap.get? b = some o → s'.heap.get? b = some o := fun b o nb e => by
        by_cases q : H b = none
        · exact un.keep b o e q (fun z => absurd (show b ∈ ([] : List Addr) from z) List.not_mem_nil) List.not_mem_nil
        · have eF := S.nt b nb
          obtain ⟨_, _, o', u', ho', hb'⟩ := S.one b (by rw [← eF]; exact q)
          rw [e] at ho'
          cases ho'
          exact (hok' b _ (un.frzs b _ _ (eF.trans hb'))).1
      have grown : ∀ p ∈ cs, ∃ more : Array Value, s'.heap.get? p.2.1 = some { cls := .none, data := .fields more } := fun p hp => by
        obtain ⟨more, z⟩ := un.tbls p.2.1 #[] (S.tb _ (List.mem_map.mpr ⟨p, hp, rfl⟩))
        exact ⟨_, hok' p.2.1 _ z⟩
      refine ⟨rfl, ⟨fun b o e => ?_, fun b o e => ?_⟩, os, bare⟩
      · by_cases hb : b ∈ cs.map (·.2.1)
        · obtain ⟨p, hp, ep⟩ := List.mem_map.mp hb
          obtain ⟨more, hm⟩ := grown p hp
          rw [← ep] at e ⊢
          rw [hT p hp] at e
          cases e
          exact .inr (.inl ⟨((C p hp).tab (hT p hp)).isCodeTable, rfl, #[], more, rfl, by rw [Array.empty_append]; exact hm⟩)
        · exact .inl (key b o hb e)
      · by_cases hb : b ∈ cs.map (·.2.1)
        · obtain ⟨p, hp, ep⟩ := List.mem_map.mp hb
          obtain ⟨more, hm⟩ := grown p hp
          rw [← ep]
          exact ⟨_, hm⟩
        · exact ⟨o, key b o hb e⟩
/-- what the head tells of the code objects and tables cs -/
structure CsAt (K : PySem.W.Frag) (h : Heap) (cs : Cs) : Prop where
  hT : ∀ p ∈ cs, h.get? p.2.1 = some { cls := .none, data := .fields #[] }
  nT : ∀ p ∈ cs, K.lookup p.2.1 = none
  C : ∀ p ∈ cs, PySem.W.CodeHd h p.1 p.2.1
  nq : ∀ p ∈ cs, p.2.2 ≠ "()"
theorem CsAt.nil {K : PySem.W.Frag} {h : Heap} : CsAt K h [] := ⟨fun _ z => (nomatch z), fun _ z => (nomatch z), fun _ z => (nomatch z), fun _ z => (nomatch z)⟩
theorem CsAt.cons {K : PySem.W.Frag} {h : Heap} {c P : Addr} {q : Str} {cs : Cs} (a : PySem.W.CodeHd h c P ∧ h.get? P = some (PySem.W.tabObj #[])) (n : K.lookup P = none) (nq : q ≠ "()") (r : CsAt K h cs) : CsAt K h ((c, P, q) :: cs) :=
  ⟨fun p hp => (List.mem_cons.mp hp).elim (fun e => by rw [e]; exact a.2) (r.hT p), fun p hp => (List.mem_cons.mp hp).elim (fun e => by rw [e]; exact n) (r.nT p), fun p hp => (List.mem_cons.mp hp).elim (fun e => by rw [e]; exact a.1) (r.C p), fun p hp => (List.mem_cons.mp hp).elim (fun e => by rw [e]; exact nq) (r.nq p)⟩
end QL

/-! QX: defs that are called by name; small laws. -/
namespace QL
open PySem PySem.Spec PyProof.Rows L2

theorem takes_no {Tq : List (Addr × Str)} {Z : Zb Tq} {X : Cx} : Takes X (wxOf Z fun _ _ => False) := fun u s' ⟨a, B, sI, pins, σ, H, cls, d, e, I, nb, up, sky, na, os, ag, F, O, env, ex, b, o, xa, q⟩ => q.elim
/-- a def of the module that may be called -/
structure Df (P : Program) (w : World) (K : PySem.W.Frag) (mg : Str → Option Value) (base : Heap) (Tq : List (Addr × Str)) (k : Nat) (x : Str) (ps : List Str) (sp : Spc) : Prop where
  ex : ∃ (f : Addr) (fd : FuncData), FnG P w K mg base Tq k f fd ps sp ∧ mg x = some (.ref f) ∧ PySem.W.keepIn K (.ref f) = true ∧ Binds K fd ps []
/-- the same, by the names ks, of which the places ns are the parameters in their order -/
structure Dk (P : Program) (w : World) (K : PySem.W.Frag) (mg : Str → Option Value) (base : Heap) (Tq : List (Addr × Str)) (k : Nat) (x : Str) (ps ks : List Str) (ns : List Nat) (sp : Spc) : Prop where
  ex : ∃ (f : Addr) (fd : FuncData), FnG P w K mg base Tq k f fd ps sp ∧ mg x = some (.ref f) ∧ PySem.W.keepIn K (.ref f) = true ∧ KwOk K fd ps ks ns
theorem Df.mono {P : Program} {w : World} {K : PySem.W.Frag} {mg : Str → Option Value} {base : Heap} {Tq : List (Addr × Str)} {j k : Nat} {x : Str} {ps : List Str} {sp : Spc} (G : Df P w K mg base Tq j x ps sp) (h : j ≤ k) : Df P w K mg base Tq k x ps sp :=
  let ⟨f, fd, g, r⟩ := G.ex; ⟨f, fd, g.mono h, r⟩
theorem Dk.mono {P : Program} {w : World} {K : PySem.W.Frag} {mg : Str → Option Value} {base : Heap} {Tq : List (Addr × Str)} {j k : Nat} {x : Str} {ps ks : List Str} {ns : List Nat} {sp : Spc} (G : Dk P w K mg base Tq j x ps ks ns sp) (h : j ≤ k) : Dk P w K mg base Tq k x ps ks ns sp :=
  let ⟨f, fd, g, r⟩ := G.ex; ⟨f, fd, g.mono h, r⟩
section
variable {Tq : List (Addr × Str)} {Z : Zb Tq} {X : Cx} {e : Expr} {es : List Expr} {env : Env} {pos p : Pos} {P : R → Env → Prop} {k : Nat} {x : Str} {ps ks : List Str} {ns : List Nat} {sp : Spc} {kws : List Keyword}
theorem w_fn (G : Df X.prog X.w X.K X.mg X.base Tq k x ps sp) (hr : Room k X.A) (hgd : X.A.guards = some []) (h : WAs Z X (e :: es) env fun as e1 => callD sp as e1 (fun t e => P (.t t) e) fun _ _ => False)
    (hg : Gl X x := by rfl) (hdb : (x == ("__debug__" : Str)) = false := by decide) (he : starEach (e :: es) X.env = (false, eval e X.env) :: starEach es X.env := by rfl) (hpl : (backTo pos (starEach es X.env)).any (·.1) = false := by rfl) :
    WE Z X (.Call (.Name x p) (e :: es) [] pos) env P := by
  obtain ⟨f, fd, g, hm, hk, hb⟩ := G.ex
  refine w_call (dds := []) (vds := []) g hr hgd takes_no hm hk hb .nil (fun _ => .nil) ?_ hg hdb he hpl
  simpa only [vaAll, List.map_nil, List.append_nil] using h
end
/-! ### lists of ints -/
abbrev iDs (ns : List Int) : List D := ns.map PyData.int
theorem small2000 {n : Nat} (h : n ≤ 2000) : n < sizeLine := Nat.lt_of_le_of_lt h (by decide)
theorem atI_last' {α : Type} {xs : List α} {z : α} (h : xs.getLast? = some z) : atI xs (-1) = some z := by
  obtain ⟨ys, rfl⟩ := List.getLast?_eq_some_iff.mp h
  exact atI_last ys z
theorem atI_map {α β : Type} (f : α → β) {xs : List α} {i : Int} {x : α} (h : atI xs i = some x) : atI (xs.map f) i = some (f x) := by
  unfold atI at h ⊢
  rw [List.length_map]
  cases hn : ixN xs.length i with
  | none => rw [hn] at h; cases h
  | some k =>
    rw [hn] at h
    have h : xs[k]? = some x := h
    show (xs.map f)[k]? = some (f x)
    rw [List.getElem?_map, h]
    rfl
theorem cutD_map {α : Type} (f : α → D) (xs : List α) (lo hi : Option Int) : cutD (xs.map f) lo hi = ((xs.drop (HT.sIx xs.length 0 lo)).take (HT.sIx xs.length xs.length hi - HT.sIx xs.length 0 lo)).map f := by
  unfold cutD
  rw [List.length_map, List.map_take, List.map_drop]
theorem cut_dropLast {α : Type} (f : α → D) (xs : List α) : cutD (xs.map f) none (some (-1)) = xs.dropLast.map f := by
  rw [cutD_map]
  have h1 : HT.sIx xs.length 0 none = 0 := rfl
  have h2 : HT.sIx xs.length xs.length (some (-1)) = xs.length - 1 := by
    unfold HT.sIx
    simp only
    rw [if_pos (by decide)]
    omega
  rw [h1, h2, List.drop_zero, Nat.sub_zero, List.dropLast_eq_take]
theorem room64 {k : Nat} {A : Around} (hr : Room k A) : A.units + 64 < cLine := by have := hr.un; omega
theorem room110 {k : Nat} {A : Around} (hr : Room k A) : A.units + 110 < cLine := by have := hr.un; omega
theorem rangeD_len (lo : Int) (n : Nat) : (rangeD lo n).length = n := by unfold rangeD; rw [List.length_map, List.length_range]
theorem rangeD_at {lo : Int} {n j : Nat} {d : D} (h : (rangeD lo n)[j]? = some d) : d = .int (lo + j) ∧ j < n := by
  unfold rangeD at h
  rw [List.getElem?_map, Option.map_eq_some_iff] at h
  obtain ⟨k, hk, e⟩ := h
  have hj : j < n := by
    have := (List.getElem?_eq_some_iff.mp hk).1
    simpa using this
  rw [List.getElem?_range hj] at hk
  cases hk
  exact ⟨e.symm, hj⟩
end QL

/-! QK: own classes: fields read and stored, methods called, instances made. -/
namespace QL
open PySem PySem.Spec PyProof.Rows L2

def putT (f : Str) (u : T) : List (Str × T) → List (Str × T)
  | [] => [(f, u)]
  | (g, t) :: r => if g = f then (g, u) :: r else (g, t) :: putT f u r
theorem OwF.put {F H : Hp} {f : Str} {u : T} {w : V} {Ou : List Addr} (hu : Ow F H Ou w u) : ∀ {fs : List (Str × T)} {vs : List (Str × V)} {O : List Addr}, OwF F H O vs fs → ∃ O' Od, OwF F H O' (putF f w vs) (putT f u fs) ∧ (O ++ Ou).Perm (O' ++ Od)
  | [], _, _, .nil => ⟨Ou ++ [], [], .cons hu .nil, by rw [List.append_nil, List.append_nil]; exact List.Perm.refl _⟩
  | (n, t) :: fs, _, _, .cons (O1 := O1) (O2 := O2) h r => by
    by_cases e : n = f
    · refine ⟨Ou ++ O2, O1, ?_, ?_⟩
      · show OwF F H _ (if n = f then _ else _) (if n = f then _ else _)
        rw [if_pos e, if_pos e]
        exact .cons hu r
      · rw [List.append_assoc]
        refine List.perm_append_comm.trans ?_
        exact (List.perm_append_comm (l₁ := O2)).append_right O1
    · obtain ⟨O', Od, q, p⟩ := OwF.put (f := f) hu r
      refine ⟨O1 ++ O', Od, ?_, ?_⟩
      · show OwF F H _ (if n = f then _ else _) (if n = f then _ else _)
        rw [if_neg e, if_neg e]
        exact .cons h q
      · rw [List.append_assoc, List.append_assoc]
        exact p.append_left O1
theorem OwF.len {F H : Hp} : ∀ {fs : List (Str × T)} {vs : List (Str × V)} {O : List Addr}, OwF F H O vs fs → vs.length = fs.length
  | _, _, _, .nil => rfl
  | _, _, _, .cons _ r => congrArg (· + 1) r.len
theorem OwF.look {F H : Hp} {f : Str} : ∀ {fs : List (Str × T)} {vs : List (Str × V)} {O : List Addr}, OwF F H O vs fs → (fs.lookup f = none ∧ vs.lookup f = none) ∨ ∃ t w O', fs.lookup f = some t ∧ vs.lookup f = some w ∧ Ow F H O' w t
  | _, _, _, .nil => .inl ⟨rfl, rfl⟩
  | (n, t) :: fs, (_, v) :: vs, _, .cons h r => by
    rw [List.lookup_cons, List.lookup_cons]
    cases hb : f == n with
    | true => exact .inr ⟨_, _, _, rfl, rfl, h⟩
    | false => exact r.look

/-! ### o.f -/
def fldR (K : PySem.W.Frag) (r : R) (f : Str) (env : Env) (k : R → Prop) : Prop := match r with
  | .bor a i p => match getP i p env with
    | some (.ins a' C fs) => a' = a ∧ (Cls K C ∧ NoAttr K C f) ∧ (match fs.lookup f with
      | some (.va d) => k (.t (.va d))
      | some t => match t.addr with
        | some b => k (.bor b i (p ++ [f]))
        | none => False
      | none => False)
    | _ => False
  | _ => False
section
variable {Tq : List (Addr × Str)} {Z : Zb Tq} {X : Cx} {e a b c o value : Expr} {es : List Expr} {env : Env} {pos pos' apos p : Pos} {P : R → Env → Prop} {PO : Out → Prop} {f x m : Str}
theorem w_fld (h : WE Z X o env fun r e1 => fldR X.K r f e1 fun r2 => P r2 e1) (hb : attributeBase o f X.env (eval o X.env) = eval o X.env := by rfl) : WE Z X (.Attribute o f pos) env P :=
  we_of (pe_fld (pe_E (Z := Z)) hb) fun σ H F O b0 o0 => ⟨env, F, O, _, b0, o0, h, fun v H1 ⟨F1, O1, r, e1, b1, st, fr, q⟩ => by
    cases r with
    | t t => exact q.elim
    | bor a i p =>
      obtain ⟨o1, rfl⟩ := st
      unfold fldR at q
      simp only at q
      split at q
      · rename_i a' C fs hg
        obtain ⟨rfl, ⟨c, n⟩, q⟩ := q
        obtain ⟨w, ⟨Oj, O', h1, h2, h3⟩, _⟩ := o1.focus hg
        cases h1 with
        | ins h1 hd r =>
          rcases r.look (f := f) with ⟨k1, k2⟩ | ⟨t, w, Ot, k1, k2, hw⟩
          · rw [k1] at q; exact q.elim
          · refine ⟨_, _, _, _, w, rfl, h1, c, n, k2, ?_⟩
            rw [k1] at q
            cases t with
            | va d =>
              cases hw with
              | va r => exact ⟨F1, O1, .t (.va d), _, b1, ⟨O1, [], (List.append_nil O1).symm, o1, .va r⟩, fr, q⟩
            | lst a ds => exact ⟨F1, O1, .bor _ _ _, _, b1, ⟨o1, hw.ref rfl⟩, fr, q⟩
            | dic a ds => exact ⟨F1, O1, .bor _ _ _, _, b1, ⟨o1, hw.ref rfl⟩, fr, q⟩
            | fdc a ds => exact ⟨F1, O1, .bor _ _ _, _, b1, ⟨o1, hw.ref rfl⟩, fr, q⟩
            | ins a C fs => exact ⟨F1, O1, .bor _ _ _, _, b1, ⟨o1, hw.ref rfl⟩, fr, q⟩
            | hole a => exact ⟨F1, O1, .bor _ _ _, _, b1, ⟨o1, hw.ref rfl⟩, fr, q⟩
            | ob a φ =>
              cases a with
              | none => exact q.elim
              | some a => exact ⟨F1, O1, .bor _ _ _, _, b1, ⟨o1, hw.ref rfl⟩, fr, q⟩
      · exact q.elim⟩

/-! ### x.f = e, x a name -/
def putFR (K : PySem.W.Frag) (t : T) (i : Nat) (f : Str) (e : Env) (k : Env → Prop) : Prop := match e[i]? with
  | some (some (.ins a C fs)) => (Cls K C ∧ NoAttr K C f ∧ fs.length < 1000) ∧ k (e.set i (some (.ins a C (putT f t fs))))
  | _ => False
def setFR (K : PySem.W.Frag) (r : R) (i : Nat) (f : Str) (e : Env) (k : Env → Prop) : Prop := match r with
  | .t t => putFR K t i f e k
  | .bor a j p => absorb [.bor a j p] e fun ds e' => match ds with
    | [d] => putFR K (.va d) i f e' k
    | _ => False
theorem mutI {F H : Hp} {O1 O2 : List Addr} {σ : L2.St} {env : Env} {i : Nat} {a C : Addr} {fs : List (Str × T)} {v : V} {t : T} {f : Str} (b : Bas Z F H (O1 ++ O2)) (o : OwE F H O1 σ env) (hi : env[i]? = some (some (.ins a C fs))) (w : Ow F H O2 v t) :
    ∃ dx vs, σ[i]? = some (some (.ref a)) ∧ H a = some (.ins C dx vs) ∧ vs.length = fs.length ∧ ∃ O', Bas Z F (upd H a (.ins C dx (putF f v vs))) O' ∧ OwE F (upd H a (.ins C dx (putF f v vs))) O' σ (env.set i (some (.ins a C (putT f t fs)))) ∧ Frm Tq H F (O1 ++ O2) (upd H a (.ins C dx (putF f v vs))) F O' := by
  obtain ⟨w0, hw, Oj, Or, h1, h2, h3⟩ := o.focusI hi
  cases h1 with
  | ins ha hd r =>
    rename_i dx vs Of
    refine ⟨dx, vs, hw, ha, r.len, ?_⟩
    obtain ⟨Of', Od, r', pm⟩ := r.put (f := f) w
    have nd0 : ((a :: dx :: Of) ++ Or ++ O2).Nodup := (h2.append_right O2).nodup b.nd
    have pm1 : ((a :: dx :: Of) ++ Or ++ O2).Perm ((a :: dx :: Of') ++ Or ++ Od) := by
      have e1 : (Of ++ Or ++ O2).Perm (Of' ++ Or ++ Od) := by
        have e2 : (Of ++ Or ++ O2).Perm ((Of ++ O2) ++ Or) := by
          rw [List.append_assoc, List.append_assoc]
          exact List.perm_append_comm.append_left Of
        have e3 : (Of' ++ Or ++ Od).Perm ((Of' ++ Od) ++ Or) := by
          rw [List.append_assoc, List.append_assoc]
          exact List.perm_append_comm.append_left Of'
        exact e2.trans ((pm.append_right Or).trans e3.symm)
      exact (e1.cons dx).cons a
    have nd1 := pm1.nodup nd0
    have na : ∀ c, c ∈ dx :: (Of' ++ Or ++ Od) → c ≠ a := fun c hc z => by
      subst z
      exact (List.nodup_cons.mp nd1).1 hc
    have ex : ∀ c ∈ O1 ++ O2, H c ≠ none := fun c hc => (List.mem_append.mp hc).elim (o.there c) (w.there c)
    have keep : ∀ c, c ≠ a → upd H a (.ins C dx (putF f v vs)) c = H c := fun c hc => upd_ne hc
    have hOf : ∀ c ∈ Of', upd H a (.ins C dx (putF f v vs)) c = H c := fun c hc => keep c (na c (List.mem_cons_of_mem _ (List.mem_append_left _ (List.mem_append_left _ hc))))
    have ow : Ow F (upd H a (.ins C dx (putF f v vs))) (a :: dx :: Of') (.ref a) (.ins a C (putT f t fs)) :=
      .ins upd_same ((keep dx (na dx List.mem_cons_self)).trans hd) (r'.stay (Same.refl _) hOf)
    obtain ⟨O'', q1, q2⟩ := h3 F (upd H a (.ins C dx (putF f v vs))) _ _ (Same.refl _) (fun c hc => keep c (na c (List.mem_cons_of_mem _ (List.mem_append_left _ (List.mem_append_right _ hc))))) ow
    have pm2 : (O1 ++ O2).Perm (O'' ++ Od) := (h2.append_right O2).trans (pm1.trans (q2.symm.append_right Od))
    have ha' : a ∈ O1 ++ O2 := List.mem_append_left _ (h2.mem_iff.mpr (List.mem_append_left _ List.mem_cons_self))
    have da := b.dis a ha'
    have fr : Frm Tq H F (O1 ++ O2) (upd H a (.ins C dx (putF f v vs))) F O'' := ⟨Same.refl _, fun c y e _ n => by rw [upd_ne fun z => n (by rw [z]; exact ha')]; exact e, fun c e => by
      by_cases z : c = a
      · subst z; rw [upd_same]; exact fun z => nomatch z
      · rw [upd_ne z]; exact e, fun c e => .inl e, fun c hc => .inl (pm2.mem_iff.mpr (List.mem_append_left _ hc)), tab_own ha⟩
    refine ⟨O'', ⟨fun c y e => ?_, (List.nodup_append.mp (pm2.nodup b.nd)).1, fun c hc => b.dis c (pm2.mem_iff.mpr (List.mem_append_left _ hc)), b.abs.trans fr⟩, q1, fr⟩
    rw [upd_ne fun z => by rw [z, da] at e; cases e]
    exact b.sub c y e
theorem ws_fld (i : Nat) (h : WE Z X value env fun r e1 => setFR X.K r i f e1 fun e2 => PO (.nx e2)) (hN : X.N[i]? = some x := by rfl) (hv : Vis X.env.scope x := by first | exact Or.inl rfl | exact Or.inr (Or.inl rfl) | exact Or.inr (Or.inr rfl))
    (hd : (x == ("__debug__" : Str)) = false := by decide) (hcd : (x == ("__classdict__" : Str)) = false := by decide) (hs : swapsWith value (some (.Attribute (.Name x p) f pos')) pos.line X.env = pure false := by rfl) : WS Z X (.Assign [.Attribute (.Name x p) f pos'] value pos) env PO :=
  ws_of (ps_fld (pe_var (i := i) hN hv hd hcd) (pe_E (Z := Z)) hs) fun σ H F O b o => ⟨env, F, O, _, b, o, h, fun v H1 ⟨F1, O1, r, e1, b1, st, fr, q⟩ => by
    have fin : ∀ {F2 : Hp} {Oa Ob : List Addr} {t : T} {e2 : Env}, Bas Z F2 H1 (Oa ++ Ob) → OwE F2 H1 Oa σ e2 → Ow F2 H1 Ob v t → Frm Tq H F O H1 F2 (Oa ++ Ob) → putFR X.K t i f e2 (fun e3 => PO (.nx e3)) →
        tVar i σ H1 (fun x H2 => ∃ a C dx fs, x = .ref a ∧ H2 a = some (.ins C dx fs) ∧ Cls X.K C ∧ NoAttr X.K C f ∧ fs.length < 1000 ∧ (endsOf Z H F O PO).nx σ (upd H2 a (.ins C dx (putF f v fs)))) := fun {F2 Oa Ob t e2} b2 o2 w2 fr2 q2 => by
      unfold putFR at q2
      split at q2
      · rename_i a C fs hi
        obtain ⟨⟨c, n, l⟩, q2⟩ := q2
        obtain ⟨dx, vs, hσ, ha, hl, O', b3, o3, fr3⟩ := mutI (f := f) b2 o2 hi w2
        exact ⟨_, hσ, a, C, dx, vs, rfl, ha, c, n, by rw [hl]; exact l, F2, O', _, b3, o3, fr2.trans fr3, q2⟩
      · exact q2.elim
    cases r with
    | t t =>
      obtain ⟨Oa, Ob, rfl, o1, w1⟩ := st
      exact fin b1 o1 w1 fr q
    | bor a j p =>
      obtain ⟨o1, rfl⟩ := st
      unfold setFR at q
      simp only at q
      obtain ⟨F2, O2, ds, e2, b2, o2, r2, fr2, q2⟩ := absorb_ok (.cons (a := .bor a j p) rfl .nil) b1 o1 q
      cases r2 with
      | cons r2 rn =>
        cases rn
        exact fin (Ob := []) (by rw [List.append_nil]; exact b2) o2 (.va r2) (by rw [List.append_nil]; exact fr.trans fr2) q2⟩
end
end QL

/-! QM: methods called, instances made. -/
namespace QL
open PySem PySem.Spec PyProof.Rows L2
/-- a method as a promise -/
structure Mf (P : Program) (w : World) (K : PySem.W.Frag) (mg : Str → Option Value) (base : Heap) (Tq : List (Addr × Str)) (k : Nat) (C : Addr) (m : Str) (ps : List Str) (sp : Spc) : Prop where
  ex : ∃ f fd, FnG P w K mg base Tq k f fd ps sp ∧ Cls K C ∧ Meth K C m f ∧ Binds K fd ps []
theorem Mf.mono {P : Program} {w : World} {K : PySem.W.Frag} {mg : Str → Option Value} {base : Heap} {Tq : List (Addr × Str)} {j k : Nat} {C : Addr} {m : Str} {ps : List Str} {sp : Spc} (G : Mf P w K mg base Tq j C m ps sp) (h : j ≤ k) : Mf P w K mg base Tq k C m ps sp :=
  let ⟨f, fd, g, r⟩ := G.ex; ⟨f, fd, g.mono h, r⟩
/-- a class that is made by its own __init__ -/
structure Ck (P : Program) (w : World) (K : PySem.W.Frag) (mg : Str → Option Value) (base : Heap) (Tq : List (Addr × Str)) (k : Nat) (x : Str) (C : Addr) (ps : List Str) (sp : Spc) : Prop where
  ex : ∃ f fd, FnG P w K mg base Tq k f fd ps sp ∧ Mk K C f ∧ mg x = some (.ref C) ∧ Binds K fd ps []
theorem Ck.mono {P : Program} {w : World} {K : PySem.W.Frag} {mg : Str → Option Value} {base : Heap} {Tq : List (Addr × Str)} {j k : Nat} {x : Str} {C : Addr} {ps : List Str} {sp : Spc} (G : Ck P w K mg base Tq j x C ps sp) (h : j ≤ k) : Ck P w K mg base Tq k x C ps sp :=
  let ⟨f, fd, g, r⟩ := G.ex; ⟨f, fd, g.mono h, r⟩
section
variable {Tq : List (Addr × Str)} {Z : Zb Tq} {X : Cx} {e a b c o value : Expr} {es : List Expr} {env : Env} {pos pos' apos p : Pos} {P : R → Env → Prop} {f x m : Str} {k : Nat} {C : Addr} {ps : List Str} {sp : Spc}
/-- o.m(..), with what is wanted of an error -/
def methR {Tq : List (Addr × Str)} (as : List Expr) (Z : Zb Tq) (X : Cx) (C : Addr) (m : Str) (r : R) (e1 : Env) (k : List A → Env → Prop) : Prop := match r with
  | .bor a i p => match getP i p e1 with
    | some (.ins a' C' fs) => (a' = a ∧ C' = C ∧ fs.lookup m = none) ∧ WAs Z X as e1 fun as' e2 => k (.bor a i p :: as') e2
    | _ => False
  | _ => False
theorem methR_ok {σ : L2.St} {F H : Hp} {O : List Addr} {v : V} {r : R} {e1 : Env} {kk : List A → Env → Prop} (st : StR F H O σ e1 v r) (h : methR es Z X C m r e1 kk) :
    ∃ a i p dx vs, v = .ref a ∧ r = .bor a i p ∧ H a = some (.ins C dx vs) ∧ vs.lookup m = none ∧ OwE F H O σ e1 ∧ WAs Z X es e1 fun as' e2 => kk (.bor a i p :: as') e2 := by
  cases r with
  | t t => exact h.elim
  | bor a i p =>
    obtain ⟨o1, rfl⟩ := st
    unfold methR at h
    simp only at h
    split at h
    · rename_i a' C' fs hg
      obtain ⟨⟨rfl, rfl, hm⟩, h⟩ := h
      obtain ⟨w, ⟨Oj, O', h1, h2, h3⟩, _⟩ := o1.focus hg
      cases h1 with
      | ins ha hd rr =>
        refine ⟨_, i, p, _, _, rfl, rfl, ha, ?_, o1, h⟩
        rcases rr.look (f := m) with ⟨_, e2⟩ | ⟨t, w, Ot, e2, _, _⟩
        · exact e2
        · rw [hm] at e2; cases e2
    · exact h.elim
theorem w_methX {ET : Ex → Env → Prop} {pl : Sem Bool} (G : Mf X.prog X.w X.K X.mg X.base Tq k C m ps sp) (hr : Room k X.A) (hgd : X.A.guards = some []) (tk : Takes X (wxOf Z ET))
    (h : WE Z X o env fun r e1 => methR (e :: es) Z X C m r e1 fun as e2 => callD sp as e2 (fun t e => P (.t t) e) ET)
    (hst : starEach (e :: es) X.env = (false, eval e X.env) :: starEach es X.env := by rfl) (hpl : (backTo pos (starEach es X.env)).any (·.1) = false := by rfl)
    (ht : eval (.Call (.Attribute o m apos) (e :: es) [] pos) X.env = (do
      let ov ← eval o X.env
      standAt apos.atName
      let (f, first) ← holding [ov] (getMethod ov m pl)
      callWith pos f first (backTo pos (starEach (e :: es) X.env)) (backToKw pos (keywordEach [] X.env))) := by rfl) :
    WE Z X (.Call (.Attribute o m apos) (e :: es) [] pos) env P := fun pins s σ H F O I b o0 => by
  obtain ⟨f, fd, g, c, hm, hb⟩ := G.ex
  refine PySem.W.methodCall_KW (pl := pl) (thn (h pins s σ H F O I b o0) fun u s1 ⟨v, H1, I1, rx, F1, O1, r, e1, b1, st, fr, q⟩ => ?_) ht
  obtain ⟨a, i, p, dx, vs, rfl, rfl, ha, hl, o1, q⟩ := methR_ok st q
  obtain rfl : u = Value.ref a := rx
  refine getmeth_ok I1 ha c hm hl ?_
  refine PySem.W.callWith_K (first := [.ref a]) (h₀ := X.base) I1.ok.mod.kin hm.kp (thn ((pa_As (Z := Z)).run pos pins s1 σ H1 (PostAs Z σ H1 F1 O1 _) I1 ⟨e1, F1, O1, _, b1, o1, q, fun _ _ q => q⟩) fun us s2 ⟨vs2, H2, I2, r2, F2, O2, as, e2, b2, o2, st2, fr2, q2⟩ => ⟨I2.kIn, ?_⟩) hst hpl
  have hl2 : (Value.ref a :: us ++ []).length = ps.length := by
    obtain ⟨ts, e3, Oc, Or, pm, sv, o3, hh⟩ := deref_ok (as := .bor a i p :: as) (vs := .ref a :: vs2) (.cons rfl st2) o2 q2
    rw [← g.len _ _ _ hh, ← sv.len, List.append_nil]
    show us.length + 1 = vs2.length + 1
    rw [← r2.length]
  have hb2 := hb s2 (Value.ref a :: us) I2.kIn hl2
  rw [List.append_nil] at hb2
  exact thn (call_g (us0 := .ref a :: us) (kw := []) (us := .ref a :: us) (vs := .ref a :: vs2) (as := .bor a i p :: as) g hr hgd tk hb2 I2 b2 o2 (.cons rfl st2) (.cons rfl r2) q2) (EP.imp fun v H' q => q.from (fr.trans fr2))
theorem w_methX0 {ET : Ex → Env → Prop} {pl : Sem Bool} (G : Mf X.prog X.w X.K X.mg X.base Tq k C m ps sp) (hr : Room k X.A) (hgd : X.A.guards = some []) (tk : Takes X (wxOf Z ET))
    (h : WE Z X o env fun r e1 => methR [] Z X C m r e1 fun as e2 => callD sp as e2 (fun t e => P (.t t) e) ET)
    (ht : eval (.Call (.Attribute o m apos) [] [] pos) X.env = (do
      let ov ← eval o X.env
      standAt apos.atName
      let (f, first) ← holding [ov] (getMethod ov m pl)
      callWith pos f first (backTo pos (starEach [] X.env)) (backToKw pos (keywordEach [] X.env))) := by rfl) :
    WE Z X (.Call (.Attribute o m apos) [] [] pos) env P := fun pins s σ H F O I b o0 => by
  obtain ⟨f, fd, g, c, hm, hb⟩ := G.ex
  refine PySem.W.methodCall_KW (pl := pl) (thn (h pins s σ H F O I b o0) fun u s1 ⟨v, H1, I1, rx, F1, O1, r, e1, b1, st, fr, q⟩ => ?_) ht
  obtain ⟨a, i, p, dx, vs, rfl, rfl, ha, hl, o1, q⟩ := methR_ok st q
  obtain rfl : u = Value.ref a := rx
  refine getmeth_ok I1 ha c hm hl ?_
  replace q : callD sp [.bor a i p] e1 (fun t e => P (R.t t) e) ET := q
  have hl2 : ([Value.ref a] ++ []).length = ps.length := by
    obtain ⟨ts, e3, Oc, Or, pm, sv, o3, hh⟩ := deref_ok (as := [.bor a i p]) (vs := [.ref a]) (.cons rfl .nil) o1 q
    rw [← g.len _ _ _ hh, ← sv.len]
    rfl
  have hb2 := hb s1 [Value.ref a] I1.kIn hl2
  rw [List.append_nil] at hb2
  exact PySem.W.callWith_K0 (first := [.ref a]) I1.kIn hm.kp (thn (call_g (us0 := [.ref a]) (kw := []) (us := [.ref a]) (vs := [.ref a]) (as := [.bor a i p]) g hr hgd tk hb2 I1 b1 o1 (.cons rfl .nil) (.cons rfl .nil) q) (EP.imp fun v H' q => q.from fr))
theorem w_meth {pl : Sem Bool} (G : Mf X.prog X.w X.K X.mg X.base Tq k C m ps sp) (hr : Room k X.A) (hgd : X.A.guards = some [])
    (h : WE Z X o env fun r e1 => methR (e :: es) Z X C m r e1 fun as e2 => callD sp as e2 (fun t e => P (.t t) e) fun _ _ => False)
    (hst : starEach (e :: es) X.env = (false, eval e X.env) :: starEach es X.env := by rfl) (hpl : (backTo pos (starEach es X.env)).any (·.1) = false := by rfl)
    (ht : eval (.Call (.Attribute o m apos) (e :: es) [] pos) X.env = (do
      let ov ← eval o X.env
      standAt apos.atName
      let (f, first) ← holding [ov] (getMethod ov m pl)
      callWith pos f first (backTo pos (starEach (e :: es) X.env)) (backToKw pos (keywordEach [] X.env))) := by rfl) :
    WE Z X (.Call (.Attribute o m apos) (e :: es) [] pos) env P := w_methX (pl := pl) G hr hgd takes_no h hst hpl ht
theorem w_meth0 {pl : Sem Bool} (G : Mf X.prog X.w X.K X.mg X.base Tq k C m ps sp) (hr : Room k X.A) (hgd : X.A.guards = some [])
    (h : WE Z X o env fun r e1 => methR [] Z X C m r e1 fun as e2 => callD sp as e2 (fun t e => P (.t t) e) fun _ _ => False)
    (ht : eval (.Call (.Attribute o m apos) [] [] pos) X.env = (do
      let ov ← eval o X.env
      standAt apos.atName
      let (f, first) ← holding [ov] (getMethod ov m pl)
      callWith pos f first (backTo pos (starEach [] X.env)) (backToKw pos (keywordEach [] X.env))) := by rfl) :
    WE Z X (.Call (.Attribute o m apos) [] [] pos) env P := w_methX0 (pl := pl) G hr hgd takes_no h ht

/-! ### C(..) -/
def callN (sp : Spc) (C : Addr) (as : List A) (env : Env) (PT : T → Env → Prop) (ET : Ex → Env → Prop) : Prop :=
  ∀ a, deref as env fun ts e2 => sp (.ins a C [] :: ts) (fun t ts' => t = .va .none ∧ match ts' with
      | some u :: ts'' => u.addr = some a ∧ putb as ts'' e2 fun e3 => PT u e3
      | _ => False)
    (fun ex ts' => match ts' with
      | _ :: ts'' => putb as ts'' e2 fun e3 => ET ex e3
      | [] => False)
theorem guards_make {A : Around} {C : Addr} {us : List Value} {kw : List (Str × Value)} (h : A.guards = some []) : (A.under (.builtin "type.__call__" ⟨.ref C :: us, kw⟩)).guards = some [] := by
  first | exact h | (simp [Around.under, Code.weight, Code.isCreation, Code.isGuard, Code.isCaller, Code.frames, Code.isFrame, guardIds, h])
theorem make_gx {fI : Addr} {fd : FuncData} {ET : Ex → Env → Prop} {as : List A} {vs : List V} {us us0 : List Value} {pins : List (Addr × Obj)} {s : Shared} {σ : L2.St} {H F : Hp} {O : List Addr}
    (M : Mk X.K C fI) (G : FnG X.prog X.w X.K X.mg X.base Tq k fI fd ps sp) (hr : Room (k + 1) X.A) (hg : X.A.guards = some []) (tk : Takes X (wxOf Z ET)) (hb : ∀ (s : Shared) (u : Value), X.K.In s.heap → (u :: us).length = ps.length → BindsTo s fd ⟨u :: us0, []⟩ (ps.zip (u :: us))) (I : Inv X pins σ H s) (b : Bas Z F H O) (o : OwE F H O σ env)
    (st : StAs F vs as) (r : Vals vs us) (h : callN sp C as env (fun t e => P (.t t) e) ET) : wpAny (model X.prog X.w) X.A (call (.ref C) us0) (EP X pins σ (Post Z σ H F O P)) X.xe s := by
  have nx : H (s.heap.objs.size + 1) = none := I.hok.fresh (Nat.le_succ _)
  have ndx : H s.heap.objs.size = none := I.hok.fresh (Nat.le_refl _)
  have nex : s.heap.objs.size ≠ s.heap.objs.size + 1 := Nat.ne_of_lt (Nat.lt_succ_self _)
  have h := h (s.heap.objs.size + 1)
  have I2 := Inv.made (C := C) I
  generalize eH : upd (upd H s.heap.objs.size (.own (s.heap.objs.size + 1))) (s.heap.objs.size + 1) (.ins C s.heap.objs.size []) = H2 at I2
  have h2x : H2 (s.heap.objs.size + 1) = some (.ins C s.heap.objs.size []) := by rw [← eH, upd_same]
  have h2d : H2 s.heap.objs.size = some (.own (s.heap.objs.size + 1)) := by rw [← eH, upd_ne nex, upd_same]
  have s2 : Same H H2 := fun c y e => by rw [← eH, upd_ne (ne_of_none e nx), upd_ne (ne_of_none e ndx)]; exact e
  obtain ⟨ts, e2, Oc, Or, pm, sv, o2, h⟩ := deref_ok st o h
  have ex : ∀ c ∈ Or, Held H c := o2.held
  have exc : ∀ c ∈ Oc, Held H c := fun c hc => o.held c (pm.mem_iff.mpr (List.mem_append_left _ hc))
  have keep2 : ∀ c, H c ≠ none → H2 c = H c := fun c hc => by
    cases q : H c with
    | none => exact absurd q hc
    | some y => exact s2 c y q
  -- the new instance beside the arguments
  have Fx : F (s.heap.objs.size + 1) = none := b.sub.free nx
  have Fd : F s.heap.objs.size = none := b.sub.free ndx
  have fr0 : Frm Tq H F O H2 F (O ++ [s.heap.objs.size + 1, s.heap.objs.size]) := ⟨Same.refl _, fun c y e _ _ => s2 c y e, fun c e => by rw [keep2 c e]; exact e, fun c e => .inl e, fun c hc => by
    rcases List.mem_append.mp hc with z | z
    · exact .inl z
    · rcases List.mem_cons.mp z with rfl | z
      · exact .inr nx
      · rw [List.mem_singleton.mp z]; exact .inr ndx, tab_same s2⟩
  have b0 : Bas Z F H2 (O ++ [s.heap.objs.size + 1, s.heap.objs.size]) := ⟨b.sub.trans s2, List.nodup_append.mpr ⟨b.nd, List.nodup_cons.mpr ⟨fun z => nex (List.mem_singleton.mp z).symm, List.nodup_cons.mpr ⟨fun z => (nomatch z), List.nodup_nil⟩⟩, fun c hc d hd z => by
      subst z
      have := o.there c hc
      rcases List.mem_cons.mp hd with z | z
      · exact this (z ▸ nx)
      · exact this ((List.mem_singleton.mp z) ▸ ndx)⟩, fun c hc => by
      rcases List.mem_append.mp hc with z | z
      · exact b.dis c z
      · rcases List.mem_cons.mp z with rfl | z
        · exact Fx
        · rw [List.mem_singleton.mp z]; exact Fd, b.abs.trans fr0⟩
  have pm2 : (O ++ [s.heap.objs.size + 1, s.heap.objs.size]).Perm (((s.heap.objs.size + 1) :: s.heap.objs.size :: Oc) ++ Or) := (List.perm_append_comm (l₁ := O)).trans ((pm.cons s.heap.objs.size).cons (s.heap.objs.size + 1))
  have bc := (b0.perm pm2).left.entry
  have sv2 : StV F H2 ((s.heap.objs.size + 1) :: s.heap.objs.size :: Oc) (.ref (s.heap.objs.size + 1) :: vs) (.ins (s.heap.objs.size + 1) C [] :: ts) := by
    have w0 : Ow F H2 [s.heap.objs.size + 1, s.heap.objs.size] (.ref (s.heap.objs.size + 1)) (.ins (s.heap.objs.size + 1) C []) := .ins h2x h2d .nil
    have svs : StV F H2 Oc vs ts := by
      have key : ∀ {Oc : List Addr} {vs : List V} {ts : List T}, StV F H Oc vs ts → (∀ c ∈ Oc, H2 c = H c) → StV F H2 Oc vs ts := fun {Oc vs ts} z => by
        induction z with
        | nil => intro _; exact .nil
        | cons w r ih => intro kk; exact .cons (w.stay (Same.refl _) fun c hc => kk c (List.mem_append_left _ hc)) (ih fun c hc => kk c (List.mem_append_right _ hc))
      exact key sv fun c hc => keep2 c (exc c hc).ne
    exact .cons w0 svs
  have r2 : Vals (V.ref (s.heap.objs.size + 1) :: vs) (Value.ref (s.heap.objs.size + 1) :: us) := .cons rfl r
  have hl : (Value.ref (s.heap.objs.size + 1) :: us).length = ps.length := by
    rw [← r2.length, sv2.len, G.len _ _ _ h]
  have ex2 : ∀ c ∈ Or, Held H2 c := fun c hc => let ⟨y, e, n⟩ := ex c hc; ⟨y, s2 c y e, n⟩
  refine wpAny_call (make_map (f := fI) I.kIn M.makes M.init (beq_iff_eq.mp M.fn) ?_)
  have hb2 := hb _ (Value.ref (s.heap.objs.size + 1)) I2.kIn hl
  have run := G.run (X.A.under (.builtin "type.__call__" ⟨.ref C :: us0, []⟩)) X.stack _ H2 ⟨Value.ref (s.heap.objs.size + 1) :: us0, []⟩ (Value.ref (s.heap.objs.size + 1) :: us) (V.ref (s.heap.objs.size + 1) :: vs) F ((s.heap.objs.size + 1) :: s.heap.objs.size :: Oc) (.ins (s.heap.objs.size + 1) C [] :: ts) _ _
    (fun cls d H' => ∃ e ts' F' O', Bas ⟨H2, F, (s.heap.objs.size + 1) :: s.heap.objs.size :: Oc, (b0.perm pm2).left.tabs⟩ F' H' O' ∧ StVO F' H' O' (.ref (s.heap.objs.size + 1) :: vs) ts' ∧ ExAt F' e cls d ∧ (match ts' with | _ :: ts'' => putb as ts'' e2 fun e3 => ET e e3 | [] => False)) (b0.perm pm2).left.tabs (hr.make C us0 []) (guards_make hg) (I2.env0.make C us0 []) hb2 r2 bc sv2 h
    fun e ts' cls d H' F' O' b' s' x' q => ⟨e, ts', F', O', b', s', x', q⟩
  refine codeAny_mono (run) fun rs s' hq => ?_
  have back : ∀ {F' H' : Hp} {O1 O2 : List Addr} {ts' : List (Option T)} {kk : Env → Prop}, Bas ⟨H2, F, _ :: s.heap.objs.size :: Oc, (b0.perm pm2).left.tabs⟩ F' H' (O1 ++ O2) → StVO F' H' O1 vs ts' → putb as ts' e2 kk →
      ∃ e3 O3, OwE F' H' O3 σ e3 ∧ Bas Z F' H' (O3 ++ O2) ∧ Frm Tq H F O H' F' (O3 ++ O2) ∧ kk e3 := fun {F' H' O1 O2 ts' kk} b' s' q => by
    have fr := b'.abs
    have b3 := Bas.frame fr (b0.perm pm2) b' ex2
    have keep := fr.rest (R := Or) (pm2.nodup b0.nd) ex2
    obtain ⟨e3, O3, Od, o3, p3, q3⟩ := putb_ok (F := F') (H := H') (st) s' (o2.stay fr.fz fun c hc => (keep c hc).trans (keep2 c (ex c hc).ne)) q
    have p4 : ((O1 ++ O2) ++ Or).Perm ((O3 ++ O2) ++ Od) := by
      have e1 : ((O1 ++ O2) ++ Or).Perm ((O1 ++ Or) ++ O2) := by
        rw [List.append_assoc, List.append_assoc]
        exact List.perm_append_comm.append_left O1
      have e2 : ((O3 ++ O2) ++ Od).Perm ((O3 ++ Od) ++ O2) := by
        rw [List.append_assoc, List.append_assoc]
        exact List.perm_append_comm.append_left O3
      exact e1.trans ((p3.append_right O2).trans e2.symm)
    exact ⟨e3, O3, o3, (b3.perm p4).left, fr0.trans ((fr.frame (R := Or)).perm (fun c => pm2.symm.mem_iff) (fun c hc => p4.mem_iff.mpr (List.mem_append_left _ hc))), q3⟩
  cases rs with
  | error e =>
    refine tk e s' (XE.of_call I2 (fun cls d H' hE => ?_) hq)
    obtain ⟨y, ts', F', O', b', sv', xa, q⟩ := hE
    cases sv' with
    | un sv' =>
      obtain ⟨e3, O3, o3, b3, fr3, q3⟩ := back (O2 := []) (by rw [List.append_nil]; exact b') sv' q
      rw [List.append_nil] at b3 fr3
      exact ⟨F', O3, e3, y, b3, o3, xa, q3⟩
    | cons w sv' =>
      rename_i Ou O1' u ts''
      obtain ⟨e3, O3, o3, b3, fr3, q3⟩ := back (O1 := O1') (O2 := Ou) (b'.perm List.perm_append_comm) sv' q
      exact ⟨F', O3, e3, y, b3.left, o3, xa, q3⟩
  | ok fl =>
    cases fl with
    | ret u =>
      obtain ⟨v, H', I3, rv, F', O1, O2, t, ts', b', sv', w', rfl, q⟩ := I2.after hq
      cases w' with
      | va rr =>
        cases rr
        refine ⟨rv, ?_⟩
        cases sv' with
        | un sv' => exact q.elim
        | cons w sv' =>
          rename_i Ou O1' u ts''
          obtain ⟨hu, q⟩ := q
          have pmx : ((Ou ++ O1') ++ []).Perm (O1' ++ Ou) := by rw [List.append_nil]; exact List.perm_append_comm
          obtain ⟨e3, O3, o3, b3, fr3, q3⟩ := back (O1 := O1') (O2 := Ou) (b'.perm pmx) sv' q
          exact ⟨V.ref (s.heap.objs.size + 1), H', I3, rfl, F', O3 ++ Ou, .t u, e3, b3, ⟨O3, Ou, rfl, o3, w⟩, fr3, q3⟩
    | next => exact hq.elim
    | brk => exact hq.elim
    | cont => exact hq.elim
theorem make_g {fI : Addr} {fd : FuncData} {ET : Ex → Env → Prop} {as : List A} {vs : List V} {us : List Value} {pins : List (Addr × Obj)} {s : Shared} {σ : L2.St} {H F : Hp} {O : List Addr}
    (M : Mk X.K C fI) (G : FnG X.prog X.w X.K X.mg X.base Tq k fI fd ps sp) (hr : Room (k + 1) X.A) (hg : X.A.guards = some []) (tk : Takes X (wxOf Z ET)) (hb : Binds X.K fd ps []) (I : Inv X pins σ H s) (b : Bas Z F H O) (o : OwE F H O σ env)
    (st : StAs F vs as) (r : Vals vs us) (h : callN sp C as env (fun t e => P (.t t) e) ET) : wpAny (model X.prog X.w) X.A (call (.ref C) us) (EP X pins σ (Post Z σ H F O P)) X.xe s :=
  make_gx (us0 := us) M G hr hg tk (fun s u X hl => by
    have := hb s (u :: us) X (by rw [List.append_nil]; exact hl)
    rw [List.append_nil] at this
    exact this) I b o st r h
theorem w_makeX {ET : Ex → Env → Prop} (G : Ck X.prog X.w X.K X.mg X.base Tq k x C ps sp) (hr : Room (k + 1) X.A) (hgd : X.A.guards = some []) (tk : Takes X (wxOf Z ET)) (h : WAs Z X (e :: es) env fun as e1 => callN sp C as e1 (fun t e => P (.t t) e) ET)
    (hg : Gl X x := by rfl) (hdb : (x == ("__debug__" : Str)) = false := by decide) (he : starEach (e :: es) X.env = (false, eval e X.env) :: starEach es X.env := by rfl) (hpl : (backTo pos (starEach es X.env)).any (·.1) = false := by rfl) :
    WE Z X (.Call (.Name x p) (e :: es) [] pos) env P := fun pins s σ H F O I b o => by
  obtain ⟨fI, fd, g, M, hm, hb⟩ := G.ex
  refine wpAny_Call_Name_kw (ld_glob I hg hm ?_ hdb)
  refine PySem.W.callWith_K (h₀ := X.base) I.ok.mod.kin M.kp (thn ((pa_As (Z := Z)).run pos pins s σ H (PostAs Z σ H F O _) I ⟨env, F, O, _, b, o, h, fun _ _ q => q⟩) fun us s1 ⟨vs, H1, I1, r, F1, O1, as, e1, b1, o1, st, fr, q⟩ => ⟨I1.kIn, ?_⟩) he hpl
  exact thn (make_g M g hr hgd tk hb I1 b1 o1 st r q) (EP.imp fun v H' q => q.from fr)
theorem w_make (G : Ck X.prog X.w X.K X.mg X.base Tq k x C ps sp) (hr : Room (k + 1) X.A) (hgd : X.A.guards = some []) (h : WAs Z X (e :: es) env fun as e1 => callN sp C as e1 (fun t e => P (.t t) e) fun _ _ => False)
    (hg : Gl X x := by rfl) (hdb : (x == ("__debug__" : Str)) = false := by decide) (he : starEach (e :: es) X.env = (false, eval e X.env) :: starEach es X.env := by rfl) (hpl : (backTo pos (starEach es X.env)).any (·.1) = false := by rfl) :
    WE Z X (.Call (.Name x p) (e :: es) [] pos) env P := w_makeX G hr hgd takes_no h hg hdb he hpl
end
end QL

/-! QN: min, max, sorted over data; tuple(reversed(list)). -/
namespace QL
open PySem PySem.Spec PyProof.Rows L2
section
variable {Tq : List (Addr × Str)} {Z : Zb Tq} {X : Cx} {e a b c o : Expr} {es : List Expr} {env : Env} {pos pos2 p p2 : Pos} {P : R → Env → Prop}
/-- what the items of a list are known to be, as the kit's data words take it -/
theorem RpA.readsA {pins : List (Addr × Obj)} {σ : L2.St} {F H : Hp} {s : Shared} (I : Inv X pins σ H s) (sF : Same F H) : ∀ {vs : List V} {us : List Value} {ds : List D}, RpA F vs ds → Vals vs us → PyData.hasDictAll ds = false → ∃ as, ReadsAll s.heap us ds as
  | _, _, _, .nil, .nil, _ => ⟨_, .nil⟩
  | _, _, _, .cons h r, .cons g q, nd => by
    have nd2 := Bool.or_eq_false_iff.mp (show (PyData.hasDict _ || PyData.hasDictAll _) = false from nd)
    obtain ⟨as, k1⟩ := (h.mono sF).reads I g nd2.1
    obtain ⟨bs, k2⟩ := r.readsA I sF q nd2.2
    exact ⟨_, .cons k1 k2⟩
def bestG (f : D → List D → D) (ds : List D) (k : T → Prop) : Prop := ∃ x xs d, (ds = [.list (x :: xs)] ∨ ds = [.tuple (x :: xs)]) ∧ PyData.hasDictAll (x :: xs) = false ∧ W.AlikeAll (x :: xs) ∧ PyData.depthAll (x :: xs) ≤ 60 ∧ f x xs = d ∧ k (.va d)
theorem best_fin {pins : List (Addr × Obj)} {σ : L2.St} {F H : Hp} {s : Shared} {vs : List V} {us : List Value} {ds : List D} {d : D} {k : T → Prop} (I : Inv X pins σ H s) (sF : Same F H) (r : RpA F vs ds) (q : Vals vs us) (nd : PyData.hasDictAll ds = false) (h : k (.va d)) {i : Nat} {v : Value} {h' : Heap} {tk : Nat} {bs : List Addr}
    (hi : us[i]? = some v) (rd : Reads h' v d bs) (kk : ∀ b o, s.heap.get? b = some o → h'.get? b = some o) : EP X pins σ (NewV F H k) v { s with heap := h', toks := tk } := by
  have gv : ∃ x, vs[i]? = some x ∧ L2.RelV x v := by
    cases hx : vs[i]? with
    | none => rw [List.getElem?_eq_none_iff, q.length, ← List.getElem?_eq_none_iff] at hx; rw [hx] at hi; cases hi
    | some x => obtain ⟨u, g, rr⟩ := q.get hx; rw [g] at hi; cases hi; exact ⟨x, rfl, rr⟩
  obtain ⟨x, hx, rx⟩ := gv
  obtain ⟨d', hd, rp⟩ := r.get hx
  have nd' : d'.hasDict = false := by
    have key : ∀ {ds : List D} {i : Nat}, PyData.hasDictAll ds = false → ds[i]? = some d' → d'.hasDict = false := fun {ds} => by
      induction ds with
      | nil => intro i _ z; cases z
      | cons y ys ih =>
        intro i z e
        have z2 := Bool.or_eq_false_iff.mp (show (PyData.hasDict y || PyData.hasDictAll ys) = false from z)
        cases i with
        | zero => cases e; exact z2.1
        | succ i => exact ih z2.2 e
    exact key nd hd
  obtain ⟨as, k1⟩ := (rp.mono sF).reads I rx nd'
  have k2 := PyProof.Rows.Reads.keeps kk k1
  obtain ⟨rfl, _⟩ := Reads.unique k2 _ _ rd
  exact ⟨x, H, I.kept kk, rx, NewV.val sF rp h⟩
theorem dc_minL (hc : X.calm = true) (hu : X.A.units + 110 < cLine) : DCall X (.builtin "min") (bestG W.minD) := fun pins s σ H F vs us ds k I sF ws rv ⟨x, xs, d0, e, nd, al, dp, ed, h⟩ => by
  subst ed
  rcases e with rfl | rfl
  · obtain ⟨v, rfl, w⟩ := ws.one
    obtain ⟨u, rfl, ru⟩ := rv.one
    obtain ⟨p, ys, rfl, h1, r1⟩ := w.lst' sF
    obtain rfl : u = Value.ref p := ru
    obtain ⟨its, rv2, p2, hz⟩ := I.list (SqL.of h1)
    obtain ⟨as, rd⟩ := r1.readsA I sF rv2 nd
    exact W.min_list_data (I.ok.hd hc) p2.isList (by simpa using rd) al (by omega) fun i v h' tk bs hi hr kk => best_fin I sF r1 rv2 nd h (by simpa using hi) hr kk
  · obtain ⟨v, rfl, w⟩ := ws.one
    obtain ⟨u, rfl, ru⟩ := rv.one
    obtain ⟨p, ys, rfl, h1, r1⟩ := w.tup
    obtain rfl : u = Value.ref p := ru
    obtain ⟨its, rv2, p2, hz⟩ := I.tuple ((.inl (rd_mono sF h1)))
    obtain ⟨as, rd⟩ := r1.readsA I sF rv2 nd
    exact W.min_tuple_data (I.ok.hd hc) (show s.heap.IsTuple p its.toArray from p2) (by simpa using rd) al (by omega) fun i v h' tk bs hi hr kk => best_fin I sF r1 rv2 nd h (by simpa using hi) hr kk
theorem dc_maxL (hc : X.calm = true) (hu : X.A.units + 110 < cLine) : DCall X (.builtin "max") (bestG W.maxD) := fun pins s σ H F vs us ds k I sF ws rv ⟨x, xs, d0, e, nd, al, dp, ed, h⟩ => by
  subst ed
  rcases e with rfl | rfl
  · obtain ⟨v, rfl, w⟩ := ws.one
    obtain ⟨u, rfl, ru⟩ := rv.one
    obtain ⟨p, ys, rfl, h1, r1⟩ := w.lst' sF
    obtain rfl : u = Value.ref p := ru
    obtain ⟨its, rv2, p2, hz⟩ := I.list (SqL.of h1)
    obtain ⟨as, rd⟩ := r1.readsA I sF rv2 nd
    exact W.max_list_data (I.ok.hd hc) p2.isList (by simpa using rd) al (by omega) fun i v h' tk bs hi hr kk => best_fin I sF r1 rv2 nd h (by simpa using hi) hr kk
  · obtain ⟨v, rfl, w⟩ := ws.one
    obtain ⟨u, rfl, ru⟩ := rv.one
    obtain ⟨p, ys, rfl, h1, r1⟩ := w.tup
    obtain rfl : u = Value.ref p := ru
    obtain ⟨its, rv2, p2, hz⟩ := I.tuple ((.inl (rd_mono sF h1)))
    obtain ⟨as, rd⟩ := r1.readsA I sF rv2 nd
    exact W.max_tuple_data (I.ok.hd hc) (show s.heap.IsTuple p its.toArray from p2) (by simpa using rd) al (by omega) fun i v h' tk bs hi hr kk => best_fin I sF r1 rv2 nd h (by simpa using hi) hr kk
/-- tuple(reversed(list)) -/
theorem w_tupRev (hc : X.calm = true) (hm : X.mg "tuple" = none) (hm2 : X.mg "reversed" = none) (h : WA Z X e env fun a1 e1 => View a1 e1 fun d => ∃ xs, d = .list xs ∧ P (.t (.va (.tuple xs.reverse))) e1) (hg : Gl X "tuple" := by rfl) (hg2 : Gl X "reversed" := by rfl)
    (hs : starEach [e] X.env = (false, eval e X.env) :: starEach [] X.env := by rfl)
    (hs2 : starEach [.Call (.Name "reversed" p2) [e] [] pos2] X.env = (false, eval (.Call (.Name "reversed" p2) [e] [] pos2) X.env) :: starEach [] X.env := by rfl) : WE Z X (.Call (.Name "tuple" p) [.Call (.Name "reversed" p2) [e] [] pos2] [] pos) env P :=
  we_of (RT.pe_tupRev hc hg hm hg2 hm2 (pe_A (Z := Z)) hs hs2) fun σ H F O b o => ⟨env, F, O, _, b, o, h, fun v H1 ⟨F1, O1, a1, e1, b1, o1, st, fr, q⟩ => by
    obtain ⟨d, w, xs, rfl, q⟩ := View.vw q o1 st
    obtain ⟨p, vs, rfl, h1, r1⟩ := w.lst' b1.sub
    exact ⟨p, vs, rfl, SqL.of h1, fun p' hp' => ((NewV.tup b1.sub r1.rev hp' (k := fun t => t = .va (.tuple xs.reverse)) rfl).post b1 o1 (fun t e => by subst e; exact q)).from fr⟩⟩
end
end QL

/-! QO: displays with stars, x += e, comprehensions without a state. -/
namespace QL
open PySem PySem.Spec PyProof.Rows L2 StX
inductive Sg
  | a (x : A)
  | s (xs : List D)
def flatS : List Sg → List A
  | [] => []
  | .a x :: r => x :: flatS r
  | .s xs :: r => xs.map A.va ++ flatS r
def absorbS : List Sg → Env → (List D → Env → Prop) → Prop
  | [], env, k => k [] env
  | .a (.va d) :: as, env, k => absorbS as env fun ds env' => k (d :: ds) env'
  | .a (.bor a i p) :: as, env, k => match getP i p env with
    | some t => t.addr = some a ∧ match frzT t with
      | some d => absorbS as (setP i p (.va d) env) fun ds env' => k (d :: ds) env'
      | none => False
    | none => False
  | .s xs :: as, env, k => absorbS as env fun ds env' => k (xs ++ ds) env'
theorem absorb_vas : ∀ (xs : List D) {as : List A} {env : Env} {k : List D → Env → Prop}, absorb as env (fun ds e => k (xs ++ ds) e) → absorb (xs.map A.va ++ as) env k
  | [], _, _, _, h => h
  | x :: xs, _, _, k, h => by
    show absorb _ _ fun ds env' => k (x :: ds) env'
    exact absorb_vas xs (k := fun ds e => k (x :: ds) e) h
theorem absorbS_flat : ∀ {as : List Sg} {env : Env} {k : List D → Env → Prop}, absorbS as env k → absorb (flatS as) env k
  | [], _, _, h => h
  | .a (.va d) :: as, _, k, h => absorbS_flat (as := as) h
  | .a (.bor a i p) :: as, env, k, h => by
    show absorb (.bor a i p :: flatS as) env k
    unfold absorbS at h
    unfold absorb
    cases hg : getP i p env with
    | none => rw [hg] at h; exact h.elim
    | some t =>
      rw [hg] at h
      refine ⟨h.1, ?_⟩
      have h := h.2
      cases hf : frzT t with
      | none => simp only [hf] at h
      | some d => simp only [hf] at h ⊢; exact absorbS_flat h
  | .s xs :: as, env, k, h => absorb_vas xs (absorbS_flat (as := as) h)
def starD (ds : List D) (k : List D → Prop) : Prop := match ds with
  | [.tuple xs] => k xs
  | [.list xs] => k xs
  | _ => False
def starOf : Expr → Option Expr
  | .Starred e _ => some e
  | _ => none
def WAx {Tq : List (Addr × Str)} (Z : Zb Tq) (X : Cx) : List Expr → Env → (List Sg → Env → Prop) → Prop
  | [], env, P => P [] env
  | e :: es, env, P => match starOf e with
    | some e' => (starEach (e :: es) X.env = (true, eval e' X.env) :: starEach es X.env) ∧ WA Z X e' env fun a e1 => absorb [a] e1 fun ds e2 => starD ds fun xs => WAx Z X es e2 fun as e3 => P (.s xs :: as) e3
    | none => (starEach (e :: es) X.env = (false, eval e X.env) :: starEach es X.env) ∧ WA Z X e env fun a e1 => WAx Z X es e1 fun as e2 => P (.a a :: as) e2
def PostX {Tq : List (Addr × Str)} (Z : Zb Tq) (σ : L2.St) (H0 F0 : Hp) (O0 : List Addr) (P : List Sg → Env → Prop) : List V → Hp → Prop := fun vs H => ∃ F O as env, Bas Z F H O ∧ OwE F H O σ env ∧ StAs F vs (flatS as) ∧ Frm Tq H0 F0 O0 H F O ∧ P as env
def tAx {Tq : List (Addr × Str)} (Z : Zb Tq) (X : Cx) (es : List Expr) : TA := fun σ H Q => ∃ env F O P, Bas Z F H O ∧ OwE F H O σ env ∧ WAx Z X es env P ∧ ∀ v H', PostX Z σ H F O P v H' → Q v H'
theorem RpA.stas {F : Hp} : ∀ {vs : List V} {ds : List D}, RpA F vs ds → StAs F vs (ds.map A.va)
  | _, _, .nil => .nil
  | _, _, .cons h r => .cons h r.stas
theorem StAs.app {F : Hp} {vs us : List V} {as bs : List A} (h : StAs F vs as) (g : StAs F us bs) : StAs F (vs ++ us) (as ++ bs) := by
  induction h with
  | nil => exact g
  | cons a _ ih => exact .cons a ih
theorem pa_Ax {Tq : List (Addr × Str)} {Z : Zb Tq} {X : Cx} : ∀ {es : List Expr}, PA X es (tAx Z X es)
  | [] => ⟨fun pos pins s σ H Q I ⟨env, F, O, P, b, o, w, q⟩ => pa_nil.run pos pins s σ H Q I (q [] H ⟨F, O, [], env, b, o, .nil, Frm.refl _ _ _, w⟩)⟩
  | e :: es => ⟨fun pos pins s σ H Q I ⟨env, F, O, P, b, o, w, q⟩ => by
    unfold WAx at w
    cases hs : starOf e with
    | none =>
      simp only [hs] at w
      have hp := pa_cons (X := X) (pe_A (Z := Z) (e := e)) (pa_Ax (Z := Z) (es := es)) w.1
      refine hp.run pos pins s σ H Q I ⟨env, F, O, _, b, o, w.2, ?_⟩
      rintro v1 H1 ⟨F1, O1, a1, env1, b1, o1, st1, fr1, w1⟩
      refine ⟨env1, F1, O1, _, b1, o1, w1, ?_⟩
      rintro vs H2 ⟨F2, O2, as, env2, b2, o2, st2, fr2, w2⟩
      exact q _ _ ⟨F2, O2, .a a1 :: as, env2, b2, o2, .cons (st1.mono fr2.fz) st2, fr1.trans fr2, w2⟩
    | some e' =>
      simp only [hs] at w
      obtain ⟨p, rfl⟩ : ∃ p, e = .Starred e' p := by
        cases e with
        | Starred x p => cases hs; exact ⟨p, rfl⟩
        | _ => cases hs
      have hp := pa_star (X := X) (pe_A (Z := Z) (e := e')) (pa_Ax (Z := Z) (es := es)) w.1
      refine hp.run pos pins s σ H Q I ⟨env, F, O, _, b, o, w.2, ?_⟩
      rintro v1 H1 ⟨F1, O1, a1, env1, b1, o1, st1, fr1, w1⟩
      obtain ⟨F2, O2, ds, e2, b2, o2, r2, fr2, w2⟩ := absorb_ok (.cons st1 .nil) b1 o1 w1
      unfold starD at w2
      split at w2
      · cases r2 with
        | cons r3 rn =>
          cases rn
          cases r3 with
          | tup h3 r3 =>
            refine ⟨_, _, rfl, .inl ((.inl (rd_mono b2.sub h3))), e2, F2, O2, _, b2, o2, w2, ?_⟩
            rintro vs H3 ⟨F3, O3, as, env3, b3, o3, st3, fr3, w3⟩
            exact q _ _ ⟨F3, O3, .s _ :: as, env3, b3, o3, (r3.mono fr3.fz).stas.app st3, (fr1.trans fr2).trans fr3, w3⟩
      · cases r2 with
        | cons r3 rn =>
          cases rn
          cases r3 with
          | lst h3 r3 =>
            refine ⟨_, _, rfl, .inr (SqL.of (b2.sub _ _ h3)), e2, F2, O2, _, b2, o2, w2, ?_⟩
            rintro vs H3 ⟨F3, O3, as, env3, b3, o3, st3, fr3, w3⟩
            exact q _ _ ⟨F3, O3, .s _ :: as, env3, b3, o3, (r3.mono fr3.fz).stas.app st3, (fr1.trans fr2).trans fr3, w3⟩
      · exact w2.elim⟩
section
variable {Tq : List (Addr × Str)} {Z : Zb Tq} {X : Cx} {e a b c o tg iter elt : Expr} {es : List Expr} {env : Env} {pos : Pos} {P : R → Env → Prop}
/-- a tuple with stars -/
theorem w_tupX {x1 : _} (h : WAx Z X es env fun as env1 => absorbS as env1 fun ds env2 => ds.length ≤ sizeLine ∧ P (.t (.va (.tuple ds))) env2) : WE Z X (.Tuple es x1 pos) env P :=
  we_of (pe_tup (pa_Ax (Z := Z))) fun σ H F O b o => ⟨env, F, O, _, b, o, h, fun vs H1 ⟨F1, O1, as, env1, b1, o1, st1, fr1, h1⟩ => by
    obtain ⟨F2, O2, ds, env2, b2, o2, r2, fr2, z, q⟩ := absorb_ok st1 b1 o1 (absorbS_flat h1)
    refine ⟨by rw [r2.len]; exact z, fun p hp => ?_⟩
    exact ((NewV.tup b2.sub r2 hp (k := fun t => t = .va (.tuple ds)) rfl).post b2 o2 (fun t e => by subst e; exact q)).from (fr1.trans fr2)⟩
theorem dip_sub : DOp X (inplaceOp .Sub) subD := by
  intro pins s σ H F v1 v2 u1 u2 d1 d2 k I sF w1 w2 r1 r2 hg
  cases d1 with
  | int i =>
    cases d2 with
    | int j =>
      cases w1.int
      cases w2.int
      exact in_sub pins s σ H _ _ u1 u2 _ I r1 r2 ⟨i, j, rfl, rfl, NewV.val sF (.int _) hg⟩
    | _ => exact hg.elim
  | _ => exact hg.elim
structure FMo (f : TF) : Prop where
  mo : ∀ {d : D} {e : Env} {k k' : Env → Prop}, f d e k → (∀ e', k e' → k' e') → f d e k'
structure FMos (f : TFs) : Prop where
  mo : ∀ {d : List D} {e : Env} {k k' : Env → Prop}, f d e k → (∀ e', k e' → k' e') → f d e k'
theorem fm_name {i : Nat} : FMo (fName i) := ⟨fun h hk => ⟨h.1, hk _ h.2⟩⟩
theorem fm_nil : FMos fNil := ⟨fun h hk => ⟨h.1, hk _ h.2⟩⟩
theorem fm_cons {f : TF} {fs : TFs} (h1 : FMo f) (h2 : FMos fs) : FMos (fCons f fs) := ⟨fun {d e k k'} h hk => by
  cases d with
  | nil => exact h.elim
  | cons d r => exact h1.mo h fun e' w => h2.mo w hk⟩
theorem fm_tup {n : Nat} {fs : TFs} (h1 : FMos fs) : FMo (fTup n fs) := ⟨fun {d e k k'} h hk => by
  unfold fTup at h ⊢
  split at h
  · exact ⟨h.1, h1.mo h.2 hk⟩
  · exact h.elim⟩
theorem fm_tup2 {i j : Nat} : FMo (fTup 2 (fCons (fName i) (fCons (fName j) fNil))) := fm_tup (fm_cons fm_name (fm_cons fm_name fm_nil))
/-- [elt for x in ds]: ds are xs seen by enc, elt of x is g x; env0: the frame behind it -/
theorem lc_map {scope : Scope} {f : TF} (fm : FMo f) {vs : List Nat} {ds : List D} {e1 : Env} {α : Type} (enc : α → D) (xs : List α) (g : α → D) (env0 : Env) (h0 : wipeE e1 vs = env0) (hd : ds = xs.map enc) (hl : xs.length < sizeLine)
    (step : ∀ (k : Nat) x, xs[k]? = some x → f (enc x) env0 fun e' => Blk X scope fun X' => WA Z X' elt e' fun a e3 => absorb [a] e3 fun ds e4 => ds = [g x] ∧ wipeE e4 vs = env0)
    (fin : ∀ p, P (.t (.lst p (xs.map g))) env0) : LcI Z X scope f elt vs (fun e k => k true e) P ds e1 := by
  subst hd
  refine ⟨fun k acc e => e = env0 ∧ acc = (xs.take k).map g, ⟨h0, rfl⟩, ?_, ?_⟩
  · rintro k d acc e hk ⟨rfl, rfl⟩
    rw [List.getElem?_map, Option.map_eq_some_iff] at hk
    obtain ⟨x, hx, rfl⟩ := hk
    have q := step k x hx
    have up : ∀ {e' : Env}, (Blk X scope fun X' => WA Z X' elt e' fun a e3 => absorb [a] e3 fun ds e4 => ds = [g x] ∧ wipeE e4 vs = e) → ((true = true → ElI Z X scope elt vs (fun acc e0 => e0 = e ∧ acc = (xs.take (k + 1)).map g) ((xs.take k).map g) e') ∧ (true = false → (fun acc e0 => e0 = e ∧ acc = (xs.take (k + 1)).map g) ((xs.take k).map g) (wipeE e' vs))) := fun {e'} w => by
      refine ⟨fun _ s H C cl fp => ?_, fun z => nomatch z⟩
      refine WE.imp (w s H C cl fp) fun r e3 hr => ?_
      have ab : ∀ {a : A} {e3 : Env}, absorb [a] e3 (fun ds e4 => ds = [g x] ∧ wipeE e4 vs = e) → absorb [a] e3 fun ds e4 => match ds with | [y] => ((xs.take k).map g).length < sizeLine ∧ (fun acc e0 => e0 = e ∧ acc = (xs.take (k + 1)).map g) ((xs.take k).map g ++ [y]) (wipeE e4 vs) | _ => False := fun {a e3} h => by
        have fin : ∀ {y : D} {e4 : Env}, [y] = [g x] ∧ wipeE e4 vs = e → ((xs.take k).map g).length < sizeLine ∧ (wipeE e4 vs = e ∧ (xs.take k).map g ++ [y] = (xs.take (k + 1)).map g) := fun {y e4} ⟨h1, h2⟩ => by
          cases h1
          refine ⟨?_, h2, ?_⟩
          · rw [List.length_map, List.length_take]; omega
          · rw [List.take_add_one, hx]; simp
        cases a with
        | va d => exact fin h
        | bor a i p =>
          unfold absorb at h ⊢
          split at h
          · refine ⟨h.1, ?_⟩
            have h := h.2
            split at h
            · exact fin h
            · exact h.elim
          · exact h.elim
      cases r with
      | bor a i p => exact ab hr
      | t t =>
        unfold toA at hr ⊢
        simp only at hr ⊢
        split at hr
        · rename_i d hf
          exact ab (a := .va d) hr
        · exact hr.elim
    exact fm.mo q fun e' w => up w
  · rintro acc e ⟨rfl, rfl⟩ p
    rw [List.length_map, List.take_length]
    exact fin p
end
end QL

/-! QP: t[::-1]; a list of one thing sorted; comprehensions with an if. -/
namespace PySem.HTR
open PySem PySem.Spec PyProof.Rows HT PySem.SeqAt PySem.MeetsSeq PySem.MeetsSeq2 PySem.MeetsSeq3
open PySem.AutoSeq1 (wpAny_loadPart')
section
variable {prog : Program} {w : World} {A : Around} {s : Shared} {E : Value → Shared → Prop}
theorem adjust_rev (n : Nat) : Builtin.Slice.sliceAdjust none none (-1) (n : Int) = ((n : Int) - 1, -1) := by
  unfold Builtin.Slice.sliceAdjust
  simp
theorem places_rev (n : Nat) : Builtin.Slice.slicePlaces ((n : Int) - 1) (-1) (-1) = n := by
  unfold Builtin.Slice.slicePlaces
  simp
  omega
theorem sliceApplied_rev {sl : Addr} {vl vu vs : Value} {n : Nat} {Q : Int × Int × Nat → Shared → Prop} (hs : s.heap.IsSliceOf sl vl vu vs) (pl : IsPart vl none) (pu : IsPart vu none) (ps : IsPart vs (some (-1)))
    (h : Q ((n : Int) - 1, -1, n) s) : wpAny (model prog w) A (Builtin.Slice.sliceApplied (.ref sl) (pure (n : Int))) Q E s := by
  obtain ⟨os, hos, hcs, hds⟩ := id hs
  unfold Builtin.Slice.sliceApplied Builtin.Slice.sliceFields
  refine wpAny_bind (wpAny_bind (wpAny_field hos hds (x := vl) rfl (wpAny_bind (wpAny_field hos hds (x := vu) rfl (wpAny_bind (wpAny_field hos hds (x := vs) rfl (wpAny_pure ?_)))))))
  refine wpAny_bind (slicePart_ ps ?_)
  show wpAny _ _ (if ((-1 : Int) == 0) = true then _ else _) _ _ s
  rw [if_neg (by decide)]
  refine wpAny_bind (slicePart_ pl (wpAny_bind (slicePart_ pu (wpAny_bind (wpAny_pure ?_)))))
  show wpAny _ _ (match Builtin.Slice.sliceAdjust none none (-1) (n : Int) with | (lo, hi) => pure (lo, (-1 : Int), Builtin.Slice.slicePlaces lo hi (-1))) _ _ s
  rw [adjust_rev]
  show wpAny _ _ (pure ((n : Int) - 1, (-1 : Int), Builtin.Slice.slicePlaces ((n : Int) - 1) (-1) (-1))) _ _ s
  rw [places_rev]
  exact wpAny_pure h
theorem pick_rev (xs : Array Value) : ((List.range xs.size).filterMap fun (m : Nat) => xs[(((xs.size : Int) - 1) + (m : Int) * (-1)).toNat]?).toArray = xs.toList.reverse.toArray := by
  have e : (List.range xs.size).filterMap (fun (m : Nat) => xs[(((xs.size : Int) - 1) + (m : Int) * (-1)).toNat]?) = ((List.range xs.size).map fun k => xs.size - 1 - k).filterMap (xs[·]?) := by
    rw [List.filterMap_map]
    congr 1
    funext m
    have : (((xs.size : Int) - 1) + (m : Int) * (-1)).toNat = xs.size - 1 - m := by omega
    rw [this]
    rfl
  rw [e, PySem.W.krv_range, List.filterMap_reverse, PySem.W.krv_all]
theorem getItem_tuple_rev {t sl : Addr} {items : Array Value} {vl vu vs : Value} {Q : Value → Shared → Prop} (ht : IsTup s.heap t items) (hs : s.heap.IsSliceOf sl vl vu vs) (pl : IsPart vl none) (pu : IsPart vu none) (ps : IsPart vs (some (-1)))
    (h : Q (.ref s.heap.objs.size) { s with heap := s.heap.push { cls := .type "tuple", data := .seq items.toList.reverse.toArray } }) (hsz : items.size ≤ sizeLine) : wpAny (model prog w) A (getItem (.ref t) (.ref sl)) Q E s := by
  have htake : sizeOk (.seq items.toList.reverse.toArray) := by
    show items.toList.reverse.toArray.size ≤ sizeLine
    simpa using hsz
  obtain ⟨os, hos, hcs, hds⟩ := id hs
  have hTs : s.TypeIs (.ref sl) "slice" := ⟨os, hos, hcs⟩
  unfold getItem
  try with_reducible refine wpAny_holding ?_
  first | refine wpAny_bind (wpAny_pure ?_) | skip
  refine wpAny_bind (wpAny_sequenceKey ht.typeIs (by decide) ?_)
  refine wpAny_bind (wpAny_callSpecial?_slot (name := Str.ofString "__getitem__") ht.typeIs PyProof.Rows.slot_tuple_getitem
    (wpAny_call_entry PyProof.Rows.slot_tuple_getitem ht.typeIs entry_tuple_getitem ?_ (args_tuple_getitem _ _)))
  show wpAny _ _ (Builtin.Tuple.tupleItemsOf (.ref t) >>= _) _ _ s
  refine wpAny_bind (tupleItemsOf_ ht ?_)
  refine wpAny_bind (wpAny_typeOf hTs ?_)
  rw [if_pos (by decide)]
  refine wpAny_bind (sliceApplied_rev hs pl pu ps ?_)
  have hno : ¬ ((((items.size : Int) - 1) == 0 && (-1 : Int) == 1 && items.size == items.size) = true) := by simp
  show wpAny _ _ (if ((((items.size : Int) - 1) == 0 && (-1 : Int) == 1 && items.size == items.size) = true) then _ else _) _ _ s
  rw [if_neg hno, pick_rev]
  first
    | exact wpAny_bind (m := Builtin.Tuple.tupleExact _) (wpAny_newObj_type (wpAny_pure ⟨_, rfl, wpAny_pure h⟩) htake)
    | exact wpAny_bind (m := Builtin.Tuple.tupleExact _) (wpAny_newObj_type (wpAny_bind (wpAny_pure (wpAny_pure ⟨_, rfl, wpAny_pure h⟩))) htake)
end
end PySem.HTR
namespace QL
open PySem PySem.Spec PyProof.Rows L2
section
variable {Tq : List (Addr × Str)} {Z : Zb Tq} {X : Cx} {e a b c o tg iter elt : Expr} {es : List Expr} {env : Env} {pos p1 p2 p3 : Pos} {P : R → Env → Prop} {k : Nat}
/-- t[::-1], t a tuple or a list -/
def tRevA (K : PySem.W.Frag) (te : TE) : TE := fun σ H Q => te σ H fun x H1 => ∃ a xs, x = .ref a ∧ ((SqL K H1 a xs ∧ ∀ p, H1 p = none → Q (.ref p) (upd H1 p (.lst xs.reverse))) ∨ (SqT K H1 a xs ∧ ∀ p, H1 p = none → Q (.ref p) (upd H1 p (.tup xs.reverse))))
theorem pe_revA {te : TE} (he : PE X e te) : PE X (.Subscript e (.Slice none none (some (.UnaryOp .USub (.Constant (.int 1) k p1) p2)) p3) pos) (tRevA X.K te) := by
  refine ⟨fun pins s σ H Q I h => ?_⟩
  refine Subscript_ (thn (he.run pins s σ H _ I h) fun v s1 ⟨x, H1, I1, r1, q1⟩ => ?_)
  obtain ⟨a, xs, ex, q⟩ := q1
  subst ex
  cases r1
  have hst : L2.PO X (some (.UnaryOp .USub (.Constant (.int 1) k p1) p2)) (tPart (tUn (rU fun i => .int (-i)) (tC (.int 1)))) := po_some (pe_un un_neg pe_int)
  refine wpAny_Slice (thn (po_none.run pins s1 σ H1 (fun o H2 => o = none ∧ H2 = H1) I1 ⟨rfl, rfl⟩) fun vl s2 ⟨l, H2, I2, pl, el, e2⟩ => ?_)
  subst el e2
  refine thn (po_none.run pins s2 σ H2 (fun o H3 => o = none ∧ H3 = H2) I2 ⟨rfl, rfl⟩) fun vu s3 ⟨u, H3, I3, pu, eu, e3⟩ => ?_
  subst eu e3
  refine thn (hst.run pins s3 σ H3 (fun o H4 => o = some (-1) ∧ H4 = H3) I3 ⟨1, rfl, -1, rfl, rfl, rfl⟩) fun vs s4 ⟨o, H4, I4, ps, eo, e4⟩ => ?_
  subst eo e4
  have I5 : Inv X pins σ H4 { s4 with heap := s4.heap.push { cls := .type "slice", data := .fields #[vl, vu, vs] } } := I4.kept (t' := s4.toks) fun b ob q => Heap.get?_push_of_some _ q
  show wpAny (model X.prog X.w) X.A (subscriptTail e (.Slice none none (some (.UnaryOp .USub (.Constant (.int 1) k p1) p2)) p3) (.ref a) (.ref s4.heap.objs.size)) (EP X pins σ Q) X.xe { s4 with heap := s4.heap.push { cls := .type "slice", data := .fields #[vl, vu, vs] } }
  rcases q with ⟨hx, q⟩ | ⟨hx, q⟩
  · obtain ⟨its, r, ht, hz⟩ := I5.list hx
    have hlen := r.length
    refine tail_any (ops := [.ref a, .ref s4.heap.objs.size]) ht.isList.typeIs (PySem.slot_list_getitem.lookup) ?_ (by with_unfolding_all rfl)
    refine wpAny_getItem_list_slice ht.isList (Heap.IsSliceOf.new _ vl vu vs) pl pu ps (by decide) ?_ (by rw [List.size_toArray]; omega)
    rw [PySem.W.krv_pick]
    refine ⟨.ref _, _, I5.laid (t' := s4.toks) (o := .lst xs.reverse) (fun b ob q => Heap.get?_push_of_some _ q) (Nat.le_refl _) ?_, rfl, q _ (I5.hok.fresh (Nat.le_refl _))⟩
    exact ⟨by rw [List.length_reverse]; exact hz, _, 0, r.reverse, Heap.get?_push_size _ rfl⟩
  · obtain ⟨its, r, ht, hz⟩ := I5.tuple hx
    have hlen := r.length
    refine tail_any (ops := [.ref a, .ref s4.heap.objs.size]) ht.typeIs (PyProof.Rows.slot_tuple_getitem.lookup) ?_ (by with_unfolding_all rfl)
    refine PySem.HTR.getItem_tuple_rev ht (Heap.IsSliceOf.new _ vl vu vs) pl pu ps ?_ (by rw [List.size_toArray]; omega)
    refine ⟨.ref _, _, I5.laid (t' := s4.toks) (o := .tup xs.reverse) (fun b ob q => Heap.get?_push_of_some _ q) (Nat.le_refl _) ?_, rfl, q _ (I5.hok.fresh (Nat.le_refl _))⟩
    refine ⟨by rw [List.length_reverse]; exact hz, its.reverse, r.reverse, ?_⟩
    exact IsTup.new _ _
theorem WE.to {r0 : R} {e1 : Env} (h : WE Z X e env fun r e2 => r = r0 ∧ e2 = e1) (k : P r0 e1) : WE Z X e env P := WE.imp h fun _ _ ⟨a, b⟩ => by subst a b; exact k
theorem tLc_mono {σ : L2.St} {H : Hp} {g : TG} {tt : TT} {te : TE} {vs : List Nat} {Q Q' : VK} (hq : ∀ v H, Q v H → Q' v H) (h : tLc (tI Z X tg iter) g tt te vs σ H Q) : tLc (tI Z X tg iter) g tt te vs σ H Q' := by
  obtain ⟨env, F, O, P, b, o, w, k⟩ := h
  refine ⟨env, F, O, P, b, o, w, fun J H1 F1 O1 ds e1 b1 o1 fr gv p D hD => ?_⟩
  obtain ⟨W, h0, hs⟩ := k J H1 F1 O1 ds e1 b1 o1 fr gv p D hD
  exact ⟨W, h0, fun i m H hw => (hs i m H hw).imp (fun z => ⟨z.1, hq _ _ z.2⟩) id⟩
/-- y = [..], y a local name -/
theorem ws_setLc (i : Nat) {y : Str} {py pos' : Pos} {g : TG} {f : TF} {ix : List Nat} {scope : Scope} {own : List (Str × Nat)} {PO : Out → Prop} (hc : X.calm = true) (hN : X.N.Nodup) (ok : BlkOk X.N X.env.scope scope own) (hg : Blk X scope fun X' => PG X' tg g) (gk : GOk Z g f ix) (hix : ∀ i ∈ ix, i ∈ own.map (·.2))
    (h : WI Z X tg iter env (LcI Z X scope f elt (own.map (·.2)) (fun e k => k true e) fun r e1 => storeR r i e1 fun e2 => PO (.nx e2))) (hy : X.N[i]? = some y := by rfl) (hyl : X.env.scope.names.lookup y = some .local := by rfl)
    (hsw : swapsWith (.ListComp elt [⟨tg, iter, [], 0⟩] scope pos') (some (.Name y py)) pos.line X.env = pure true := by exact sw_true rfl rfl rfl (by decide +kernel)) (hs : ∀ x, foldedSetIterable iter X.env x = pure x := by intro _; rfl) :
    WS Z X (.Assign [.Name y py] (.ListComp elt [⟨tg, iter, [], 0⟩] scope pos') pos) env PO :=
  ws_of (ps_setLc hc hN hy hyl hsw (pi_I (Z := Z)) ok hg (fun _ _ _ _ _ => pts_nil) (pe_AB (Z := Z)) hs) fun σ H F O b o =>
    tLc_mono (fun v H1 ⟨F1, O1, r, e1, b1, st, fr, p⟩ => by
      obtain ⟨F2, O2, e2, b2, o2, fr2, q⟩ := storeR_ok b1 st p
      exact ⟨F2, O2, e2, b2, o2, fr.trans fr2, q⟩) (lc_read gk hix (fun σ H F O env k Q b o t q => q true H F O env b o (Frm.refl _ _ _) t) b o h)
theorem ws_setLcIf (i : Nat) {y : Str} {py pos' : Pos} {g : TG} {f : TF} {ix : List Nat} {scope : Scope} {own : List (Str × Nat)} {PO : Out → Prop} (hc : X.calm = true) (hN : X.N.Nodup) (ok : BlkOk X.N X.env.scope scope own) (hg : Blk X scope fun X' => PG X' tg g) (gk : GOk Z g f ix) (hix : ∀ i ∈ ix, i ∈ own.map (·.2))
    (h : WI Z X tg iter env (LcI Z X scope f elt (own.map (·.2)) (fun e k => Blk X scope fun X' => WT Z X' c e k) fun r e1 => storeR r i e1 fun e2 => PO (.nx e2))) (hy : X.N[i]? = some y := by rfl) (hyl : X.env.scope.names.lookup y = some .local := by rfl)
    (hsw : swapsWith (.ListComp elt [⟨tg, iter, [c], 0⟩] scope pos') (some (.Name y py)) pos.line X.env = pure true := by exact sw_true rfl rfl rfl (by decide +kernel)) (hs : ∀ x, foldedSetIterable iter X.env x = pure x := by intro _; rfl) :
    WS Z X (.Assign [.Name y py] (.ListComp elt [⟨tg, iter, [c], 0⟩] scope pos') pos) env PO :=
  ws_of (ps_setLc hc hN hy hyl hsw (pi_I (Z := Z)) ok hg (fun s H C cl fp => pts_one (pt_TB (Z := Z) s H C cl fp)) (pe_AB (Z := Z)) hs) fun σ H F O b o =>
    tLc_mono (fun v H1 ⟨F1, O1, r, e1, b1, st, fr, p⟩ => by
      obtain ⟨F2, O2, e2, b2, o2, fr2, q⟩ := storeR_ok b1 st p
      exact ⟨F2, O2, e2, b2, o2, fr.trans fr2, q⟩) (lc_read gk hix (fun σ H F O env k Q b o t q => ⟨env, F, O, k, b, o, t, fun v H' ⟨F1, O1, e1, b1, o1, fr1, p⟩ => q v H' F1 O1 e1 b1 o1 fr1 p⟩) b o h)
def revG (d : D) (k : T → Prop) : Prop := match d with
  | .tuple xs => k (.va (.tuple xs.reverse))
  | .list xs => ∀ p, k (.lst p xs.reverse)
  | _ => False
theorem w_rev (h : WA Z X e env fun a1 e1 => View a1 e1 fun d => revG d fun t => P (.t t) e1) : WE Z X (.Subscript e (.Slice none none (some (.UnaryOp .USub (.Constant (.int 1) k p1) p2)) p3) pos) env P :=
  we_of (pe_revA (pe_A (Z := Z))) fun σ H F O b o => ⟨env, F, O, _, b, o, h, fun v H1 ⟨F1, O1, a1, e1, b1, o1, st, fr, q⟩ => by
    obtain ⟨d, w, q⟩ := View.vw q o1 st
    unfold revG at q
    split at q
    · obtain ⟨p, vs, rfl, h1, r1⟩ := w.tup
      exact ⟨p, vs, rfl, .inr ⟨(.inl (rd_mono b1.sub h1)), fun p' hp' => ((NewV.tup b1.sub r1.rev hp' (k := fun t => t = .va (.tuple _)) rfl).post b1 o1 (fun t e => by subst e; exact q)).from fr⟩⟩
    · obtain ⟨p, vs, rfl, h1, r1⟩ := w.lst' b1.sub
      exact ⟨p, vs, rfl, .inl ⟨SqL.of h1, fun p' hp' => ((NewV.lst b1.sub r1.rev hp' (k := fun t => t = .lst p' _) rfl).post b1 o1 (fun t e => by subst e; exact q p')).from fr⟩⟩
    · exact q.elim⟩
/-- [elt for x in ds if c]: c of x is t x -/
theorem lc_filt {scope : Scope} {f : TF} (fm : FMo f) {vs : List Nat} {ds : List D} {e1 : Env} {α : Type} (enc : α → D) (xs : List α) (t : α → Bool) (g : α → D) (env0 : Env) (h0 : wipeE e1 vs = env0) (hd : ds = xs.map enc) (hl : xs.length < sizeLine)
    (step : ∀ (k : Nat) x, xs[k]? = some x → f (enc x) env0 fun e' => Blk X scope fun X' => WT Z X' c e' fun bb e2 => bb = t x ∧ (t x = true → Blk X scope fun X' => WA Z X' elt e2 fun a e3 => absorb [a] e3 fun ds e4 => ds = [g x] ∧ wipeE e4 vs = env0) ∧ (t x = false → wipeE e2 vs = env0))
    (fin : ∀ p, P (.t (.lst p ((xs.filter t).map g))) env0) : LcI Z X scope f elt vs (fun e k => Blk X scope fun X' => WT Z X' c e k) P ds e1 := by
  subst hd
  refine ⟨fun k acc e => e = env0 ∧ acc = ((xs.take k).filter t).map g, ⟨h0, rfl⟩, ?_, ?_⟩
  · rintro k d acc e hk ⟨rfl, rfl⟩
    rw [List.getElem?_map, Option.map_eq_some_iff] at hk
    obtain ⟨x, hx, rfl⟩ := hk
    have q := step k x hx
    have tk : xs.take (k + 1) = xs.take k ++ [x] := by rw [List.take_add_one, hx]; rfl
    refine fm.mo q fun e' w s H C cl fp => ?_
    refine WT.imp (w s H C cl fp) fun bb e2 ⟨hb, hT, hF⟩ => ?_
    subst hb
    refine ⟨fun ht s2 H2 C2 cl2 fp2 => ?_, fun hf => ⟨hF hf, ?_⟩⟩
    · refine WE.imp (hT ht s2 H2 C2 cl2 fp2) fun r e3 hr => ?_
      have ab : ∀ {a : A} {e3 : Env}, absorb [a] e3 (fun ds e4 => ds = [g x] ∧ wipeE e4 vs = e) → absorb [a] e3 fun ds e4 => match ds with | [y] => (((xs.take k).filter t).map g).length < sizeLine ∧ (fun acc e0 => e0 = e ∧ acc = ((xs.take (k + 1)).filter t).map g) (((xs.take k).filter t).map g ++ [y]) (wipeE e4 vs) | _ => False := fun {a e3} h => by
        have fin : ∀ {y : D} {e4 : Env}, [y] = [g x] ∧ wipeE e4 vs = e → (((xs.take k).filter t).map g).length < sizeLine ∧ (wipeE e4 vs = e ∧ ((xs.take k).filter t).map g ++ [y] = ((xs.take (k + 1)).filter t).map g) := fun {y e4} ⟨h1, h2⟩ => by
          cases h1
          refine ⟨?_, h2, ?_⟩
          · rw [List.length_map]
            have := List.length_filter_le t (xs.take k)
            rw [List.length_take] at this
            omega
          · rw [tk, List.filter_append]; simp [ht]
        cases a with
        | va d => exact fin h
        | bor a i p =>
          unfold absorb at h ⊢
          split at h
          · refine ⟨h.1, ?_⟩
            have h := h.2
            split at h
            · exact fin h
            · exact h.elim
          · exact h.elim
      cases r with
      | bor a i p => exact ab hr
      | t t =>
        unfold toA at hr ⊢
        simp only at hr ⊢
        split at hr
        · exact ab (a := .va _) hr
        · exact hr.elim
    · show ((xs.take k).filter t).map g = ((xs.take (k + 1)).filter t).map g
      rw [tk, List.filter_append]; simp [hf]
  · rintro acc e ⟨rfl, rfl⟩ p
    rw [List.length_map, List.take_length]
    exact fin p
end
end QL

/-! QR: o.m(..), o.f where o is made on the spot. -/
namespace QL
open PySem PySem.Spec PyProof.Rows L2
section
variable {Tq : List (Addr × Str)} {Z : Zb Tq} {X : Cx} {e a b c o value : Expr} {es : List Expr} {env : Env} {pos pos' apos p : Pos} {P : R → Env → Prop} {f x m : Str} {k : Nat} {C : Addr} {ps : List Str} {sp : Spc}
def callT (sp : Spc) (tx : T) (as : List A) (env : Env) (PT : T → Env → Prop) (ET : Ex → Env → Prop) : Prop :=
  deref as env fun ts e2 => sp (tx :: ts) (fun t ts' => match ts' with
      | _ :: ts'' => putb as ts'' e2 fun e3 => PT t e3
      | _ => False)
    (fun ex ts' => match ts' with
      | _ :: ts'' => putb as ts'' e2 fun e3 => ET ex e3
      | [] => False)
theorem call_own {fI : Addr} {fd : FuncData} {ET : Ex → Env → Prop} {as : List A} {vs : List V} {us us0 : List Value} {kw : List (Str × Value)} {pins : List (Addr × Obj)} {s : Shared} {σ : L2.St} {H F : Hp} {O Ox : List Addr} {vx : V} {ux : Value} {tx : T}
    (G : FnG X.prog X.w X.K X.mg X.base Tq k fI fd ps sp) (hr : Room k X.A) (hg : X.A.guards = some []) (tk : Takes X (wxOf Z ET)) (hb : BindsTo s fd ⟨us0, kw⟩ (ps.zip (ux :: us))) (I : Inv X pins σ H s) (b : Bas Z F H (O ++ Ox)) (o : OwE F H O σ env) (wx : Ow F H Ox vx tx) (rx : RelV vx ux)
    (st : StAs F vs as) (r : Vals vs us) (h : callT sp tx as env (fun t e => P (.t t) e) ET) : wpAny (model X.prog X.w) X.A (call (.ref fI) us0 kw) (EP X pins σ (Post Z σ H F (O ++ Ox) P)) X.xe s := by
  obtain ⟨ts, e2, Oc, Or, pm, sv, o2, h⟩ := deref_ok st o h
  have ex : ∀ c ∈ Or, Held H c := o2.held
  have pm2 : (O ++ Ox).Perm ((Ox ++ Oc) ++ Or) := (List.perm_append_comm (l₁ := O)).trans (by rw [List.append_assoc]; exact pm.append_left Ox)
  have bc := (b.perm pm2).left.entry
  have sv2 : StV F H (Ox ++ Oc) (vx :: vs) (tx :: ts) := .cons wx sv
  have r2 : Vals (vx :: vs) (ux :: us) := .cons rx r
  refine wpAny_call (codeAny_mono (G.run X.A X.stack s H ⟨us0, kw⟩ (ux :: us) (vx :: vs) F (Ox ++ Oc) (tx :: ts) _ _
    (fun cls d H' => ∃ e ts' F' O', Bas ⟨H, F, Ox ++ Oc, (b.perm pm2).left.tabs⟩ F' H' O' ∧ StVO F' H' O' (vx :: vs) ts' ∧ ExAt F' e cls d ∧ (match ts' with | _ :: ts'' => putb as ts'' e2 fun e3 => ET e e3 | [] => False)) (b.perm pm2).left.tabs hr hg I.env0 hb r2 bc sv2 h
    fun e ts' cls d H' F' O' b' s' x' q => ⟨e, ts', F', O', b', s', x', q⟩) fun rs s' hq => ?_)
  have back : ∀ {F' H' : Hp} {O1 O2 : List Addr} {ts' : List (Option T)} {kk : Env → Prop}, Bas ⟨H, F, Ox ++ Oc, (b.perm pm2).left.tabs⟩ F' H' (O1 ++ O2) → StVO F' H' O1 vs ts' → putb as ts' e2 kk →
      ∃ e3 O3, OwE F' H' O3 σ e3 ∧ Bas Z F' H' (O3 ++ O2) ∧ Frm Tq H F (O ++ Ox) H' F' (O3 ++ O2) ∧ kk e3 := fun {F' H' O1 O2 ts' kk} b' s' q => by
    have fr := b'.abs
    have b3 := Bas.frame fr (b.perm pm2) b' ex
    have keep := fr.rest (R := Or) (pm2.nodup b.nd) ex
    obtain ⟨e3, O3, Od, o3, p3, q3⟩ := putb_ok st s' (o2.stay fr.fz keep) q
    have p4 : ((O1 ++ O2) ++ Or).Perm ((O3 ++ O2) ++ Od) := by
      have e1 : ((O1 ++ O2) ++ Or).Perm ((O1 ++ Or) ++ O2) := by
        rw [List.append_assoc, List.append_assoc]
        exact List.perm_append_comm.append_left O1
      have e2 : ((O3 ++ O2) ++ Od).Perm ((O3 ++ Od) ++ O2) := by
        rw [List.append_assoc, List.append_assoc]
        exact List.perm_append_comm.append_left O3
      exact e1.trans ((p3.append_right O2).trans e2.symm)
    exact ⟨e3, O3, o3, (b3.perm p4).left, (fr.frame (R := Or)).perm (fun c => pm2.symm.mem_iff) (fun c hc => p4.mem_iff.mpr (List.mem_append_left _ hc)), q3⟩
  cases rs with
  | error e =>
    refine tk e s' (XE.of_call I (fun cls d H' hE => ?_) hq)
    obtain ⟨y, ts', F', O', b', sv', xa, q⟩ := hE
    cases sv' with
    | un sv' =>
      obtain ⟨e3, O3, o3, b3, fr3, q3⟩ := back (O2 := []) (by rw [List.append_nil]; exact b') sv' q
      rw [List.append_nil] at b3 fr3
      exact ⟨F', O3, e3, y, b3, o3, xa, q3⟩
    | cons w sv' =>
      rename_i Ou O1' u ts''
      obtain ⟨e3, O3, o3, b3, fr3, q3⟩ := back (O1 := O1') (O2 := Ou) (b'.perm List.perm_append_comm) sv' q
      exact ⟨F', O3, e3, y, b3.left, o3, xa, q3⟩
  | ok fl =>
    cases fl with
    | ret u =>
      refine EP.imp (fun v H' q => ?_) u s' (I.after hq)
      obtain ⟨F', O1, O2, t, ts', b', sv', w', q⟩ := q
      cases sv' with
      | un sv' =>
        obtain ⟨e3, O3, o3, b3, fr3, q3⟩ := back b' sv' q
        exact ⟨F', O3 ++ O2, .t t, e3, b3, ⟨O3, O2, rfl, o3, w'⟩, fr3, q3⟩
      | cons wu sv' =>
        rename_i Ou O1' u' ts''
        have pmx : ((Ou ++ O1') ++ O2).Perm (O1' ++ (O2 ++ Ou)) := by
          rw [List.append_assoc]
          refine List.perm_append_comm.trans ?_
          rw [List.append_assoc]
        obtain ⟨e3, O3, o3, b3, fr3, q3⟩ := back (O1 := O1') (O2 := O2 ++ Ou) (b'.perm pmx) sv' q
        rw [← List.append_assoc] at b3 fr3
        exact ⟨F', O3 ++ O2, .t t, e3, b3.left, ⟨O3, O2, rfl, o3, w'⟩, fr3.perm (fun _ => Iff.rfl) fun c hc => List.mem_append_left _ hc, q3⟩
    | next => exact hq.elim
    | brk => exact hq.elim
    | cont => exact hq.elim
/-- the receiver is made on the spot -/
def methTR {Tq : List (Addr × Str)} (as : List Expr) (Z : Zb Tq) (X : Cx) (C : Addr) (m : Str) (r : R) (e1 : Env) (k : T → List A → Env → Prop) : Prop := match r with
  | .t (.ins a C' fs) => (C' = C ∧ fs.lookup m = none) ∧ WAs Z X as e1 fun as' e2 => k (.ins a C fs) as' e2
  | _ => False
theorem methTR_ok {σ : L2.St} {F H : Hp} {O : List Addr} {v : V} {r : R} {e1 : Env} {kk : T → List A → Env → Prop} (st : StR F H O σ e1 v r) (h : methTR es Z X C m r e1 kk) :
    ∃ a fs dx vs Oa Ob, v = .ref a ∧ H a = some (.ins C dx vs) ∧ vs.lookup m = none ∧ O = Oa ++ Ob ∧ OwE F H Oa σ e1 ∧ Ow F H Ob v (.ins a C fs) ∧ WAs Z X es e1 fun as' e2 => kk (.ins a C fs) as' e2 := by
  unfold methTR at h
  split at h
  · rename_i a C' fs
    obtain ⟨⟨rfl, hm⟩, h⟩ := h
    obtain ⟨Oa, Ob, rfl, o1, w1⟩ := st
    cases w1 with
    | ins ha hd rr =>
      refine ⟨_, fs, _, _, Oa, _, rfl, ha, ?_, rfl, o1, .ins ha hd rr, h⟩
      rcases rr.look (f := m) with ⟨_, e2⟩ | ⟨t, w, Ot, e2, _, _⟩
      · exact e2
      · rw [hm] at e2; cases e2
  · exact h.elim
theorem w_methT {pl : Sem Bool} (G : Mf X.prog X.w X.K X.mg X.base Tq k C m ps sp) (hr : Room k X.A) (hgd : X.A.guards = some [])
    (h : WE Z X o env fun r e1 => methTR (e :: es) Z X C m r e1 fun tx as e2 => callT sp tx as e2 (fun t e => P (.t t) e) fun _ _ => False)
    (hst : starEach (e :: es) X.env = (false, eval e X.env) :: starEach es X.env := by rfl) (hpl : (backTo pos (starEach es X.env)).any (·.1) = false := by rfl)
    (ht : eval (.Call (.Attribute o m apos) (e :: es) [] pos) X.env = (do
      let ov ← eval o X.env
      standAt apos.atName
      let (f, first) ← holding [ov] (getMethod ov m pl)
      callWith pos f first (backTo pos (starEach (e :: es) X.env)) (backToKw pos (keywordEach [] X.env))) := by rfl) :
    WE Z X (.Call (.Attribute o m apos) (e :: es) [] pos) env P := fun pins s σ H F O I b o0 => by
  obtain ⟨f, fd, g, c, hm, hb⟩ := G.ex
  refine PySem.W.methodCall_KW (pl := pl) (thn (h pins s σ H F O I b o0) fun u s1 ⟨v, H1, I1, rx, F1, O1, r, e1, b1, st, fr, q⟩ => ?_) ht
  obtain ⟨a, fs, dx, vs, Oa, Ob, rfl, ha, hl, rfl, o1, wx, q⟩ := methTR_ok st q
  obtain rfl : u = Value.ref a := rx
  refine getmeth_ok I1 ha c hm hl ?_
  refine PySem.W.callWith_K (first := [.ref a]) (h₀ := X.base) I1.ok.mod.kin hm.kp (thn ((pa_As (Z := Z)).run pos pins s1 σ H1 (PostAs Z σ H1 F1 Oa _) I1 ⟨e1, F1, Oa, _, b1.left, o1, q, fun _ _ q => q⟩) fun us s2 ⟨vs2, H2, I2, r2, F2, O2, as, e2, b2, o2, st2, fr2, q2⟩ => ⟨I2.kIn, ?_⟩) hst hpl
  have exb := wx.held
  have b3 := Bas.frame fr2 b1 b2 exb
  have wx2 := wx.stay fr2.fz (fr2.rest b1.nd exb)
  have hl2 : (Value.ref a :: us ++ []).length = ps.length := by
    obtain ⟨ts, e3, Oc, Or, pm, sv, o3, hh⟩ := deref_ok st2 o2 q2
    rw [← g.len _ _ _ hh, List.append_nil]
    show us.length + 1 = ts.length + 1
    rw [← sv.len, ← r2.length]
  have hb2 := hb s2 (Value.ref a :: us) I2.kIn hl2
  rw [List.append_nil] at hb2
  exact thn (call_own (us0 := .ref a :: us) (kw := []) g hr hgd takes_no hb2 I2 b3 o2 wx2 rfl st2 r2 q2) (EP.imp fun v H' q => q.from (fr.trans fr2.frame))
end
/-- a promise drawn from another -/
theorem FnG.weaken {P : Program} {w : World} {K : PySem.W.Frag} {mg : Str → Option Value} {base : Heap} {Tq : List (Addr × Str)} {k : Nat} {f : Addr} {fd : FuncData} {ps : List Str} {sp sp' : Spc} (G : FnG P w K mg base Tq k f fd ps sp) (h : ∀ ts QT ET, sp' ts QT ET → sp ts QT ET) : FnG P w K mg base Tq k f fd ps sp' :=
  ⟨fun ts Q E c => G.len ts Q E (h ts Q E c), fun A outer s H args us vs F O ts QT ET E tbs hr hg e0 hb r b sv hsp hE => G.run A outer s H args us vs F O ts QT ET E tbs hr hg e0 hb r b sv (h ts QT ET hsp) hE⟩
end QL

/-! QTJ: classes and methods called by names alone. -/
namespace QL
open PySem PySem.Spec PyProof.Rows L2
/-- what is written by names, behind the object -/
def KwOkS (K : PySem.W.Frag) (fd : FuncData) (ps ks : List Str) (ns : List Nat) : Prop := ∀ (s : Shared) (v : Value) (us : List Value), K.In s.heap → us.length = ks.length → BindsTo s fd ⟨[v], ks.zip us⟩ (ps.zip (v :: pick ns us))
structure MfK (P : Program) (w : World) (K : PySem.W.Frag) (mg : Str → Option Value) (base : Heap) (Tq : List (Addr × Str)) (k : Nat) (C : Addr) (m : Str) (ps ks : List Str) (ns : List Nat) (sp : Spc) : Prop where
  ex : ∃ f fd, FnG P w K mg base Tq k f fd ps sp ∧ Cls K C ∧ Meth K C m f ∧ KwOkS K fd ps ks ns
theorem MfK.mono {P : Program} {w : World} {K : PySem.W.Frag} {mg : Str → Option Value} {base : Heap} {Tq : List (Addr × Str)} {j k : Nat} {C : Addr} {m : Str} {ps ks : List Str} {ns : List Nat} {sp : Spc} (G : MfK P w K mg base Tq j C m ps ks ns sp) (h : j ≤ k) : MfK P w K mg base Tq k C m ps ks ns sp :=
  let ⟨f, fd, g, r⟩ := G.ex; ⟨f, fd, g.mono h, r⟩
structure CkK (P : Program) (w : World) (K : PySem.W.Frag) (mg : Str → Option Value) (base : Heap) (Tq : List (Addr × Str)) (k : Nat) (x : Str) (C : Addr) (ps ks : List Str) (ns : List Nat) (sp : Spc) : Prop where
  ex : ∃ f fd, FnG P w K mg base Tq k f fd ps sp ∧ Mk K C f ∧ mg x = some (.ref C) ∧ KwOkS K fd ps ks ns
theorem CkK.mono {P : Program} {w : World} {K : PySem.W.Frag} {mg : Str → Option Value} {base : Heap} {Tq : List (Addr × Str)} {j k : Nat} {x : Str} {C : Addr} {ps ks : List Str} {ns : List Nat} {sp : Spc} (G : CkK P w K mg base Tq j x C ps ks ns sp) (h : j ≤ k) : CkK P w K mg base Tq k x C ps ks ns sp :=
  let ⟨f, fd, g, r⟩ := G.ex; ⟨f, fd, g.mono h, r⟩
section
variable {Tq : List (Addr × Str)} {Z : Zb Tq} {X : Cx} {e a b c o value : Expr} {es : List Expr} {env : Env} {pos pos' apos p : Pos} {P : R → Env → Prop} {f x m : Str} {k : Nat} {C : Addr} {ps ks : List Str} {ns : List Nat} {sp : Spc} {kws : List Keyword}
theorem make_gK {us0 : List Value} {kw : List (Str × Value)} {fI : Addr} {fd : FuncData} {ET : Ex → Env → Prop} {as : List A} {vs : List V} {us : List Value} {pins : List (Addr × Obj)} {s : Shared} {σ : L2.St} {H F : Hp} {O : List Addr}
    (M : Mk X.K C fI) (G : FnG X.prog X.w X.K X.mg X.base Tq k fI fd ps sp) (hr : Room (k + 1) X.A) (hg : X.A.guards = some []) (tk : Takes X (wxOf Z ET)) (hb : ∀ (s : Shared) (v : Value), X.K.In s.heap → ps.length = us.length + 1 → BindsTo s fd ⟨v :: us0, kw⟩ (ps.zip (v :: us))) (I : Inv X pins σ H s) (b : Bas Z F H O) (o : OwE F H O σ env)
    (st : StAs F vs as) (r : Vals vs us) (h : callN sp C as env (fun t e => P (.t t) e) ET) : wpAny (model X.prog X.w) X.A (call (.ref C) us0 kw) (EP X pins σ (Post Z σ H F O P)) X.xe s := by
  have nx : H (s.heap.objs.size + 1) = none := I.hok.fresh (Nat.le_succ _)
  have ndx : H s.heap.objs.size = none := I.hok.fresh (Nat.le_refl _)
  have nex : s.heap.objs.size ≠ s.heap.objs.size + 1 := Nat.ne_of_lt (Nat.lt_succ_self _)
  have h := h (s.heap.objs.size + 1)
  have I2 := Inv.made (C := C) I
  generalize eH : upd (upd H s.heap.objs.size (.own (s.heap.objs.size + 1))) (s.heap.objs.size + 1) (.ins C s.heap.objs.size []) = H2 at I2
  have h2x : H2 (s.heap.objs.size + 1) = some (.ins C s.heap.objs.size []) := by rw [← eH, upd_same]
  have h2d : H2 s.heap.objs.size = some (.own (s.heap.objs.size + 1)) := by rw [← eH, upd_ne nex, upd_same]
  have s2 : Same H H2 := fun c y e => by rw [← eH, upd_ne (ne_of_none e nx), upd_ne (ne_of_none e ndx)]; exact e
  obtain ⟨ts, e2, Oc, Or, pm, sv, o2, h⟩ := deref_ok st o h
  have ex : ∀ c ∈ Or, Held H c := o2.held
  have exc : ∀ c ∈ Oc, Held H c := fun c hc => o.held c (pm.mem_iff.mpr (List.mem_append_left _ hc))
  have keep2 : ∀ c, H c ≠ none → H2 c = H c := fun c hc => by
    cases q : H c with
    | none => exact absurd q hc
    | some y => exact s2 c y q
  -- the new instance beside the arguments
  have Fx : F (s.heap.objs.size + 1) = none := b.sub.free nx
  have Fd : F s.heap.objs.size = none := b.sub.free ndx
  have fr0 : Frm Tq H F O H2 F (O ++ [s.heap.objs.size + 1, s.heap.objs.size]) := ⟨Same.refl _, fun c y e _ _ => s2 c y e, fun c e => by rw [keep2 c e]; exact e, fun c e => .inl e, fun c hc => by
    rcases List.mem_append.mp hc with z | z
    · exact .inl z
    · rcases List.mem_cons.mp z with rfl | z
      · exact .inr nx
      · rw [List.mem_singleton.mp z]; exact .inr ndx, tab_same s2⟩
  have b0 : Bas Z F H2 (O ++ [s.heap.objs.size + 1, s.heap.objs.size]) := ⟨b.sub.trans s2, List.nodup_append.mpr ⟨b.nd, List.nodup_cons.mpr ⟨fun z => nex (List.mem_singleton.mp z).symm, List.nodup_cons.mpr ⟨fun z => (nomatch z), List.nodup_nil⟩⟩, fun c hc d hd z => by
      subst z
      have := o.there c hc
      rcases List.mem_cons.mp hd with z | z
      · exact this (z ▸ nx)
      · exact this ((List.mem_singleton.mp z) ▸ ndx)⟩, fun c hc => by
      rcases List.mem_append.mp hc with z | z
      · exact b.dis c z
      · rcases List.mem_cons.mp z with rfl | z
        · exact Fx
        · rw [List.mem_singleton.mp z]; exact Fd, b.abs.trans fr0⟩
  have pm2 : (O ++ [s.heap.objs.size + 1, s.heap.objs.size]).Perm (((s.heap.objs.size + 1) :: s.heap.objs.size :: Oc) ++ Or) := (List.perm_append_comm (l₁ := O)).trans ((pm.cons s.heap.objs.size).cons (s.heap.objs.size + 1))
  have bc := (b0.perm pm2).left.entry
  have sv2 : StV F H2 ((s.heap.objs.size + 1) :: s.heap.objs.size :: Oc) (.ref (s.heap.objs.size + 1) :: vs) (.ins (s.heap.objs.size + 1) C [] :: ts) := by
    have w0 : Ow F H2 [s.heap.objs.size + 1, s.heap.objs.size] (.ref (s.heap.objs.size + 1)) (.ins (s.heap.objs.size + 1) C []) := .ins h2x h2d .nil
    have svs : StV F H2 Oc vs ts := by
      have key : ∀ {Oc : List Addr} {vs : List V} {ts : List T}, StV F H Oc vs ts → (∀ c ∈ Oc, H2 c = H c) → StV F H2 Oc vs ts := fun {Oc vs ts} z => by
        induction z with
        | nil => intro _; exact .nil
        | cons w r ih => intro kk; exact .cons (w.stay (Same.refl _) fun c hc => kk c (List.mem_append_left _ hc)) (ih fun c hc => kk c (List.mem_append_right _ hc))
      exact key sv fun c hc => keep2 c (exc c hc).ne
    exact .cons w0 svs
  have r2 : Vals (V.ref (s.heap.objs.size + 1) :: vs) (Value.ref (s.heap.objs.size + 1) :: us) := .cons rfl r
  have hl : (Value.ref (s.heap.objs.size + 1) :: us ++ []).length = ps.length := by
    rw [List.append_nil, ← r2.length, sv2.len, G.len _ _ _ h]
  have ex2 : ∀ c ∈ Or, Held H2 c := fun c hc => let ⟨y, e, n⟩ := ex c hc; ⟨y, s2 c y e, n⟩
  refine wpAny_call (make_map (f := fI) I.kIn M.makes M.init (beq_iff_eq.mp M.fn) ?_)
  have hb2 := hb _ (Value.ref (s.heap.objs.size + 1)) I2.kIn (by rw [List.append_nil] at hl; exact hl.symm)
  have run := G.run (X.A.under (.builtin "type.__call__" ⟨.ref C :: us0, kw⟩)) X.stack _ H2 ⟨Value.ref (s.heap.objs.size + 1) :: us0, kw⟩ (Value.ref (s.heap.objs.size + 1) :: us) (V.ref (s.heap.objs.size + 1) :: vs) F ((s.heap.objs.size + 1) :: s.heap.objs.size :: Oc) (.ins (s.heap.objs.size + 1) C [] :: ts) _ _
    (fun cls d H' => ∃ e ts' F' O', Bas ⟨H2, F, (s.heap.objs.size + 1) :: s.heap.objs.size :: Oc, (b0.perm pm2).left.tabs⟩ F' H' O' ∧ StVO F' H' O' (.ref (s.heap.objs.size + 1) :: vs) ts' ∧ ExAt F' e cls d ∧ (match ts' with | _ :: ts'' => putb as ts'' e2 fun e3 => ET e e3 | [] => False)) (b0.perm pm2).left.tabs (hr.make C us0 kw) (guards_make hg) (I2.env0.make C us0 kw) hb2 r2 bc sv2 h
    fun e ts' cls d H' F' O' b' s' x' q => ⟨e, ts', F', O', b', s', x', q⟩
  refine codeAny_mono (run) fun rs s' hq => ?_
  have back : ∀ {F' H' : Hp} {O1 O2 : List Addr} {ts' : List (Option T)} {kk : Env → Prop}, Bas ⟨H2, F, _ :: s.heap.objs.size :: Oc, (b0.perm pm2).left.tabs⟩ F' H' (O1 ++ O2) → StVO F' H' O1 vs ts' → putb as ts' e2 kk →
      ∃ e3 O3, OwE F' H' O3 σ e3 ∧ Bas Z F' H' (O3 ++ O2) ∧ Frm Tq H F O H' F' (O3 ++ O2) ∧ kk e3 := fun {F' H' O1 O2 ts' kk} b' s' q => by
    have fr := b'.abs
    have b3 := Bas.frame fr (b0.perm pm2) b' ex2
    have keep := fr.rest (R := Or) (pm2.nodup b0.nd) ex2
    obtain ⟨e3, O3, Od, o3, p3, q3⟩ := putb_ok (F := F') (H := H') (st) s' (o2.stay fr.fz fun c hc => (keep c hc).trans (keep2 c (ex c hc).ne)) q
    have p4 : ((O1 ++ O2) ++ Or).Perm ((O3 ++ O2) ++ Od) := by
      have e1 : ((O1 ++ O2) ++ Or).Perm ((O1 ++ Or) ++ O2) := by
        rw [List.append_assoc, List.append_assoc]
        exact List.perm_append_comm.append_left O1
      have e2 : ((O3 ++ O2) ++ Od).Perm ((O3 ++ Od) ++ O2) := by
        rw [List.append_assoc, List.append_assoc]
        exact List.perm_append_comm.append_left O3
      exact e1.trans ((p3.append_right O2).trans e2.symm)
    exact ⟨e3, O3, o3, (b3.perm p4).left, fr0.trans ((fr.frame (R := Or)).perm (fun c => pm2.symm.mem_iff) (fun c hc => p4.mem_iff.mpr (List.mem_append_left _ hc))), q3⟩
  cases rs with
  | error e =>
    refine tk e s' (XE.of_call I2 (fun cls d H' hE => ?_) hq)
    obtain ⟨y, ts', F', O', b', sv', xa, q⟩ := hE
    cases sv' with
    | un sv' =>
      obtain ⟨e3, O3, o3, b3, fr3, q3⟩ := back (O2 := []) (by rw [List.append_nil]; exact b') sv' q
      rw [List.append_nil] at b3 fr3
      exact ⟨F', O3, e3, y, b3, o3, xa, q3⟩
    | cons w sv' =>
      rename_i Ou O1' u ts''
      obtain ⟨e3, O3, o3, b3, fr3, q3⟩ := back (O1 := O1') (O2 := Ou) (b'.perm List.perm_append_comm) sv' q
      exact ⟨F', O3, e3, y, b3.left, o3, xa, q3⟩
  | ok fl =>
    cases fl with
    | ret u =>
      obtain ⟨v, H', I3, rv, F', O1, O2, t, ts', b', sv', w', rfl, q⟩ := I2.after hq
      cases w' with
      | va rr =>
        cases rr
        refine ⟨rv, ?_⟩
        cases sv' with
        | un sv' => exact q.elim
        | cons w sv' =>
          rename_i Ou O1' u ts''
          obtain ⟨hu, q⟩ := q
          have pmx : ((Ou ++ O1') ++ []).Perm (O1' ++ Ou) := by rw [List.append_nil]; exact List.perm_append_comm
          obtain ⟨e3, O3, o3, b3, fr3, q3⟩ := back (O1 := O1') (O2 := Ou) (b'.perm pmx) sv' q
          exact ⟨V.ref (s.heap.objs.size + 1), H', I3, rfl, F', O3 ++ Ou, .t u, e3, b3, ⟨O3, Ou, rfl, o3, w⟩, fr3, q3⟩
    | next => exact hq.elim
    | brk => exact hq.elim
    | cont => exact hq.elim

end
end QL

/-! QS: a, b, c = x, y, z. -/
namespace QL
open PySem PySem.Spec PyProof.Rows L2
section
variable {Tq : List (Addr × Str)} {Z : Zb Tq} {X : Cx} {env : Env} {PO : Out → Prop} {a b c : Expr} {pos : Pos}
theorem ws_par3 (i j l : Nat) {x y z : Str} {px py pz pt : Pos} {kt k2 pt2} (hc : X.calm = true) (hN : X.N.Nodup)
    (h : WAs Z X [a, b, c] env fun as e1 => absorb as e1 fun ds e2 => ∃ d1 d2 d3, ds = [d1, d2, d3] ∧ i < e2.length ∧ j < e2.length ∧ l < e2.length ∧ PO (.nx (((e2.set i (some (.va d1))).set j (some (.va d2))).set l (some (.va d3)))))
    (hi : X.N[i]? = some x := by rfl) (hj : X.N[j]? = some y := by rfl) (hl : X.N[l]? = some z := by rfl) (hij : i ≠ j := by decide) (hil : i ≠ l := by decide) (hjl : j ≠ l := by decide)
    (hx : X.env.scope.names.lookup x = some .local := by rfl) (hy : X.env.scope.names.lookup y = some .local := by rfl) (hz : X.env.scope.names.lookup z = some .local := by rfl)
    (hw : swappedStores [.Tuple [.Name x px, .Name y py, .Name z pz] kt pt] (.Tuple [a, b, c] k2 pt2) X.env = pure (some [x, y, z]) := by rfl)
    (hs : swapsWithSole [.Tuple [.Name x px, .Name y py, .Name z pz] kt pt] (.Tuple [a, b, c] k2 pt2) pos.line X.env = pure false := by rfl) :
    WS Z X (.Assign [.Tuple [.Name x px, .Name y py, .Name z pz] kt pt] (.Tuple [a, b, c] k2 pt2) pos) env PO :=
  ws_of (ps_par3 hc hN hi hj hl hij hil hjl hx hy hz (pa_As (Z := Z)) hw hs) fun σ H F O b0 o => by
    refine ⟨env, F, O, _, b0, o, h, fun vs H1 ⟨F1, O1, as, e1, b1, o1, st1, fr1, h1⟩ => ?_⟩
    obtain ⟨F2, O2, ds, e2, b2, o2, r2, fr2, d1, d2, d3, hd, li, lj, ll, p⟩ := absorb_ok st1 b1 o1 h1
    subst hd
    cases r2 with
    | @cons v1 _ _ _ q1 r2 =>
    cases r2 with
    | @cons v2 _ _ _ q2 r2 =>
    cases r2 with
    | @cons v3 _ _ _ q3 r2 =>
    cases r2
    obtain ⟨O5, P5, o5, p5⟩ := o2.set i (.va q1) li
    obtain ⟨O6, P6, o6, p6⟩ := o5.set j (.va q2) (by rw [List.length_set]; exact lj)
    obtain ⟨O7, P7, o7, p7⟩ := o6.set l (.va q3) (by rw [List.length_set, List.length_set]; exact ll)
    rw [List.nil_append] at p5 p6 p7
    obtain ⟨b5, f5⟩ := b2.dropP p5
    obtain ⟨b6, f6⟩ := b5.dropP p6
    obtain ⟨b7, f7⟩ := b6.dropP p7
    exact ⟨v1, v2, v3, rfl, F2, O7, _, b7, o7, (((fr1.trans fr2).trans f5).trans f6).trans f7, p⟩
end
end QL

/-! QT: dicts: d[k]; dicts locked for good. -/
namespace QL
open PySem PySem.Spec PyProof.Rows L2
def valT (kvs : List (Key × D)) (k : Key) : Option D := (kvs.find? fun kv => decide (kv.1 = k)).map (·.2)
theorem kD_inj : ∀ {a b : Key}, kD a = kD b → a = b
  | .inl _, .inl _, h => by cases h; rfl
  | .inr _, .inr _, h => by cases h; rfl
  | .inl _, .inr _, h => nomatch h
  | .inr _, .inl _, h => nomatch h
theorem RpK.val {F : Hp} : ∀ {kvs : List (Key × V)} {ds : List (Key × D)} {k : Key} {d : D}, RpK F kvs (ds.map fun p => (kD p.1, p.2)) → valT ds k = some d → ∃ v, valV kvs k = some v ∧ Rp F v d
  | [], [], k, d, _, h => nomatch h
  | [], q :: ds, k, d, r, h => nomatch r
  | p :: kvs, [], k, d, r, h => nomatch r
  | p :: kvs, q :: ds, k, d, r, h => by
    obtain ⟨k1, v1⟩ := p
    obtain ⟨k2, d2⟩ := q
    have r' : RpK F ((k1, v1) :: kvs) ((kD k2, d2) :: ds.map fun p => (kD p.1, p.2)) := r
    generalize hz : kD k2 = z at r'
    cases r' with
    | cons r1 r2 =>
      have ek : k2 = k1 := kD_inj hz
      subst ek
      unfold valT valV at *
      rw [List.find?_cons] at h ⊢
      by_cases e : k2 = k
      · simp only [e, decide_true] at h ⊢
        cases h
        exact ⟨v1, rfl, r1⟩
      · simp only [e, decide_false] at h ⊢
        exact RpK.val r2 h
def dixG (d1 d2 : D) (k : T → Prop) : Prop := ∃ (kvs : List (Key × D)) (y : Key) (v : D), d1 = .dict (kvs.map fun p => (kD p.1, p.2)) ∧ d2 = kD y ∧ valT kvs y = some v ∧ k (.va v)
section
variable {Tq : List (Addr × Str)} {Z : Zb Tq} {X : Cx} {env : Env} {P : R → Env → Prop} {a b : Expr} {pos : Pos}
theorem Rp.key {F : Hp} {v : V} {y : Key} (r : Rp F v (kD y)) : v = kV y := by
  cases y with
  | inl i => cases r; rfl
  | inr x => cases r; rfl
theorem w_dix (hu : X.A.units + 1 < cLine) (h : WA Z X a env fun a1 e1 => WA Z X b e1 fun a2 e2 => View a1 e2 fun d1 => View a2 e2 fun d2 => dixG d1 d2 fun t => P (.t t) e2) (hs : NoSl b := by intro _ _; rfl) : WE Z X (.Subscript a b pos) env P :=
  we_of (pe_dget hu (pe_A (Z := Z)) (pe_A (Z := Z)) hs) fun σ H F O b0 o => ⟨env, F, O, _, b0, o, h, fun x H1 ⟨F1, O1, a1, e1, b1, o1, st1, fr1, h1⟩ => ⟨e1, F1, O1, _, b1, o1, h1, fun y H2 ⟨F2, O2, a2, e2, b2, o2, st2, fr2, h2⟩ => by
    obtain ⟨d1, w1, h3⟩ := View.vw h2 o2 (st1.mono fr2.fz)
    obtain ⟨d2, w2, kvs, k, v, rfl, rfl, hv, q⟩ := View.vw h3 o2 st2
    have ey : y = kV k := by
      cases k with
      | inl i => cases w2; rename_i r; exact r.key (y := .inl i)
      | inr x => cases w2; rename_i r; exact r.key (y := .inr x)
    cases w1 with
    | pure r =>
      cases r with
      | dic hd rk =>
        obtain ⟨z, hz, rz⟩ := RpK.val rk hv
        refine ⟨_, z, rfl, .inl ⟨_, k, rd_mono b2.sub hd, ey, hz.symm⟩, ?_⟩
        exact ⟨F2, O2, .t (.va v), e2, b2, ⟨O2, [], (List.append_nil O2).symm, o2, .va rz⟩, fr1.trans fr2, q⟩
    | dic hd rk =>
      obtain ⟨z, hz, rz⟩ := RpK.val rk hv
      refine ⟨_, z, rfl, .inl ⟨_, k, .inl hd, ey, hz.symm⟩, ?_⟩
      exact ⟨F2, O2, .t (.va v), e2, b2, ⟨O2, [], (List.append_nil O2).symm, o2, .va rz⟩, fr1.trans fr2, q⟩⟩⟩
theorem RpT.at_ {F : Hp} : ∀ {vs : List (Key × V)} {ds : List (Key × D)} {i : Nat} {k : Key} {d : D}, RpT F vs ds → ds[i]? = some (k, d) → ∃ v, vs[i]? = some (k, v) ∧ Rp F v d
  | _, _, i, k, d, .nil, h => by simp at h
  | _, _, 0, k, d, .cons r _, h => by simp at h; obtain ⟨rfl, rfl⟩ := h; exact ⟨_, rfl, r⟩
  | _, _, i + 1, k, d, .cons _ r, h => by
    rw [List.getElem?_cons_succ] at h ⊢
    exact RpT.at_ r h
theorem RpT.len {F : Hp} : ∀ {vs : List (Key × V)} {ds : List (Key × D)}, RpT F vs ds → vs.length = ds.length
  | _, _, .nil => rfl
  | _, _, .cons _ r => congrArg (· + 1) r.len
theorem rp_key {F : Hp} : ∀ (k : Key), Rp F (kV k) (kD k)
  | .inl i => .int i
  | .inr x => .str x
theorem gives_items {a : Addr} {o : Obj} {vs : List (Key × V)} {ds : List (Key × D)} {F : Hp} (h : F a = some (.frz o (.dK vs))) (r : RpT F vs ds) : Gives (Iti a o vs) (ds.map fun p => PyData.tuple [kD p.1, p.2]) F := fun F' H' s1 s2 i => by
  have q := s2 _ _ (s1 _ _ h)
  have hl := r.len
  refine ⟨fun d hd => ?_, fun hn => ?_⟩
  · rw [List.getElem?_map, Option.map_eq_some_iff] at hd
    obtain ⟨⟨k, d1⟩, hz, e⟩ := hd
    subst e
    obtain ⟨v1, g1, w1⟩ := r.at_ hz
    refine ⟨⟨q, (List.getElem?_eq_some_iff.mp g1).1⟩, fun v H'' ⟨T, k2, v2, g2, ev, hT, eH⟩ => ?_⟩
    subst ev eH
    have e1 := g2.symm.trans g1
    cases e1
    have nf : F' T = none := s2.free hT
    refine ⟨upd F' T (.tup [kV k, v1]), .tup (.inl upd_same) (.cons (rp_key k) (.cons (w1.mono (s1.trans (same_new nf))) .nil)), same_new nf, same_new hT, same_upd2 s2, fun c hc => ?_⟩
    by_cases z : c = T
    · subst z; exact .inr hT
    · rw [upd_ne z] at hc; exact .inl hc
  · rw [List.getElem?_eq_none_iff, List.length_map] at hn
    exact ⟨q, by omega⟩
def itemsR (r : R) (e1 : Env) (k : List D → Prop) : Prop := match r with
  | .bor a i p => match getP i p e1 with
    | some (.fdc a' kvs) => a' = a ∧ k (kvs.map fun p => PyData.tuple [kD p.1, p.2])
    | _ => False
  | _ => False
theorem wi_items {P : List D → Env → Prop} {e : Expr} {apos cpos tpos : Pos} {elts : List Expr} {kk : Nat} (h : WE Z X e env fun r e1 => itemsR r e1 fun xs => P xs e1)
    (hbase : attributeBase e "items" X.env (eval e X.env) = eval e X.env := by rfl) (hline : (apos.endLine == cpos.line) = true := by rfl) :
    WI Z X (.Tuple elts kk tpos) (.Call (.Attribute e "items" apos) [] [] cpos) env P :=
  wi_of (pi_items (pe_E (Z := Z)) hbase hline) fun σ H F O b0 o0 => ⟨env, F, O, _, b0, o0, h, fun x H1 ⟨F1, O1, r, e1, b1, st, fr, q⟩ => by
    unfold itemsR at q
    cases r with
    | t t => exact q.elim
    | bor a i p =>
      simp only at q
      obtain ⟨o1, ex⟩ := st
      subst ex
      cases hg : getP i p e1 with
      | none => rw [hg] at q; exact q.elim
      | some u =>
        rw [hg] at q
        obtain ⟨w, ⟨Oj, O', h1, _, _⟩, _⟩ := o1.focus hg
        cases h1 with
        | fdc hf rt =>
          obtain ⟨rfl, q⟩ := q
          exact ⟨_, _, _, rfl, b1.sub _ _ hf, F1, O1, _, e1, b1, o1, fr, gives_items hf rt, q⟩
        | _ => exact q.elim⟩
end
end QL

/-! QTd: a dict comprehension whose dict is locked for good. -/
namespace QL
open PySem PySem.Spec PyProof.Rows L2
/-- as a value that is locked from now on -/
def tDcL (wi : TI) (g : TG) (tt : TT) (tk tv : TE) (vs : List Nat) : TE := fun σ H Q => tDc wi g tt tk tv vs σ H fun v H1 => ∃ D kvs, v = .ref D ∧ H1 D = some (.dK kvs) ∧ ∀ od, Q v (upd H1 D (.frz od (.dK kvs)))
theorem RpT.app {F : Hp} {k : Key} {v : V} {d : D} : ∀ {vs : List (Key × V)} {ds : List (Key × D)}, RpT F vs ds → Rp F v d → RpT F (vs ++ [(k, v)]) (ds ++ [(k, d)])
  | _, _, .nil, r => .cons r .nil
  | _, _, .cons r1 r2, r => .cons r1 (r2.app r)
theorem RpT.put {F : Hp} {k : Key} {v : V} {d : D} {vs : List (Key × V)} {ds : List (Key × D)} (r : RpT F vs ds) (q : Rp F v d) (h : ∀ p ∈ ds, p.1 ≠ k) : RpT F (putK vs k v) (ds ++ [(k, d)]) := by
  have e : (vs.any fun kv => decide (kv.1 = k)) = false := by
    induction r with
    | nil => rfl
    | cons r1 r2 ih =>
      rw [List.any_cons, ih fun p hp => h p (List.mem_cons_of_mem _ hp), decide_eq_false (h _ List.mem_cons_self)]
      rfl
  unfold putK
  rw [e, if_neg (by decide)]
  exact r.app q
section
variable {Tq : List (Addr × Str)} {Z : Zb Tq} {X : Cx} {env : Env} {PR : R → Env → Prop} {tg iter kx vx c : Expr} {pos : Pos}
/-- one turn's entry -/
def ElD {Tq : List (Addr × Str)} (Z : Zb Tq) (X : Cx) (scope : Scope) (kx vx : Expr) (vs : List Nat) (I : List (Key × D) → Env → Prop) (acc : List (Key × D)) (e2 : Env) : Prop :=
  Blk X scope fun X' => WA Z X' kx e2 fun a3 e3 => ∃ k : Key, a3 = .va (kD k) ∧ Blk X scope fun X' => WA Z X' vx e3 fun a4 e4 => ∃ y, a4 = .va y ∧ acc.length < sizeLine ∧ (∀ p ∈ acc, p.1 ≠ k) ∧ I (acc ++ [(k, y)]) (wipeE e4 vs)
structure DcI {Tq : List (Addr × Str)} (Z : Zb Tq) (X : Cx) (scope : Scope) (f : TF) (kx vx : Expr) (vs : List Nat) (T : Env → (Bool → Env → Prop) → Prop) (P : R → Env → Prop) (ds : List D) (e1 : Env) : Prop where
  ex : ∃ I : Nat → List (Key × D) → Env → Prop, I 0 [] (wipeE e1 vs) ∧ (∀ k d acc e, ds[k]? = some d → I k acc e → f d e fun e' => T e' fun bb e2 => (bb = true → ElD Z X scope kx vx vs (I (k + 1)) acc e2) ∧ (bb = false → I (k + 1) acc (wipeE e2 vs))) ∧
    ∀ acc e, I ds.length acc e → ∀ p, P (.t (.fdc p acc)) e
theorem dc_read {g : TG} {f : TF} {ix : List Nat} {scope : Scope} {vs : List Nat} {tt : TT} {T : Env → (Bool → Env → Prop) → Prop} (gk : GOk Z g f ix) (hix : ∀ i ∈ ix, i ∈ vs)
    (tk : ∀ σ H F O env k (Q : Bool → Hp → Prop), Bas Z F H O → OwE F H O σ env → T env k → (∀ bb H' F' O' e', Bas Z F' H' O' → OwE F' H' O' σ e' → Frm Tq H F O H' F' O' → k bb e' → Q bb H') → tt σ H Q)
    {σ0 : L2.St} {H0 F0 : Hp} {O0 : List Addr} (b0 : Bas Z F0 H0 O0) (o0 : OwE F0 H0 O0 σ0 env) (h : WI Z X tg iter env (DcI Z X scope f kx vx vs T PR)) :
    tDcL (tI Z X tg iter) g tt (tAB Z X scope kx) (tAB Z X scope vx) vs σ0 H0 (Post Z σ0 H0 F0 O0 PR) := by
  refine ⟨env, F0, O0, _, b0, o0, h, fun J H1 F1 O1 ds e1 b1 o1 fr1 gv ⟨I, i0, step, done⟩ D hD => ?_⟩
  have fD : F1 D = none := b1.sub.free hD
  refine ⟨fun i m H => m = ds.length - i ∧ i ≤ ds.length ∧ ∃ F O e e0 acc accV, Bas Z F H (O ++ [D]) ∧ OwE F H O (wipe σ0 vs) e ∧ e = wipeE e0 vs ∧ H D = some (.dK accV) ∧ RpT F accV acc ∧ Frm Tq H1 F1 O1 H F (O ++ [D]) ∧ I i acc e, ⟨_, rfl, Nat.zero_le _, ?_⟩, ?_⟩
  · -- the start
    obtain ⟨O2, Od, h2, h3⟩ := o1.wipeO vs
    have hn : ∀ a ∈ O1, a ≠ D := fun a ha z => by subst z; exact o1.there a ha hD
    have fr : Frm Tq H1 F1 O1 (upd H1 D (.dK [])) F1 (O2 ++ [D]) := ⟨Same.refl _, fun a o e _ _ => same_new hD a o e, fun a e => by
      by_cases z : a = D
      · subst z; rw [upd_same]; exact fun z => nomatch z
      · rw [upd_ne z]; exact e, fun a e => .inl e, fun a ha => (List.mem_append.mp ha).elim (fun z => .inl (h3.mem_iff.mpr (List.mem_append_left _ z))) fun z => .inr (by rw [List.mem_singleton.mp z]; exact hD), tab_new hD⟩
    have b2 := (b1.dropP h3).1
    refine ⟨F1, O2, wipeE e1 vs, e1, [], [], ⟨b1.sub.trans (same_new hD), List.nodup_append.mpr ⟨b2.nd, List.nodup_cons.mpr ⟨fun z => (nomatch z), List.nodup_nil⟩, fun a ha c hc z => ?_⟩, fun a ha => ?_, b1.abs.trans fr⟩, ?_, rfl, upd_same, .nil, fr, i0⟩
    · rw [List.mem_singleton.mp hc] at z
      exact hn a (h3.mem_iff.mpr (List.mem_append_left _ ha)) z
    · rcases List.mem_append.mp ha with ha | ha
      · exact b2.dis a ha
      · rw [List.mem_singleton.mp ha]; exact fD
    · have o3 : OwE F1 (upd H1 D (.dK [])) O2 σ0 (wipeE e1 vs) := h2.stay (Same.refl _) fun a ha => upd_ne (hn a (h3.mem_iff.mpr (List.mem_append_left _ ha)))
      exact o3.wiped wipe_wipe
  · rintro i m H ⟨rfl, hi, F, O, e, e0, acc, accV, b, o, he0, hDl, rA, fr, hI⟩
    obtain ⟨g1, g2⟩ := gv F H fr.fz b.sub i
    by_cases hlt : i < ds.length
    · obtain ⟨go, yl⟩ := g1 ds[i] (List.getElem?_eq_getElem hlt)
      refine .inr ⟨go, fun H' => ∃ F O e e0 acc accV, Bas Z F H' (O ++ [D]) ∧ OwE F H' O (wipe σ0 vs) e ∧ e = wipeE e0 vs ∧ H' D = some (.dK accV) ∧ RpT F accV acc ∧ Frm Tq H1 F1 O1 H' F (O ++ [D]) ∧ I (i + 1) acc e, fun H' q => ⟨ds.length - (i + 1), by omega, rfl, hlt, q⟩, fun x H' y => ?_⟩
      obtain ⟨F', rx, s1, s2, s3, nf⟩ := yl x H' y
      have dD : ∀ a ∈ [D], Held H a := fun a ha => by rw [List.mem_singleton.mp ha]; exact ⟨_, hDl, fun _ z => nomatch z⟩
      have bL := b.left
      obtain ⟨b2, o2, fr2⟩ := bL.grow o s1 s2 s3 nf
      have b2D : Bas Z F' H' (O ++ [D]) := Bas.frame fr2 b b2 dD
      refine gk x _ (wipe σ0 vs) H' F' O e _ _ b2 o2 rx (step i _ acc e (List.getElem?_eq_getElem hlt) hI) fun σ3 O3 e3 b3 o3 s3' w3 h3 => ?_
      have hw : wipe σ3 vs = wipe (wipe σ0 vs) vs := w3 vs hix
      rw [wipe_wipe] at hw
      refine ⟨hw, ?_⟩
      have hD3 : H' D = some (.dK accV) := s2 _ _ hDl
      have dD3 : ∀ a ∈ [D], Held H' a := fun a ha => by rw [List.mem_singleton.mp ha]; exact ⟨_, hD3, fun _ z => nomatch z⟩
      have fr23 : Frm Tq H F O H' F' O3 := fr2.perm (fun _ => Iff.rfl) s3'
      have b3D : Bas Z F' H' (O3 ++ [D]) := Bas.frame fr23 b b3 dD
      have frD : Frm Tq H1 F1 O1 H' F' (O3 ++ [D]) := fr.trans fr23.frame
      refine tk σ3 H' F' O3 e3 _ _ b3 o3 h3 fun bb H4 F4 O4 e4 b4 o4 fr4 h4 => ?_
      have hD4 : H4 D = some (.dK accV) := fr4.out D _ hD3 (fun _ z => nomatch z) fun z => (List.nodup_append.mp b3D.nd).2.2 D z D (List.mem_singleton.mpr rfl) rfl
      have b4D : Bas Z F4 H4 (O4 ++ [D]) := Bas.frame fr4 b3D b4 dD3
      have frD4 : Frm Tq H1 F1 O1 H4 F4 (O4 ++ [D]) := frD.trans fr4.frame
      have dD4 : ∀ a ∈ [D], Held H4 a := fun a ha => by rw [List.mem_singleton.mp ha]; exact ⟨_, hD4, fun _ z => nomatch z⟩
      -- a turn's end
      have fin : ∀ {H5 F5 : Hp} {O5 : List Addr} {e5 : Env} {acc5 : List (Key × PyData)} {accV5 : List (Key × V)}, Bas Z F5 H5 (O5 ++ [D]) → OwE F5 H5 O5 σ3 e5 → H5 D = some (.dK accV5) → RpT F5 accV5 acc5 → Frm Tq H1 F1 O1 H5 F5 (O5 ++ [D]) → I (i + 1) acc5 (wipeE e5 vs) →
          ∃ F O e e0 acc accV, Bas Z F H5 (O ++ [D]) ∧ OwE F H5 O (wipe σ0 vs) e ∧ e = wipeE e0 vs ∧ H5 D = some (.dK accV) ∧ RpT F accV acc ∧ Frm Tq H1 F1 O1 H5 F (O ++ [D]) ∧ I (i + 1) acc e := fun {H5 F5 O5 e5 acc5 accV5} b5 o5 hD5 r5 fr5 hI5 => by
        obtain ⟨O6, Od6, h6, p6⟩ := o5.wipeO vs
        have p6' : (O5 ++ [D]).Perm ((O6 ++ [D]) ++ Od6) := (p6.append_right [D]).trans (by
          rw [List.append_assoc, List.append_assoc]
          exact List.perm_append_comm.append_left O6)
        refine ⟨F5, O6, wipeE e5 vs, e5, acc5, accV5, (b5.perm p6').left, h6.wiped ?_, rfl, hD5, r5, fr5.perm (fun _ => Iff.rfl) fun c hc => p6'.mem_iff.mpr (List.mem_append_left _ hc), hI5⟩
        rw [wipe_wipe]
        exact hw.symm
      cases bb with
      | false => exact iteF (fin b4D o4 hD4 (rA.mono (s1.trans fr4.fz)) frD4 (h4.2 rfl))
      | true =>
        refine iteT ⟨e4, F4, O4, _, b4, o4, h4.1 rfl, fun yk H5 ⟨F5, O5, a5, e5, b5, o5, st5, fr5, k, ea5, p5⟩ => ?_⟩
        subst ea5
        have eyk : yk = kV k := Rp.key st5
        have hD5 : H5 D = some (.dK accV) := fr5.out D _ hD4 (fun _ z => nomatch z) fun z => (List.nodup_append.mp b4D.nd).2.2 D z D (List.mem_singleton.mpr rfl) rfl
        have b5D : Bas Z F5 H5 (O5 ++ [D]) := Bas.frame fr5 b4D b5 dD4
        have frD5 : Frm Tq H1 F1 O1 H5 F5 (O5 ++ [D]) := frD4.trans fr5.frame
        have dD5 : ∀ a ∈ [D], Held H5 a := fun a ha => by rw [List.mem_singleton.mp ha]; exact ⟨_, hD5, fun _ z => nomatch z⟩
        refine ⟨e5, F5, O5, _, b5, o5, p5, fun y H6 ⟨F6, O6, a6, e6, b6, o6, st6, fr6, d6, ea6, hz, hk, q7⟩ => ?_⟩
        subst ea6
        have r7 : Rp F6 y d6 := st6
        have hD6 : H6 D = some (.dK accV) := fr6.out D _ hD5 (fun _ z => nomatch z) fun z => (List.nodup_append.mp b5D.nd).2.2 D z D (List.mem_singleton.mpr rfl) rfl
        have b6D : Bas Z F6 H6 (O6 ++ [D]) := Bas.frame fr6 b5D b6 dD5
        have frD6 : Frm Tq H1 F1 O1 H6 F6 (O6 ++ [D]) := frD5.trans fr6.frame
        have nD : ∀ a ∈ O6, a ≠ D := fun a ha z => (List.nodup_append.mp b6D.nd).2.2 a ha D (List.mem_singleton.mpr rfl) z
        have fD6 : F6 D = none := b6D.dis D (List.mem_append_right _ (List.mem_singleton.mpr rfl))
        have rA6 : RpT F6 accV acc := rA.mono (s1.trans (fr4.fz.trans (fr5.fz.trans fr6.fz)))
        refine ⟨accV, k, eyk, hD6, by rw [rA6.len]; exact hz, ?_⟩
        have hs : Same F6 (upd H6 D (.dK (putK accV k y))) := fun a x ha => by
          have z : a ≠ D := fun z => by subst z; rw [fD6] at ha; cases ha
          rw [upd_ne z]; exact b6D.sub a x ha
        have fr7 : Frm Tq H6 F6 (O6 ++ [D]) (upd H6 D (.dK (putK accV k y))) F6 (O6 ++ [D]) := ⟨Same.refl _, fun a x ha _ hn => by
          rw [upd_ne fun z => hn (by rw [z]; exact List.mem_append_right _ (List.mem_singleton.mpr rfl))]; exact ha, fun a ha => by
          by_cases z : a = D
          · subst z; rw [upd_same]; exact fun z => nomatch z
          · rw [upd_ne z]; exact ha, fun a ha => .inl ha, fun a ha => .inl ha, tab_own hD6⟩
        exact fin ⟨hs, b6D.nd, b6D.dis, b6D.abs.trans fr7⟩ (o6.stay (Same.refl _) fun a ha => upd_ne (nD a ha)) upd_same (rA6.put r7 hk) (frD6.trans fr7) q7
    · have e' : i = ds.length := by omega
      subst e'
      refine .inl ⟨g2 (List.getElem?_eq_none (Nat.le_refl _)), D, accV, rfl, hDl, fun od => ?_⟩
      have nD : ∀ a ∈ O, a ≠ D := fun a ha z => (List.nodup_append.mp b.nd).2.2 a ha D (List.mem_singleton.mpr rfl) z
      have fDn : F D = none := b.dis D (List.mem_append_right _ (List.mem_singleton.mpr rfl))
      have sF : Same F (upd F D (.frz od (.dK accV))) := same_new fDn
      have sub' : Same (upd F D (.frz od (.dK accV))) (upd H D (.frz od (.dK accV))) := fun a x ha => by
        by_cases z : a = D
        · subst z; rw [upd_same] at ha ⊢; exact ha
        · rw [upd_ne z] at ha ⊢; exact b.sub a x ha
      have frL : Frm Tq H F (O ++ [D]) (upd H D (.frz od (.dK accV))) (upd F D (.frz od (.dK accV))) O := ⟨sF, fun a x ha _ hn => by
        rw [upd_ne fun z => hn (by rw [z]; exact List.mem_append_right _ (List.mem_singleton.mpr rfl))]; exact ha, fun a ha => by
        by_cases z : a = D
        · subst z; rw [upd_same]; exact fun z => nomatch z
        · rw [upd_ne z]; exact ha, fun a ha => by
        by_cases z : a = D
        · subst z; exact .inr (.inr (List.mem_append_right _ (List.mem_singleton.mpr rfl)))
        · rw [upd_ne z] at ha; exact .inl ha, fun a ha => .inl (List.mem_append_left _ ha), tab_own hDl⟩
      have bN : Bas Z (upd F D (.frz od (.dK accV))) (upd H D (.frz od (.dK accV))) O := ⟨sub', (List.nodup_append.mp b.nd).1, fun a ha => by rw [upd_ne (nD a ha)]; exact b.dis a (List.mem_append_left _ ha), b.abs.trans frL⟩
      have oN : OwE (upd F D (.frz od (.dK accV))) (upd H D (.frz od (.dK accV))) O (wipe σ0 vs) e := o.stay sF fun a ha => upd_ne (nD a ha)
      refine ⟨upd F D (.frz od (.dK accV)), O, .t (.fdc D acc), e, bN, ⟨O, [], (List.append_nil O).symm, ?_, .fdc upd_same (rA.mono sF)⟩, fr1.trans (fr.trans frL), done acc e hI D⟩
      subst he0
      exact oN.wiped wipe_wipe.symm
theorem pe_dcL {wi : TI} {g : TG} {tt : TT} {tk tv : TE} {vs : List Nat} {e : Expr} (h : PE X e (tDc wi g tt tk tv vs)) : PE X e (tDcL wi g tt tk tv vs) :=
  ⟨fun pins s σ H Q I hq => thn (h.run pins s σ H (fun v H1 => ∃ D kvs, v = .ref D ∧ H1 D = some (.dK kvs) ∧ ∀ od, Q v (upd H1 D (.frz od (.dK kvs)))) I hq) fun v s1 ⟨x, H1, I1, r, q⟩ => by
    obtain ⟨D, kvs, ex, hD, q⟩ := q
    obtain ⟨od, I2⟩ := I1.lock hD trivial
    exact ⟨x, _, I2, r, q od⟩⟩
theorem w_dcIf {g : TG} {f : TF} {ix : List Nat} {scope : Scope} {own : List (Str × Nat)} (hc : X.calm = true) (hN : X.N.Nodup) (ok : BlkOk X.N X.env.scope scope own) (hg : Blk X scope fun X' => PG X' tg g) (gk : GOk Z g f ix) (hix : ∀ i ∈ ix, i ∈ own.map (·.2))
    (h : WI Z X tg iter env (DcI Z X scope f kx vx (own.map (·.2)) (fun e k => Blk X scope fun X' => WT Z X' c e k) PR)) (hs : ∀ x, foldedSetIterable iter X.env x = pure x := by intro _; rfl) : WE Z X (.DictComp kx vx [⟨tg, iter, [c], 0⟩] scope pos) env PR :=
  we_of (pe_dcL (pe_dc (own := own) hc hN (pi_I (Z := Z)) ok hg (fun s H C cl fp => pts_one (pt_TB (Z := Z) s H C cl fp)) (pe_AB (Z := Z)) (pe_AB (Z := Z)) hs)) fun σ H F O b o =>
    dc_read gk hix (fun σ H F O env k Q b o t q => ⟨env, F, O, k, b, o, t, fun v H' ⟨F1, O1, e1, b1, o1, fr1, p⟩ => q v H' F1 O1 e1 b1 o1 fr1 p⟩) b o h
end
end QL

/-! QTe: dict comprehensions by a filter and two functions. -/
namespace QL
open PySem PySem.Spec PyProof.Rows L2
section
variable {Tq : List (Addr × Str)} {Z : Zb Tq} {X : Cx} {env : Env} {P : R → Env → Prop} {tg iter kx vx c : Expr} {pos : Pos}
theorem toA_mono {r : R} {k k' : A → Prop} (h : toA r k) (m : ∀ a, k a → k' a) : toA r k' := by
  cases r with
  | bor a i p => exact m _ h
  | t t =>
    unfold toA at h ⊢
    simp only at h ⊢
    split at h
    · exact m _ h
    · exact h.elim
theorem dc_filt {scope : Scope} {f : TF} (fm : FMo f) {vs : List Nat} {ds : List D} {e1 : Env} {α : Type} (enc : α → D) (xs : List α) (t : α → Bool) (gk : α → Key) (gv : α → D) (env0 : Env) (h0 : wipeE e1 vs = env0) (hd : ds = xs.map enc) (hl : xs.length < sizeLine) (nd : (xs.map gk).Nodup)
    (step : ∀ (k : Nat) x, xs[k]? = some x → f (enc x) env0 fun e' => Blk X scope fun X' => WT Z X' c e' fun bb e2 => bb = t x ∧ (t x = true → Blk X scope fun X' => WA Z X' kx e2 fun a3 e3 => a3 = .va (kD (gk x)) ∧ Blk X scope fun X' => WA Z X' vx e3 fun a4 e4 => a4 = .va (gv x) ∧ wipeE e4 vs = env0) ∧ (t x = false → wipeE e2 vs = env0))
    (fin : ∀ p, P (.t (.fdc p ((xs.filter t).map fun x => (gk x, gv x)))) env0) : DcI Z X scope f kx vx vs (fun e k => Blk X scope fun X' => WT Z X' c e k) P ds e1 := by
  subst hd
  refine ⟨fun k acc e => e = env0 ∧ acc = ((xs.take k).filter t).map fun x => (gk x, gv x), ⟨h0, rfl⟩, ?_, ?_⟩
  · rintro k d acc e hk ⟨rfl, rfl⟩
    rw [List.getElem?_map, Option.map_eq_some_iff] at hk
    obtain ⟨x, hx, rfl⟩ := hk
    have q := step k x hx
    have tk : xs.take (k + 1) = xs.take k ++ [x] := by rw [List.take_add_one, hx]; rfl
    refine fm.mo q fun e' w s H C cl fp => ?_
    refine WT.imp (w s H C cl fp) fun bb e2 ⟨hb, hT, hF⟩ => ?_
    subst hb
    refine ⟨fun ht s2 H2 C2 cl2 fp2 => ?_, fun hf => ⟨hF hf, ?_⟩⟩
    · refine WE.imp (hT ht s2 H2 C2 cl2 fp2) fun r e3 hr => ?_
      have key : ∀ {a : A} {e3 : Env}, (a = .va (kD (gk x)) ∧ Blk X scope fun X' => WA Z X' vx e3 fun a4 e4 => a4 = .va (gv x) ∧ wipeE e4 vs = e) → ∃ kk : Key, a = .va (kD kk) ∧ Blk X scope fun X' => WA Z X' vx e3 fun a4 e4 => ∃ y, a4 = .va y ∧ (((xs.take k).filter t).map fun x => (gk x, gv x)).length < sizeLine ∧ (∀ p ∈ (((xs.take k).filter t).map fun x => (gk x, gv x)), p.1 ≠ kk) ∧ (wipeE e4 vs = e ∧ (((xs.take k).filter t).map fun x => (gk x, gv x)) ++ [(kk, y)] = ((xs.take (k + 1)).filter t).map fun x => (gk x, gv x)) := fun {a e3} ⟨h1, h2⟩ => by
        refine ⟨gk x, h1, fun s4 H4 C4 cl4 fp4 => ?_⟩
        refine WE.imp (h2 s4 H4 C4 cl4 fp4) fun r e5 hr => ?_
        have val : ∀ {a : A} {e5 : Env}, (a = .va (gv x) ∧ wipeE e5 vs = e) → ∃ y, a = .va y ∧ (((xs.take k).filter t).map fun x => (gk x, gv x)).length < sizeLine ∧ (∀ p ∈ (((xs.take k).filter t).map fun x => (gk x, gv x)), p.1 ≠ gk x) ∧ (wipeE e5 vs = e ∧ (((xs.take k).filter t).map fun x => (gk x, gv x)) ++ [(gk x, y)] = ((xs.take (k + 1)).filter t).map fun x => (gk x, gv x)) := fun {a e5} ⟨g1, g2⟩ => by
          refine ⟨gv x, g1, ?_, fun p hp => ?_, g2, ?_⟩
          · rw [List.length_map]
            have := List.length_filter_le t (xs.take k)
            rw [List.length_take] at this
            omega
          · obtain ⟨y, hy, rfl⟩ := List.mem_map.mp hp
            have hy := (List.mem_filter.mp hy).1
            intro e9
            have hn : ((xs.take (k + 1)).map gk).Nodup := List.Sublist.nodup ((List.take_sublist _ _).map gk) nd
            rw [tk, List.map_append, List.nodup_append] at hn
            exact hn.2.2 (gk y) (List.mem_map.mpr ⟨y, hy, rfl⟩) (gk x) (by simp) e9
          · rw [tk, List.filter_append, List.map_append]
            simp [ht]
        exact toA_mono hr fun a h => val h
      exact toA_mono hr fun a h => key h
    · rw [tk, List.filter_append]
      simp [hf]
  · rintro acc e ⟨rfl, rfl⟩ p
    rw [List.length_map, List.take_length]
    exact fin p
end
end QL

/-! QTs: sorted(a set of ints), the set a comprehension. -/
namespace QL
open PySem PySem.Spec PyProof.Rows L2
/-! ### a set comprehension of ints, over the kit's turn of its loop -/
section
variable {X : Cx}
/-- what a turn adds: the int c to the set at D -/
def addsI (w : World) (D : Addr) (y : V) (H : Hp) (Nx : Hp → Prop) : Prop := ∃ (c : Int) (S : Int → Bool) (n : Nat), y = .int c ∧ H D = some (SetO w D S n) ∧ n + 1 < scanBound ∧ Nx (upd H D (SetO w D (fun j => S j || decide (j = c)) (if S c = true then n else n + 1)))
def tScI (w : World) (wi : TI) (g : TG) (te : TE) (vs : List Nat) : TE := fun σ H Q => wi σ H fun J H1 => ∀ D, H1 D = none → ∃ W : Nat → Nat → Hp → Prop, (∃ m, W 0 m (upd H1 D (SetO w D (fun _ => false) 0))) ∧ ∀ i m H, W i m H →
  (J.stop i H ∧ Q (.ref D) H) ∨ (J.go i H ∧ ∃ Nx : Hp → Prop, (∀ H', Nx H' → ∃ m', m' < m ∧ W (i + 1) m' H') ∧ ∀ x H', J.yld i H x H' → g x (wipe σ vs) H' fun σ2 H2 => wipe σ2 vs = wipe σ vs ∧ te σ2 H2 fun y H4 => addsI w D y H4 Nx)
/-- a set is no code object -/
theorem setO_code {w : World} {D : Addr} {S : Int → Bool} {n : Nat} {q : Str} : SetO w D S n ≠ LamX.CodeO D q := fun z => by
  unfold SetO LamX.CodeO at z
  have e := HO.ext.inj z
  let o : Obj := { cls := .none, data := .fields #[.none, .str q default] }
  let h : Heap := { objs := (Array.replicate D o).push o }
  have hg : h.get? D = some o := by
    unfold Heap.get?
    have : h.objs[D]? = some o := by
      show ((Array.replicate D o).push o)[D]? = some o
      rw [Array.getElem?_push, Array.size_replicate, if_pos rfl]
    rw [this]
  have c : ∃ (oc : Obj) (vs : Array Value) (t : Tok), h.get? D = some oc ∧ oc.data = .fields vs ∧ vs[1]? = some (.str q t) := ⟨o, _, default, hg, rfl, rfl⟩
  have e2 := congrFun e h
  obtain ⟨o', es, ep, t, h1, _, h3, _⟩ := e2.mpr c
  rw [hg] at h1
  cases h1
  cases h3

theorem adds_ok {pins : List (Addr × Obj)} {σ : L2.St} {H : Hp} {s : Shared} {E : Value → Shared → Prop} {D : Addr} {y : V} {v : Value} {Nx : Hp → Prop} {Q : Value → Shared → Prop} (I : Inv X pins σ H s) (r : L2.RelV y v) (h : addsI X.w D y H Nx)
    (q : ∀ s' H', Inv X pins σ H' s' → Nx H' → Q .none s') : wpAny (model X.prog X.w) X.A (call (.builtin "set.add") [.ref D, v]) Q E s := by
  obtain ⟨c, S, n, rfl, hD, room, nx⟩ := h
  obtain ⟨tk, rfl⟩ := r
  refine setR_add (setO_get I hD) room fun h' sb new => ?_
  have ⟨o, _, _, _, ho, _⟩ := new
  exact q _ _ (I.write (e := D) (t' := s.toks + 1) (by rw [hD]; trivial) (.inl rfl) (fun b u hb hu => (sb.2 b hb).trans hu) ⟨o, ho⟩ (setO_new new)) nx
theorem pe_scI {elt tg iter : Expr} {scope : Scope} {own : List (Str × Nat)} {pos : Pos} {wi : TI} {g : TG} {te : TE} (hc : X.calm = true) (hN : X.N.Nodup) (hi : PI X tg iter wi) (ok : BlkOk X.N X.env.scope scope own)
    (hg : Blk X scope fun X' => PG X' tg g) (he : Blk X scope fun X' => PE X' elt te) (hs : ∀ x, foldedSetIterable iter X.env x = pure x := by intro _; rfl) : PE X (.SetComp elt [⟨tg, iter, [], 0⟩] scope pos) (tScI X.w wi g te (own.map (·.2))) := by
  refine ⟨fun pins s σ H Q I h => ?_⟩
  rw [PpSet.eval_SetComp]
  have hfree : ∀ y ∈ scope.names, y.2 = .free → ∃ c, X.env.cells.lookup y.1 = some c := fun y hy e => by
    rcases ok.free y hy e with k | k
    · exact I.ok.has _ (.inl k)
    · exact I.ok.has _ (.inr k)
  refine wpAny_comprehension_free rfl hs (closure_ok hfree) ok.kind (fun y hy e => by rw [ok.uniq y hy, e]) (thn (hi.run pins s σ H _ I h) fun xv s1 hx => thn hx fun itv s2 h2 => ?_)
  obtain ⟨it, fp, tn, J, H2, e, I2, T, st2, f2, q⟩ := h2
  subst e
  refine PpSet.newSet_ok (newEnv_comp ?_)
  generalize hD : s2.heap.objs.size = D
  obtain ⟨W, ⟨m0, w0⟩, turn⟩ := q D (I2.hok.fresh (Nat.le_of_eq hD))
  generalize hob : ({ cls := .type "set", dict := none, data := .set #[] 0 (.fresh 0 0 (!X.w.params.followText "set-order")) } : Obj) = ob
  generalize hs3 : ({ s2 with heap := s2.heap.push ob } : Shared) = s3
  have I3 : Inv X pins σ (upd H2 D (SetO X.w D (fun _ => false) 0)) s3 := by
    rw [← hs3]
    refine I2.laid (t' := s2.toks) (fun b o e => Heap.get?_push_of_some _ e) (Nat.le_of_eq hD) ?_
    rw [← hD, ← hob]
    exact setO_new (setR_fresh X.w)
  have h3 : s3.heap = s2.heap.push ob := by rw [← hs3]
  have sz : ∀ b ∈ fp, b < s2.heap.objs.size := fun b hb => by
    obtain ⟨o, e, _⟩ := T.obj _ _ st2 b hb
    exact Heap.lt_size e
  have f3 : ∀ b ∈ fp, FpOk X pins (upd H2 D (SetO X.w D (fun _ => false) 0)) b ∧ b < s3.heap.objs.size := fun b hb => by
    have hlt := sz b hb
    refine ⟨⟨?_, (f2 b hb).2⟩, by rw [h3, Heap.size_push]; exact Nat.lt_succ_of_lt hlt⟩
    rw [upd_ne (by rw [← hD]; exact Nat.ne_of_lt hlt)]
    exact (f2 b hb).1
  have st3 : tn 0 s3.heap := T.keep _ _ _ st2 fun b _ o e => by rw [h3]; exact Heap.get?_push_of_some _ e
  generalize hHD : upd H2 D (SetO X.w D (fun _ => false) 0) = H3 at I3 w0 f3
  have I4 := block_start I3 ok hN f3
  have pg := hg s3 H3 s3.heap.objs.size (cellsFrom (s3.heap.objs.size + 1) scope.names (cloFrom X.env.cells scope.names [])) fp
  have pe := he s3 H3 s3.heap.objs.size (cellsFrom (s3.heap.objs.size + 1) scope.names (cloFrom X.env.cells scope.names [])) fp
  show codeAny _ _ (.compStart (.SetComp elt [⟨tg, iter, [], 0⟩] scope pos) 0 (.ref it) (.ref D) (compEnvC scope (cellsFrom (s3.heap.objs.size + 1) scope.names (cloFrom X.env.cells scope.names [])) s3.heap.objs.size X.env)) (compPost (model X.prog X.w) X.A X.xe none (EP X pins σ Q) (.ref D) s3.heap.objs.size) { s3 with heap := pushCells (s3.heap.push { cls := .type "dict", data := .dict #[] }) scope.names }
  have nfp : ∀ b ∈ fp, H3 b = none := fun b hb => (f3 b hb).1.1
  generalize hce : compEnvC scope (cellsFrom (s3.heap.objs.size + 1) scope.names (cloFrom X.env.cells scope.names [])) s3.heap.objs.size X.env = ce at I4 pg pe ⊢
  have cL : ce.locals = s3.heap.objs.size := by subst hce; rfl
  generalize hs4 : ({ s3 with heap := pushCells (s3.heap.push { cls := .type "dict", data := .dict #[] }) scope.names } : Shared) = s4 at I4 ⊢
  have st4 : tn 0 s4.heap := T.keep _ _ _ st3 fun b _ o e => by rw [← hs4]; exact pushCells_keeps _ _ _ _ (Heap.get?_push_of_some _ e)
  have stat : ∀ {σ' : L2.St} {H' : Hp} {s' : Shared}, Inv (X.blk s3 H3 scope ce fp) [] σ' H' s' → (∀ b ∈ fp, H' b = none) → ∀ b ∈ fp, FpOk (X.blk s3 H3 scope ce fp) [] H' b := fun {σ' H' s'} I' hn b hb =>
    ⟨hn b hb, (I'.ok.exf b hb).1, I'.ok.exfs b hb, .inl hb, fun x c e => (I'.ok.exf b hb).2 x c e, fun p hp => absurd (show p ∈ ([] : List (Addr × Obj)) ++ [] from hp) (by simp)⟩
  have loop : codeAny (model X.prog X.w) X.A (.compLoop (.SetComp elt [⟨tg, iter, [], 0⟩] scope pos) 0 (.ref it) (.ref D) ce) (compPost (model X.prog X.w) X.A X.xe none (EP X pins σ Q) (.ref D) s3.heap.objs.size) s4 := by
    refine PpSet.compLoopS_any (fun n s' => ∃ i H', Inv (X.blk s3 H3 scope ce fp) [] (wipe σ (own.map (·.2))) H' s' ∧ tn i s'.heap ∧ (∀ b ∈ fp, H' b = none) ∧ W i n H') ?_ m0 ⟨0, H3, I4, st4, nfp, w0⟩
    rintro n s5 ⟨i, H5, I5, st5, n5, w5⟩
    rcases turn i n H5 w5 with ⟨stop, qq⟩ | ⟨go, Nx, hNx, step⟩
    · refine thnF (T.done (X.blk s3 H3 scope ce fp) rfl rfl rfl hc i [] s5 _ H5 (fun _ _ => False) I5 (stat I5 n5) st5 stop) fun r s6 ⟨hr, I6⟩ => ?_
      subst hr
      have I7 : Inv X pins σ H5 s6 := I3.call' (ch := fp) I6.os I6.base I6.hok I6.bare fun b hb => ⟨(f3 b hb).1.2.2.2.1, (f3 b hb).1.2.1, (f3 b hb).1.2.2.2.2.1, (f3 b hb).1.2.2.2.2.2⟩
      have nC : H5 s3.heap.objs.size = none := by
        have z : H5 ce.locals = none := I6.free
        rw [cL] at z
        exact z
      obtain ⟨m, hn, _⟩ := I6.loc
      have hn : s6.heap.Ns ce.locals m := hn
      rw [cL] at hn
      obtain ⟨f0, f1, f2, f3, f4, f5⟩ := I3.fpOk (Nat.le_refl _) nC
      exact ⟨m, hn, fun h'' sb => ⟨.ref D, H5, I7.turned (t' := s6.toks) (fun b o hb e => (sb.2 b hb).trans e) f0 f1 f3 f4 f5, rfl, qq⟩⟩
    · refine thnF (T.item (X.blk s3 H3 scope ce fp) rfl rfl rfl hc i [] s5 _ H5 (fun _ _ => False) I5 (stat I5 n5) st5 go) fun r s6 ⟨u, hr, h6⟩ => ?_
      subst hr
      refine thnF h6 fun _ s7 ⟨x, H7, I7, r7, y7, st7, n7⟩ => ?_
      have I7' := I7.pinned (stat I7 n7) (T.obj _ _ st7)
      refine thnF (pg.run _ s7 _ H7 x u _ I7' r7 (step x H7 y7)) fun _ s8 ⟨σ8, H8, I8, hw8, q8⟩ => ?_
      refine wpAny_pure ?_
      simp only [if_true]
      refine thnF (pe.run _ s8 σ8 H8 _ I8 q8) fun z s10 ⟨yv, H10, I10, r10, ad⟩ => ?_
      refine adds_ok (X := X.blk s3 H3 scope ce fp) I10 r10 ad fun s' H' I' nx => ?_
      obtain ⟨m', hm, w'⟩ := hNx H' nx
      have pin' : ∀ b ∈ fp, ∀ o, s7.heap.get? b = some o → s'.heap.get? b = some o ∧ H' b = none := fun b hb o e =>
        let z := I'.pin (b, o) (List.mem_append_right _ (List.mem_append_right _ (mem_pinsAt hb e)))
        ⟨z.1, z.2.1⟩
      have hl : (wipe σ (own.map (·.2))).length = σ8.length := by rw [← hw8, wipe_length]
      refine ⟨m', hm, i + 1, H', (I'.unpinned (pins := [])).weak hl (fun j v e => ?_), T.keep _ _ _ st7 fun b hb o e => (pin' b hb o e).1, fun b hb => ?_, w'⟩
      · rw [← hw8] at e
        exact (wipe_some e).1
      · obtain ⟨o, e, _⟩ := T.obj _ _ st7 b hb
        exact (pin' b hb o e).2
  exact PpSet.codeAny_compStart_set loop (T.self X.A 0 _ _ _ st4 loop)
/-! ### sorted(s), s a set of ints, of any number -/
theorem ints_each {h : Heap} : ∀ {us : List Value} {ns : List Int}, IntsAre us ns → W.EachIs (fun v n => ∃ t, v = Value.int n t) us ns ∧ W.EachIs (fun v n => ∃ as, Reads h v (PyData.int n) as) us ns
  | _, _, .nil => ⟨.nil, .nil⟩
  | _, _, .cons k t r => ⟨.cons ⟨t, rfl⟩ (ints_each (h := h) r).1, .cons ⟨[], .int _ _⟩ (ints_each (h := h) r).2⟩
theorem each_ints : ∀ {us : List Value} {ns : List Int}, W.EachIs (fun v n => ∃ t, v = Value.int n t) us ns → IntsAre us ns
  | _, _, .nil => .nil
  | _, _, .cons ⟨t, e⟩ r => by subst e; exact .cons _ _ (each_ints r)
theorem dataLe_I (a b : Int) : W.dataLe false PyData.int a b = decide (a ≤ b) := by
  rw [W.dataLe_eq]
  show (!W.dataLt (.int b) (.int a)) = _
  rw [W.dataLt_int]
  by_cases h : b < a
  · rw [decide_eq_true h, decide_eq_false (by omega)]; rfl
  · rw [decide_eq_false h, decide_eq_true (by omega)]; rfl
theorem sorted_setAny {P : Program} {w : World} {A : Around} {E : Value → Shared → Prop} {s : Shared} {a : Addr} {S : Int → Bool} {n : Nat} {Q : Value → Shared → Prop} (R : SetR w s.heap a S n) (hh : A.handled = none) (hn16 : n ≤ sizeLine) (hu : A.units + 10 < cLine)
    (hQ : ∀ s' p (out : Array Value) (c : Nat) (ns : List Int), (∀ b o, s.heap.get? b = some o → s'.heap.get? b = some o) → s'.gens = s.gens → s'.os = s.os → s.heap.objs.size ≤ p →
      s'.heap.get? p = some (seqObj "list" out c) → IntsAre out.toList ns → ns.Pairwise (· < ·) → (∀ k, k ∈ ns ↔ S k = true) → ns.length = n → Q (.ref p) s') :
    wpAny (model P w) A (call (.builtin "sorted") [.ref a]) Q E s := by
  obtain ⟨o, es, ep, t, ho, hex, hd, g, nd, hm, hb, hf, hn, hr, hl⟩ := R
  refine Calls.call_function_entry kind_sorted plain_sorted entry_sorted (args_sorted1 _) ?_
  unfold Builtin.«sorted»
  refine wpAny_bind (m := checkCount "sorted" 1 1 _) (wpAny_pure ?_)
  refine wpAny_bind (collect_set (A := A.in1) hh ⟨o, ho, hex.1, hd⟩ hf hb hr hl fun s1 vs k1 hz g1 o1 pm => ?_)
  have hvl : vs.length = n := by rw [pm.length_eq, List.length_map, Array.length_toList]; exact hn
  have hI : IntsAre vs (vs.map Builtin.Re.reRawOf) := ints_of vs fun v hv => by
    obtain ⟨e, he, q⟩ := List.mem_map.mp (pm.mem_iff.mp hv)
    obtain ⟨k, tk, h1, _⟩ := g e he
    exact ⟨k, tk, by rw [← q]; exact h1⟩
  have pk : (vs.map Builtin.Re.reRawOf).Perm (es.toList.map keyOf) := by
    have q := pm.map Builtin.Re.reRawOf
    rw [List.map_map] at q
    exact q
  generalize hns : vs.map Builtin.Re.reRawOf = ns0 at hI pk
  refine wpAny_bind (wpAny_newList ?_ (by rw [hvl]; exact hn16))
  have hoL : (s1.heap.push (seqObj "list" vs.toArray 0)).get? s1.heap.objs.size = some (seqObj "list" vs.toArray 0) := Heap.get?_push_size _ rfl
  obtain ⟨e1, e2⟩ := ints_each (h := W.sortingHeap (s1.heap.push (seqObj "list" vs.toArray 0)) s1.heap.objs.size vs) hI
  have al : W.AllAlike (ns0.map PyData.int) := fun x hx y hy => by
    obtain ⟨i, _, rfl⟩ := List.mem_map.mp hx
    obtain ⟨j, _, rfl⟩ := List.mem_map.mp hy
    rfl
  have hk : W.Sortable (ns0.map PyData.int) := .inr fun d hd => by
    obtain ⟨i, _, rfl⟩ := List.mem_map.mp hd
    exact ⟨fun z => (nomatch z), fun _ z => nomatch z⟩
  refine wpAny_bind (wpAny_holding (wpAny_call_entry slot_list_sort ⟨_, hoL, rfl⟩ entry_list_sort
    (W.list_sort_vals (s := { s1 with heap := s1.heap.push (seqObj "list" vs.toArray 0) }) (κ := W.dataKind (W.sortingHeap (s1.heap.push (seqObj "list" vs.toArray 0)) s1.heap.objs.size vs) (ns0.map PyData.int)) hoL
      (W.SortsAt.data (s := { s1 with heap := W.sortingHeap (s1.heap.push (seqObj "list" vs.toArray 0)) s1.heap.objs.size vs }) (W.each_map (R := fun v d => ∃ as, Reads (W.sortingHeap (s1.heap.push (seqObj "list" vs.toArray 0)) s1.heap.objs.size vs) v d as) PyData.int e2) al hk (fun d hd => by
        obtain ⟨i, _, rfl⟩ := List.mem_map.mp hd
        show _ + 0 < cLine
        show A.units + 1 + 1 + 0 < cLine
        omega)) (by rw [hvl]; exact hn16) ⟨_, rfl, ?_⟩) (args_list_sort _)))
  have so := W.sortVals_data (enc := PyData.int) (bs := ns0) false e1 e2 al
  generalize W.sortVals (W.dataKind (W.sortingHeap (s1.heap.push (seqObj "list" vs.toArray 0)) s1.heap.objs.size vs) (ns0.map PyData.int)) false vs vs = out at so ⊢
  obtain ⟨c, hc⟩ := sortedHeap_at (vs := vs) (out := out.toArray) hoL
  have pn : (ns0.mergeSort (W.dataLe false PyData.int)).Perm (es.toList.map keyOf) := (List.mergeSort_perm _ _).trans pk
  have srt : (ns0.mergeSort (W.dataLe false PyData.int)).Pairwise (· ≤ ·) := by
    have q := List.pairwise_mergeSort (le := W.dataLe false PyData.int) (fun a b c h1 h2 => by rw [dataLe_I, decide_eq_true_eq] at *; omega) (fun a b => by rw [dataLe_I, dataLe_I, Bool.or_eq_true, decide_eq_true_eq, decide_eq_true_eq]; omega) ns0
    exact q.imp fun {a b} h => by rw [dataLe_I, decide_eq_true_eq] at h; exact h
  refine wpAny_pure ⟨_, rfl, hQ _ s1.heap.objs.size out.toArray c _ (fun b u e => ?_) g1 o1 hz hc (each_ints so) (lt_of_le_nodup _ srt (pn.nodup_iff.mpr nd)) (fun k => by rw [pn.mem_iff, ← hm k]) ?_⟩
  · have q := k1 b u e
    have hlt := Heap.lt_size q
    show (sortedHeap (s1.heap.push (seqObj "list" vs.toArray 0)) s1.heap.objs.size vs out.toArray).get? b = some u
    rw [sortedHeap_old (Nat.ne_of_lt hlt) (by rw [size_push']; exact Nat.lt_succ_of_lt hlt)]
    exact Heap.get?_push_of_some _ q
  · rw [pn.length_eq, List.length_map, Array.length_toList]; exact hn
end
section
variable {X : Cx}
def rSortS (w : World) : List V → Hp → VK → Prop := fun vs H Q => ∃ (a : Addr) (S : Int → Bool) (n : Nat), vs = [V.ref a] ∧ H a = some (SetO w a S n) ∧ n < 4096 ∧
  ∀ (ns : List Int) (p : Addr), ns.Pairwise (· < ·) → (∀ k : Int, k ∈ ns ↔ S k = true) → ns.length = n → H p = none → Q (.ref p) (upd H p (.lst (ns.map V.int)))
theorem cr_sortS (hc : X.calm = true) (hu : X.A.units + 110 < cLine) : CallR X (.builtin "sorted") (rSortS X.w) := by
  intro pins s σ H vs us Q I r h
  obtain ⟨a, S, n, rfl, ha, hn, q⟩ := h
  have hz : n ≤ sizeLine := by rw [sizeLine_eq]; omega
  rw [Vals.ref1 r]
  refine sorted_setAny (setO_get I ha) (I.ok.hd hc) hz (by omega) fun s' p out c ns k g o hp hg hi hs hm hl => ?_
  have hp0 : H p = none := I.hok.fresh hp
  have J : Inv X pins σ (upd H p (.lst (ns.map V.int))) { s with heap := s'.heap, gens := s'.gens, drawn := s'.drawn, toks := s'.toks } := I.call (ch := []) (Un.laid k hp hp0) (I.hok.laid k hp ⟨by rw [List.length_map, hl]; exact hz, out.toList, c, vals_of_ints hi, hg⟩) (by rw [g]; exact I.bare) (fun _ z => nomatch z)
  have e : s' = { s with heap := s'.heap, gens := s'.gens, drawn := s'.drawn, toks := s'.toks } := by
    cases s'
    cases s
    cases o
    rfl
  rw [e]
  exact ⟨.ref p, _, J, rfl, q ns p hs hm hl hp0⟩
end
section
variable {Tq : List (Addr × Str)} {Z : Zb Tq} {X : Cx} {env : Env} {PR : R → Env → Prop} {tg iter elt : Expr} {pos : Pos}
theorem rpa_ints {F : Hp} : ∀ ns : List Int, RpA F (ns.map V.int) (ns.map PyData.int)
  | [] => .nil
  | n :: ns => .cons (.int n) (rpa_ints ns)
/-- a set comprehension of ints, sorted -/
structure ScI {Tq : List (Addr × Str)} (Z : Zb Tq) (X : Cx) (scope : Scope) (f : TF) (elt : Expr) (vs : List Nat) (P : R → Env → Prop) (ds : List D) (e1 : Env) : Prop where
  ex : ds.length < 4000 ∧ ∃ I : Nat → List Int → Env → Prop, I 0 [] (wipeE e1 vs) ∧ (∀ k d acc e, ds[k]? = some d → I k acc e → f d e fun e' => Blk X scope fun X' => WA Z X' elt e' fun a e2 => ∃ c : Int, a = .va (.int c) ∧ I (k + 1) (acc ++ [c]) (wipeE e2 vs)) ∧
    ∀ acc e, I ds.length acc e → ∀ (ns : List Int) p, ns.Pairwise (· < ·) → (∀ c, c ∈ ns ↔ c ∈ acc) → P (.t (.lst p (ns.map PyData.int))) e
theorem sc_read {g : TG} {f : TF} {ix : List Nat} {scope : Scope} {vs : List Nat} (gk : GOk Z g f ix) (hix : ∀ i ∈ ix, i ∈ vs)
    {σ0 : L2.St} {H0 F0 : Hp} {O0 : List Addr} (b0 : Bas Z F0 H0 O0) (o0 : OwE F0 H0 O0 σ0 env) (h : WI Z X tg iter env (ScI Z X scope f elt vs PR)) :
    tCB (rSortS X.w) (tCons (tScI X.w (tI Z X tg iter) g (tAB Z X scope elt) vs) tNil) σ0 H0 (Post Z σ0 H0 F0 O0 PR) := by
  refine ⟨env, F0, O0, _, b0, o0, h, fun J H1 F1 O1 ds e1 b1 o1 fr1 gv ⟨hds, I, i0, step, done⟩ D hD => ?_⟩
  have fD : F1 D = none := b1.sub.free hD
  refine ⟨fun i m H => m = ds.length - i ∧ i ≤ ds.length ∧ ∃ F O e e0 acc S n, Bas Z F H (O ++ [D]) ∧ OwE F H O (wipe σ0 vs) e ∧ e = wipeE e0 vs ∧ H D = some (SetO X.w D S n) ∧ n ≤ i ∧ (∀ c, S c = true ↔ c ∈ acc) ∧ Frm Tq H1 F1 O1 H F (O ++ [D]) ∧ I i acc e, ⟨_, rfl, Nat.zero_le _, ?_⟩, ?_⟩
  · -- the start
    obtain ⟨O2, Od, h2, h3⟩ := o1.wipeO vs
    have hn : ∀ a ∈ O1, a ≠ D := fun a ha z => by subst z; exact o1.there a ha hD
    have fr : Frm Tq H1 F1 O1 (upd H1 D (SetO X.w D (fun _ => false) 0)) F1 (O2 ++ [D]) := ⟨Same.refl _, fun a o e _ _ => same_new hD a o e, fun a e => by
      by_cases z : a = D
      · subst z; rw [upd_same]; exact fun z => nomatch z
      · rw [upd_ne z]; exact e, fun a e => .inl e, fun a ha => (List.mem_append.mp ha).elim (fun z => .inl (h3.mem_iff.mpr (List.mem_append_left _ z))) fun z => .inr (by rw [List.mem_singleton.mp z]; exact hD), tab_new hD⟩
    have b2 := (b1.dropP h3).1
    refine ⟨F1, O2, wipeE e1 vs, e1, [], fun _ => false, 0, ⟨b1.sub.trans (same_new hD), List.nodup_append.mpr ⟨b2.nd, List.nodup_cons.mpr ⟨fun z => (nomatch z), List.nodup_nil⟩, fun a ha c hc z => ?_⟩, fun a ha => ?_, b1.abs.trans fr⟩, ?_, rfl, upd_same, Nat.le_refl _, fun c => by simp, fr, i0⟩
    · rw [List.mem_singleton.mp hc] at z
      exact hn a (h3.mem_iff.mpr (List.mem_append_left _ ha)) z
    · rcases List.mem_append.mp ha with ha | ha
      · exact b2.dis a ha
      · rw [List.mem_singleton.mp ha]; exact fD
    · have o3 : OwE F1 (upd H1 D (SetO X.w D (fun _ => false) 0)) O2 σ0 (wipeE e1 vs) := h2.stay (Same.refl _) fun a ha => upd_ne (hn a (h3.mem_iff.mpr (List.mem_append_left _ ha)))
      exact o3.wiped wipe_wipe
  · rintro i m H ⟨rfl, hi, F, O, e, e0, acc, S, n, b, o, he0, hDl, hni, hS, fr, hI⟩
    obtain ⟨g1, g2⟩ := gv F H fr.fz b.sub i
    by_cases hlt : i < ds.length
    · obtain ⟨go, yl⟩ := g1 ds[i] (List.getElem?_eq_getElem hlt)
      refine .inr ⟨go, fun H' => ∃ F O e e0 acc S n, Bas Z F H' (O ++ [D]) ∧ OwE F H' O (wipe σ0 vs) e ∧ e = wipeE e0 vs ∧ H' D = some (SetO X.w D S n) ∧ n ≤ i + 1 ∧ (∀ c, S c = true ↔ c ∈ acc) ∧ Frm Tq H1 F1 O1 H' F (O ++ [D]) ∧ I (i + 1) acc e, fun H' q => ⟨ds.length - (i + 1), by omega, rfl, hlt, q⟩, fun x H' y => ?_⟩
      obtain ⟨F', rx, s1, s2, s3, nf⟩ := yl x H' y
      have dD : ∀ a ∈ [D], Held H a := fun a ha => by rw [List.mem_singleton.mp ha]; exact ⟨_, hDl, fun _ z => nomatch z⟩
      have bL := b.left
      obtain ⟨b2, o2, fr2⟩ := bL.grow o s1 s2 s3 nf
      have b2D : Bas Z F' H' (O ++ [D]) := Bas.frame fr2 b b2 dD
      refine gk x _ (wipe σ0 vs) H' F' O e _ _ b2 o2 rx (step i _ acc e (List.getElem?_eq_getElem hlt) hI) fun σ3 O3 e3 b3 o3 s3' w3 h3 => ?_
      have hw : wipe σ3 vs = wipe (wipe σ0 vs) vs := w3 vs hix
      rw [wipe_wipe] at hw
      refine ⟨hw, ?_⟩
      have hD3 : H' D = some (SetO X.w D S n) := s2 _ _ hDl
      have dD3 : ∀ a ∈ [D], Held H' a := fun a ha => by rw [List.mem_singleton.mp ha]; exact ⟨_, hD3, fun _ z => nomatch z⟩
      have fr23 : Frm Tq H F O H' F' O3 := fr2.perm (fun _ => Iff.rfl) s3'
      have b3D : Bas Z F' H' (O3 ++ [D]) := Bas.frame fr23 b b3 dD
      have frD : Frm Tq H1 F1 O1 H' F' (O3 ++ [D]) := fr.trans fr23.frame
      refine ⟨e3, F', O3, _, b3, o3, h3, fun y H6 ⟨F6, O6, a6, e6, b6, o6, st6, fr6, c, ea6, q7⟩ => ?_⟩
      subst ea6
      have ey : y = .int c := by cases (show Rp F6 y (.int c) from st6); rfl
      have hD6 : H6 D = some (SetO X.w D S n) := fr6.out D _ hD3 (fun _ z => nomatch z) fun z => (List.nodup_append.mp b3D.nd).2.2 D z D (List.mem_singleton.mpr rfl) rfl
      have b6D : Bas Z F6 H6 (O6 ++ [D]) := Bas.frame fr6 b3D b6 dD3
      have frD6 : Frm Tq H1 F1 O1 H6 F6 (O6 ++ [D]) := frD.trans fr6.frame
      have nD : ∀ a ∈ O6, a ≠ D := fun a ha z => (List.nodup_append.mp b6D.nd).2.2 a ha D (List.mem_singleton.mpr rfl) z
      have fD6 : F6 D = none := b6D.dis D (List.mem_append_right _ (List.mem_singleton.mpr rfl))
      refine ⟨c, S, n, ey, hD6, by show n + 1 < 4096; omega, ?_⟩
      generalize hnew : SetO X.w D (fun j => S j || decide (j = c)) (if S c = true then n else n + 1) = ob
      have hs : Same F6 (upd H6 D ob) := fun a x ha => by
        have z : a ≠ D := fun z => by subst z; rw [fD6] at ha; cases ha
        rw [upd_ne z]; exact b6D.sub a x ha
      have fr7 : Frm Tq H6 F6 (O6 ++ [D]) (upd H6 D ob) F6 (O6 ++ [D]) := ⟨Same.refl _, fun a x ha _ hn => by
        rw [upd_ne fun z => hn (by rw [z]; exact List.mem_append_right _ (List.mem_singleton.mpr rfl))]; exact ha, fun a ha => by
        by_cases z : a = D
        · subst z; rw [upd_same]; exact fun z => nomatch z
        · rw [upd_ne z]; exact ha, fun a ha => .inl ha, fun a ha => .inl ha, tab_own hD6 (fun _ z => nomatch z) fun _ => setO_code⟩
      have b7 : Bas Z F6 (upd H6 D ob) (O6 ++ [D]) := ⟨hs, b6D.nd, b6D.dis, b6D.abs.trans fr7⟩
      have o7 : OwE F6 (upd H6 D ob) O6 σ3 e6 := o6.stay (Same.refl _) fun a ha => upd_ne (nD a ha)
      obtain ⟨O8, Od8, h8, p8⟩ := o7.wipeO vs
      have p8' : (O6 ++ [D]).Perm ((O8 ++ [D]) ++ Od8) := (p8.append_right [D]).trans (by
        rw [List.append_assoc, List.append_assoc]
        exact List.perm_append_comm.append_left O8)
      refine ⟨F6, O8, wipeE e6 vs, e6, acc ++ [c], _, _, (b7.perm p8').left, h8.wiped ?_, rfl, by rw [upd_same, ← hnew], by split <;> omega, fun d => ?_, (frD6.trans fr7).perm (fun _ => Iff.rfl) fun c hc => p8'.mem_iff.mpr (List.mem_append_left _ hc), q7⟩
      · rw [wipe_wipe]
        exact hw.symm
      · rw [Bool.or_eq_true, decide_eq_true_eq, hS, List.mem_append, List.mem_singleton]
    · have e' : i = ds.length := by omega
      subst e'
      refine .inl ⟨g2 (List.getElem?_eq_none (Nat.le_refl _)), D, S, n, rfl, hDl, by omega, fun ns p pw mem len hp => ?_⟩
      have oN : OwE F H O σ0 e := by
        subst he0
        exact o.wiped wipe_wipe.symm
      have frN : Frm Tq H0 F0 O0 H F O := fr1.trans (fr.perm (fun _ => Iff.rfl) fun c hc => List.mem_append_left _ hc)
      exact ((NewV.lst b.left.sub (rpa_ints ns) hp (k := fun t => t = .lst p (ns.map PyData.int)) rfl).post b.left oN (fun t e => by subst e; exact done acc _ hI ns p pw fun c => (mem c).trans (hS c))).from frN
theorem w_sortSc {g : TG} {f : TF} {ix : List Nat} {scope : Scope} {own : List (Str × Nat)} {p pos2 : Pos} (hu : X.A.units + 110 < cLine) (hm : X.mg "sorted" = none) (hc : X.calm = true) (hN : X.N.Nodup) (ok : BlkOk X.N X.env.scope scope own) (hg : Blk X scope fun X' => PG X' tg g) (gk : GOk Z g f ix) (hix : ∀ i ∈ ix, i ∈ own.map (·.2))
    (h : WI Z X tg iter env (ScI Z X scope f elt (own.map (·.2)) PR)) (hg2 : Gl X "sorted" := by rfl) (hs : ∀ x, foldedSetIterable iter X.env x = pure x := by intro _; rfl)
    (he : starEach [.SetComp elt [⟨tg, iter, [], 0⟩] scope pos] X.env = (false, eval (.SetComp elt [⟨tg, iter, [], 0⟩] scope pos) X.env) :: starEach [] X.env := by rfl) : WE Z X (.Call (.Name "sorted" p) [.SetComp elt [⟨tg, iter, [], 0⟩] scope pos] [] pos2) env PR :=
  we_of (pe_callB (cr_sortS hc hu) hg2 hm (by rfl) (pa_cons (pe_scI (own := own) hc hN (pi_I (Z := Z)) ok hg (pe_AB (Z := Z)) hs) pa_nil he) (by decide) (by decide) he) fun σ H F O b o => sc_read gk hix b o h
end
end QL

/-! QTu: sorted(set(e)), e a list or a tuple of ints. -/
namespace QL
open PySem PySem.Spec PyProof.Rows L2
theorem rpa_ints_inv {F : Hp} : ∀ {vs : List V} {ns : List Int}, RpA F vs (ns.map PyData.int) → vs = ns.map V.int
  | [], [], _ => rfl
  | [], n :: ns, h => nomatch h
  | v :: vs, [], h => nomatch h
  | v :: vs, n :: ns, h => by
    cases h with
    | cons a b =>
      cases a
      rw [rpa_ints_inv b]; rfl
end QL

/-! QTw: xs.extend(list); d[k] = v, sorted(d) and d.get(k, x) of a dict that this name alone holds. -/
namespace QL
open PySem PySem.Spec PyProof.Rows L2
section
variable {Tq : List (Addr × Str)} {Z : Zb Tq} {X : Cx} {env : Env} {P : R → Env → Prop} {PO : Out → Prop} {e o ix f : Expr} {pos : Pos}
/-! ### dicts that are owned -/
theorem mutD {F H : Hp} {O : List Addr} {σ : L2.St} {i : Nat} {p : List Str} {a : Addr} {ds : List (Key × D)} (b : Bas Z F H O) (o : OwE F H O σ env) (hg : getP i p env = some (.dic a ds)) :
    ∃ xs, H a = some (.dK xs) ∧ RpT F xs ds ∧ ∀ ys es, RpT F ys es → ∃ O', Bas Z F (upd H a (.dK ys)) O' ∧ OwE F (upd H a (.dK ys)) O' σ (setP i p (.dic a es) env) ∧ Frm Tq H F O (upd H a (.dK ys)) F O' := by
  obtain ⟨w, ⟨Oj, O', h1, h2, h3⟩, _⟩ := o.focus hg
  cases h1 with
  | dic hH r =>
    refine ⟨_, hH, r, fun ys es r' => ?_⟩
    have nd := h2.nodup b.nd
    have ha : a ∈ O := h2.mem_iff.mpr (List.mem_append_left _ (List.mem_singleton.mpr rfl))
    have hn : ∀ c ∈ O', c ≠ a := fun c hc z => (List.nodup_append.mp nd).2.2 a (List.mem_singleton.mpr rfl) c hc z.symm
    obtain ⟨O'', q1, q2⟩ := h3 F (upd H a (.dK ys)) [a] (.dic a es) (Same.refl _) (fun c hc => upd_ne (hn c hc)) (.dic upd_same r')
    have pm : O.Perm O'' := h2.trans q2.symm
    have fr : Frm Tq H F O (upd H a (.dK ys)) F O'' := ⟨Same.refl _, fun c x e _ n => by rw [upd_ne fun z => n (by rw [z]; exact ha)]; exact e, fun c e => by
      by_cases z : c = a
      · subst z; rw [upd_same]; exact fun z => nomatch z
      · rw [upd_ne z]; exact e, fun c e => .inl e, fun c hc => .inl (pm.mem_iff.mpr hc), tab_own hH⟩
    have da := b.dis a ha
    refine ⟨O'', ⟨fun c x e => ?_, pm.nodup b.nd, fun c hc => b.dis c (pm.mem_iff.mpr hc), b.abs.trans fr⟩, q1, fr⟩
    rw [upd_ne fun z => by rw [z, da] at e; cases e]
    exact b.sub c x e
end
end QL

/-! QW: data whose text is short; data that may be compared. -/
namespace QL
open PySem PySem.Spec PyProof.Rows L2
mutual
def nodes : D → Nat
  | .list xs => 1 + nodesA xs
  | .tuple xs => 1 + nodesA xs
  | _ => 1
def nodesA : List D → Nat
  | [] => 0
  | x :: xs => nodes x + nodesA xs
end
mutual
/-- no text, no dict; ints below 2 ** 200 -/
def smallD : D → Bool
  | .list xs => smallA xs
  | .tuple xs => smallA xs
  | .int i => decide (i.natAbs < 2 ^ 200)
  | .none => true
  | .bool _ => true
  | _ => false
def smallA : List D → Bool
  | [] => true
  | x :: xs => smallD x && smallA xs
end
theorem small_int {i : Int} (h : i.natAbs < 2 ^ 200) : (PyData.shown (.int i)).length ≤ 256 ∧ (PyData.int i).weight ≤ 200 ∧ i.natAbs.log2 < 1920 := by
  have l : i.natAbs.log2 < 200 := by
    by_cases z : i.natAbs = 0
    · rw [z]; decide
    · exact (Nat.log2_lt z).mpr h
  refine ⟨?_, ?_, by omega⟩
  · show (PySem.Str.ofString (toString i)).length ≤ 256
    have big : (2 : Nat) ^ 200 < 10 ^ 61 := by decide
    by_cases z : i < 0
    · rw [len_text_neg z]
      have := PyProof.Rows.toString_length_le (v := 0 - i) (by omega) (k := 61) (by decide) (by omega)
      omega
    · have := PyProof.Rows.toString_length_le (v := i) (by omega) (k := 61) (by decide) (by omega)
      omega
  · show (if i == 0 then 0 else i.natAbs.log2 + 1) ≤ 200
    split <;> omega
mutual
theorem show_sm : ∀ d : D, smallD d = true → d.leavesShort 256 = true ∧ d.weight + 1 ≤ 203 * nodes d ∧ d.showable = true ∧ d.hasDict = false ∧ d.canLay0 = true
  | .none, _ => ⟨rfl, (by decide : 0 + 1 ≤ 203 * 1), rfl, rfl, rfl⟩
  | .bool _, _ => ⟨rfl, (by decide : 0 + 1 ≤ 203 * 1), rfl, rfl, rfl⟩
  | .int i, h => by
    obtain ⟨h1, h2, h3⟩ := small_int (of_decide_eq_true (by simpa only [smallD] using h))
    exact ⟨by simp only [PyData.leavesShort, decide_eq_true_eq]; exact h1, (by simp only [nodes]; omega), by simp only [PyData.showable, decide_eq_true_eq]; exact h3, rfl, rfl⟩
  | .str _, h => by simp [smallD] at h
  | .dict _, h => by simp [smallD] at h
  | .list xs, h => by
    obtain ⟨h1, h2, h3, h4, h5⟩ := show_smA xs (by simpa only [smallD] using h)
    exact ⟨by simpa only [PyData.leavesShort] using h1, by simp only [PyData.weight, nodes]; omega, by simpa only [PyData.showable] using h3, by simpa only [PyData.hasDict] using h4, by simpa only [PyData.canLay0] using h5⟩
  | .tuple xs, h => by
    obtain ⟨h1, h2, h3, h4, h5⟩ := show_smA xs (by simpa only [smallD] using h)
    exact ⟨by simpa only [PyData.leavesShort] using h1, by simp only [PyData.weight, nodes]; omega, by simpa only [PyData.showable] using h3, by simpa only [PyData.hasDict] using h4, by simpa only [PyData.canLay0] using h5⟩
theorem show_smA : ∀ ds : List D, smallA ds = true → PyData.leavesShortAll 256 ds = true ∧ PyData.weightAll ds ≤ 203 * nodesA ds ∧ PyData.showableAll ds = true ∧ PyData.hasDictAll ds = false ∧ PyData.canLayAll0 ds = true
  | [], _ => ⟨rfl, Nat.zero_le _, rfl, rfl, rfl⟩
  | d :: ds, h => by
    simp only [smallA, Bool.and_eq_true] at h
    obtain ⟨h1, h2, h3, h4, h5⟩ := show_sm d h.1
    obtain ⟨g1, g2, g3, g4, g5⟩ := show_smA ds h.2
    have np : 1 ≤ nodes d := by cases d <;> simp only [nodes] <;> omega
    exact ⟨by simp only [PyData.leavesShortAll, h1, g1, Bool.and_self], by simp only [PyData.weightAll, nodesA]; omega, by simp only [PyData.showableAll, h3, g3, Bool.and_self], by simp only [PyData.hasDictAll, h4, g4, Bool.or_self], by simp only [PyData.canLayAll0, h5, g5, Bool.and_self]⟩
end
theorem show0 {d : D} (h : smallD d = true) (hn : nodes d ≤ 300) (hd : d.depth ≤ 60) : showOk0 d := by
  obtain ⟨h1, h2, h3, h4, _⟩ := show_sm d h
  refine ⟨h4, h3, by omega, ?_⟩
  have := PyData.shown_le 256 (by decide) d h1
  show d.shown.length ≤ 16777216
  omega
theorem shaped_sm {d : D} (h : smallD d = true) (hd : d.depth ≤ 60) : SeqAt.shaped d = true := by
  unfold SeqAt.shaped
  rw [(show_sm d h).2.2.2.2, Bool.true_and]
  exact decide_eq_true (by omega)
theorem smallA_map {α : Type} {f : α → D} : ∀ {xs : List α}, (∀ x ∈ xs, smallD (f x) = true) → smallA (xs.map f) = true
  | [], _ => rfl
  | x :: xs, h => by simp only [List.map_cons, smallA, h x List.mem_cons_self, smallA_map (fun y hy => h y (List.mem_cons_of_mem _ hy)), Bool.and_self]
theorem nodesA_map {α : Type} {f : α → D} {k : Nat} : ∀ {xs : List α}, (∀ x ∈ xs, nodes (f x) ≤ k) → nodesA (xs.map f) ≤ k * xs.length
  | [], _ => Nat.zero_le _
  | x :: xs, h => by
    have h1 := h x List.mem_cons_self
    have h2 := nodesA_map (xs := xs) fun y hy => h y (List.mem_cons_of_mem _ hy)
    simp only [List.map_cons, nodesA, List.length_cons, Nat.mul_add, Nat.mul_one]
    omega
theorem depthAll_map {α : Type} {f : α → D} {k : Nat} : ∀ {xs : List α}, (∀ x ∈ xs, (f x).depth ≤ k) → PyData.depthAll (xs.map f) ≤ k
  | [], _ => Nat.zero_le _
  | x :: xs, h => by
    have h1 := h x List.mem_cons_self
    have h2 := depthAll_map (xs := xs) fun y hy => h y (List.mem_cons_of_mem _ hy)
    simp only [List.map_cons, PyData.depthAll]
    omega
theorem iDs_small {ns : List Int} (h : ∀ x ∈ ns, x.natAbs < 2 ^ 200) : smallA (iDs ns) = true := smallA_map fun x hx => by simp only [smallD, decide_eq_true_eq]; exact h x hx
theorem iDs_depth (ns : List Int) : PyData.depthAll (iDs ns) = 0 := Nat.le_zero.mp (depthAll_map fun x _ => Nat.le_refl 0)
end QL

/-! QTz: in, not in rows of ints; xs[i] += n; {k: x, l: y}; d.get(k, x); xs.remove(n); max(xs, default=n). -/
namespace QL
open PySem PySem.Spec PyProof.Rows L2
section
variable {X : Cx}
theorem inV_ints (i : Int) : ∀ ns : List Int, inV (.int i) (ns.map V.int) = decide (i ∈ ns)
  | [] => rfl
  | n :: ns => by
    show ((n == i) || inV (.int i) (ns.map V.int)) = _
    rw [inV_ints i ns]
    by_cases e : n = i
    · subst e; simp
    · have h1 : (n == i) = false := by simpa using e
      rw [h1, Bool.false_or]
      congr 1
      rw [List.mem_cons]
      exact propext ⟨.inr, fun h => h.resolve_left fun z => e z.symm⟩
theorem flat_ints : ∀ ns : List Int, (ns.map V.int).all flatV = true
  | [] => rfl
  | n :: ns => flat_ints ns
def inG (neg : Bool) (d1 d2 : D) (k : T → Prop) : Prop := ∃ (i : Int) (ns : List Int), d1 = .int i ∧ (d2 = .list (ns.map PyData.int) ∨ d2 = .tuple (ns.map PyData.int)) ∧ k (.va (.bool (if neg = true then !decide (i ∈ ns) else decide (i ∈ ns))))
theorem in_at {F H : Hp} {K : PySem.W.Frag} {v : V} {d : D} {ns : List Int} (sF : Same F H) (w : Vw F H v d) (hd : d = .list (ns.map PyData.int) ∨ d = .tuple (ns.map PyData.int)) : ∃ p, v = .ref p ∧ (SqL K H p (ns.map V.int) ∨ SqT K H p (ns.map V.int)) := by
  rcases hd with rfl | rfl
  · obtain ⟨p, vs, rfl, h1, r1⟩ := w.lst' sF
    rw [rpa_ints_inv r1] at h1
    exact ⟨p, rfl, .inl (SqL.of h1)⟩
  · obtain ⟨p, vs, rfl, h1, r1⟩ := w.tup
    rw [rpa_ints_inv r1] at h1
    exact ⟨p, rfl, .inr ((.inl (rd_mono sF h1)))⟩
theorem dop_in : DOp X (compareOp .In) (inG false) := by
  intro pins s σ H F v1 v2 u1 u2 d1 d2 k I sF w1 w2 r1 r2 ⟨i, ns, e1, hd, q⟩
  subst e1
  cases w1.int
  obtain ⟨p, rfl, hp⟩ := in_at (K := X.K) sF w2 hd
  exact op_in_seq pins s σ H _ _ u1 u2 _ I r1 r2 ⟨p, _, rfl, hp, rfl, flat_ints ns, by rw [inV_ints]; exact NewV.val sF (.bl _) q⟩
/-! ### xs[i] += n -/
def rGetL (K : PySem.W.Frag) : V → V → Hp → VK → Prop := fun o i H Q => ∃ (p : Addr) (xs : List V) (k : Nat) (y : V), o = .ref p ∧ i = .int (k : Int) ∧ k < 16777217 ∧ SqL K H p xs ∧ xs[k]? = some y ∧ Q y H
theorem get_lst : PGet X (rGetL X.K) := by
  intro pins s σ H o i ov iv Q I ro ri h
  obtain ⟨p, xs, k, y, rfl, rfl, hk, hq, hy, q⟩ := h
  cases ro
  obtain ⟨t, rfl⟩ := ri
  obtain ⟨its, r, pl, hz⟩ := I.list hq
  obtain ⟨w, ew, rw'⟩ := r.get hy
  exact wpAny_getItem_list pl.isList (by omega) (by omega) (by rw [Int.toNat_natCast]; simpa using ew) ⟨y, H, I, rw', q⟩
end
section
variable {Tq : List (Addr × Str)} {Z : Zb Tq} {X : Cx} {env : Env} {P : R → Env → Prop} {PO : Out → Prop} {e o ix f : Expr} {pos : Pos}
theorem ws_augix {tp : Pos} (h : WE Z X o env fun r e1 => ∃ a i p, r = .bor a i p ∧ WE Z X ix e1 fun r2 e2 => ∃ (j : Nat) (ds : List D) (c : Int), r2 = .t (.va (.int (j : Int))) ∧ getP i p e2 = some (.lst a ds) ∧ ds.length ≤ 16777216 ∧ ds[j]? = some (.int c) ∧
      WE Z X e e2 fun r3 e3 => ∃ (m : Int) (ds' : List D), r3 = .t (.va (.int m)) ∧ getP i p e3 = some (.lst a ds') ∧ ixN ds'.length (j : Int) = some j ∧ PO (.nx (setP i p (.lst a (ds'.set j (.int (c + m)))) e3)))
    (ha : ∀ ov iv new, augStore ix ov iv new = (do holding [new, ov, iv] (setItem ov iv new); release [new, ov, iv] []; pure .next) := by intros; rfl) : WS Z X (.AugAssign (.Subscript o ix tp) .Add e pos) env PO :=
  ws_of (ps_augS (pe_E (Z := Z)) (pe_E (Z := Z)) get_lst (pe_E (Z := Z)) ip_add set_list ha) fun σ H F O b0 o0 => ⟨env, F, O, _, b0, o0, h, fun ov H1 ⟨F1, O1, r, e1, b1, st1, fr1, a, i, p, er, q1⟩ => by
    subst er
    obtain ⟨o1, eov⟩ := st1
    subst eov
    refine ⟨e1, F1, O1, _, b1, o1, q1, fun iv H2 ⟨F2, O2, r2, e2, b2, st2, fr2, j, ds, c, er2, hg, hl, hc, q2⟩ => ?_⟩
    subst er2
    obtain ⟨Oa, Ob, rfl, o2, w2⟩ := st2
    cases w2 with
    | va rj =>
      cases rj
      rw [List.append_nil] at b2 fr2
      obtain ⟨xs, hH, rx, _⟩ := mutL b2 o2 hg
      obtain ⟨y, hy, ry⟩ := RpA.get' rx hc
      have hj : j < ds.length := (List.getElem?_eq_some_iff.mp hc).1
      refine ⟨a, xs, j, y, rfl, rfl, by omega, SqL.of hH, hy, ?_⟩
      cases ry
      refine ⟨e2, F2, Oa, _, b2, o2, q2, fun v H3 ⟨F3, O3, r3, e3, b3, st3, fr3, m, ds', er3, hg3, hj3, q3⟩ => ?_⟩
      subst er3
      obtain ⟨Oc, Od, rfl, o3, w3⟩ := st3
      cases w3 with
      | va rm =>
        cases rm
        rw [List.append_nil] at b3 fr3
        refine ⟨c, m, rfl, rfl, ?_⟩
        obtain ⟨ys, hH3, ry3, up⟩ := mutL b3 o3 hg3
        obtain ⟨O5, b5, o5, fr5⟩ := up (ys.set j (.int (c + m))) (ds'.set j (.int (c + m))) (ry3.set (.int _) j)
        refine ⟨a, ys, (j : Int), j, rfl, rfl, hH3, by rw [ry3.len]; exact hj3, ?_⟩
        exact ⟨F3, O5, _, b5, o5, ((fr1.trans fr2).trans fr3).trans fr5, q3⟩⟩
/-! ### dicts -/
theorem RpT.valo {F : Hp} {k : Key} : ∀ {vs : List (Key × V)} {ds : List (Key × D)}, RpT F vs ds → (valV vs k = none ∧ valT ds k = none) ∨ ∃ v d, valV vs k = some v ∧ valT ds k = some d ∧ Rp F v d
  | _, _, .nil => .inl ⟨rfl, rfl⟩
  | _, _, .cons (k := k2) r1 r => by
    unfold valV valT
    rw [List.find?_cons, List.find?_cons]
    by_cases e : k2 = k
    · simp only [e, decide_true]
      exact .inr ⟨_, _, rfl, rfl, r1⟩
    · simp only [e, decide_false]
      exact RpT.valo r
theorem lt1 {n : Nat} (h : n + 64 < cLine) : n + 1 < cLine := by omega
theorem w_dget2 {apos : Pos} (hu : X.A.units + 1 < cLine) (h : WE Z X o env fun r e1 => ∃ a i p ds0, r = .bor a i p ∧ getP i p e1 = some (.dic a ds0) ∧ WA Z X e e1 fun a2 e2 => WA Z X f e2 fun a3 e3 => ∃ (k : Key) (ds : List (Key × D)) (d : D), a2 = .va (kD k) ∧ a3 = .va d ∧ getP i p e3 = some (.dic a ds) ∧ P (.t (.va ((valT ds k).getD d))) e3)
    (m : M2 X o "get" apos e f pos := by exact ⟨rfl, rfl, rfl, rfl⟩) : WE Z X (.Call (.Attribute o "get" apos) [e, f] [] pos) env P :=
  we_of (pe_dget2 hu (pe_E (Z := Z)) (pe_A (Z := Z)) (pe_A (Z := Z)) m) fun σ H F O b0 o0 => ⟨env, F, O, _, b0, o0, h, fun v H1 ⟨F1, O1, r, e1, b1, st1, fr1, a, i, p, ds0, er, hg, q1⟩ => by
    subst er
    obtain ⟨o1, ev⟩ := st1
    subst ev
    obtain ⟨xs0, hH0, _, _⟩ := mutD b1 o1 hg
    refine ⟨a, rfl, .inl ⟨xs0, .inl hH0⟩, e1, F1, O1, _, b1, o1, q1, fun y H2 ⟨F2, O2, a2, e2, b2, o2, st2, fr2, q2⟩ => ⟨e2, F2, O2, _, b2, o2, q2, fun z H3 ⟨F3, O3, a3, e3, b3, o3, st3, fr3, k, ds, d, ea2, ea3, hg3, q3⟩ => ?_⟩⟩
    subst ea2 ea3
    have ey : y = kV k := Rp.key st2
    have rz : Rp F3 z d := st3
    obtain ⟨xs, hH, rx, _⟩ := mutD b3 o3 hg3
    refine ⟨valV xs k, .inl ⟨xs, k, .inl hH, ey, rfl⟩, ?_⟩
    rcases rx.valo (k := k) with ⟨n1, n2⟩ | ⟨v1, d1, n1, n2, rv⟩
    · rw [n1]
      rw [n2] at q3
      exact (post_val b3 o3 rz q3).from ((fr1.trans fr2).trans fr3)
    · rw [n1]
      rw [n2] at q3
      exact (post_val b3 o3 rv q3).from ((fr1.trans fr2).trans fr3)⟩
/-- {k1: v1, k2: v2} -/
theorem w_dict2 {k1 k2 v1 v2 : Expr} (h : WE Z X k1 env fun r1 e1 => ∃ y1 : Key, r1 = .t (.va (kD y1)) ∧ WE Z X v1 e1 fun r2 e2 => ∃ d1, r2 = .t (.va d1) ∧ WE Z X k2 e2 fun r3 e3 => ∃ y2 : Key, r3 = .t (.va (kD y2)) ∧ WE Z X v2 e3 fun r4 e4 => ∃ d2, r4 = .t (.va d2) ∧ y1 ≠ y2 ∧ ∀ p, P (.t (.dic p [(y1, d1), (y2, d2)])) e4) :
    WE Z X (.Dict [some k1, some k2] [v1, v2] pos) env P :=
  we_of (pe_disp (pps_cons (pe_E (Z := Z)) (pe_E (Z := Z)) (pps_cons (pe_E (Z := Z)) (pe_E (Z := Z)) pps_nil)) rfl rfl (by simp) (by simp)) fun σ H F O b o p hp => by
    obtain ⟨bp, op, frp⟩ := b.grow o (Same.refl _) (same_new (o := .dK []) hp) (b.sub.trans (same_new hp)) fun _ z => .inl z
    have hpO : p ∉ O := fun z => o.there p z hp
    -- each value is data
    have one : ∀ {F O : Hp → Prop}, True := fun {F O} => trivial
    refine ⟨env, F, O, _, bp, op, h, fun x1 H1 ⟨F1, O1, r1, e1, b1, st1, fr1, y1, er1, q1⟩ => ?_⟩
    subst er1
    obtain ⟨Oa, Ob, rfl, o1, w1⟩ := st1
    cases w1 with
    | va rk1 =>
    rw [List.append_nil] at b1 fr1
    have ek1 := rk1.key
    refine ⟨e1, F1, Oa, _, b1, o1, q1, fun x2 H2 ⟨F2, O2, r2, e2, b2, st2, fr2, d1, er2, q2⟩ => ?_⟩
    subst er2
    obtain ⟨Oc, Od, rfl, o2, w2⟩ := st2
    cases w2 with
    | va rv1 =>
    rw [List.append_nil] at b2 fr2
    refine ⟨e2, F2, Oc, _, b2, o2, q2, fun x3 H3 ⟨F3, O3, r3, e3, b3, st3, fr3, y2, er3, q3⟩ => ?_⟩
    subst er3
    obtain ⟨Oe, Of, rfl, o3, w3⟩ := st3
    cases w3 with
    | va rk2 =>
    rw [List.append_nil] at b3 fr3
    have ek2 := rk2.key
    refine ⟨e3, F3, Oe, _, b3, o3, q3, fun x4 H4 ⟨F4, O4, r4, e4, b4, st4, fr4, d2, er4, ne, q4⟩ => ?_⟩
    subst er4
    obtain ⟨Og, Oh, rfl, o4, w4⟩ := st4
    cases w4 with
    | va rv2 =>
    rw [List.append_nil] at b4 fr4
    have fr : Frm Tq (upd H p (.dK [])) F O H4 F4 Og := ((fr1.trans fr2).trans fr3).trans fr4
    have hp4 : H4 p = some (.dK []) := fr.out p _ upd_same (fun _ z => nomatch z) hpO
    have fp : F p = none := b.sub.free hp
    have fp4 : F4 p = none := by
      cases z : F4 p with
      | none => rfl
      | some x =>
        rcases fr.newF p (by rw [z]; exact fun z => nomatch z) with y | y | y
        · exact absurd fp y
        · rw [upd_same] at y; cases y
        · exact absurd y hpO
    have pa : p ∉ Og := fun z => (fr.newO p z).elim hpO fun y => by rw [upd_same] at y; cases y
    refine ⟨hp4, [(y1, x2), (y2, x4)], by rw [ek1, ek2]; rfl, by simp, ?_⟩
    have em : mergeK [] [(y1, x2), (y2, x4)] = [(y1, x2), (y2, x4)] := by
      show putK (putK [] y1 x2) y2 x4 = _
      unfold putK
      simp [ne]
    rw [em]
    generalize hob : (HO.dK [(y1, x2), (y2, x4)] : HO) = ob
    have s1 : Same F4 (upd H4 p ob) := fun c y z => by
      rw [upd_ne fun y => by rw [y, fp4] at z; cases z]
      exact b4.sub c y z
    have keep : ∀ c ∈ Og, upd H4 p ob c = H4 c := fun c hc => upd_ne fun z => pa (z ▸ hc)
    have fr2' : Frm Tq H F O (upd H4 p ob) F4 (Og ++ [p]) := by
      have f := frp.trans fr
      refine ⟨f.fz, fun c y hc nt n => ?_, fun c hc => ?_, fun c hc => ?_, fun c hc => ?_, f.tb.trans (tab_own hp4)⟩
      · have : c ≠ p := fun z => by rw [z, hp] at hc; cases hc
        rw [upd_ne this]
        exact f.out c y hc nt n
      · by_cases z : c = p
        · subst z; rw [upd_same]; exact fun z => nomatch z
        · rw [upd_ne z]; exact f.al c hc
      · exact f.newF c hc
      · rcases List.mem_append.mp hc with z | z
        · exact f.newO c z
        · rw [List.mem_singleton.mp z]; exact .inr hp
    refine ⟨F4, Og ++ [p], .t (.dic p [(y1, d1), (y2, d2)]), e4, ⟨s1, List.nodup_append.mpr ⟨b4.nd, List.nodup_cons.mpr ⟨fun z => (nomatch z), List.nodup_nil⟩, fun c hc c' hc' z => ?_⟩, fun c hc => ?_, b.abs.trans fr2'⟩, ⟨Og, [p], rfl, o4.stay (Same.refl _) keep, .dic (by rw [upd_same, ← hob]) (.cons (rv1.mono (fr3.fz.trans fr4.fz)) (.cons rv2 .nil))⟩, fr2', q4 p⟩
    · rw [List.mem_singleton.mp hc'] at z
      exact pa (z ▸ hc)
    · rcases List.mem_append.mp hc with z | z
      · exact b4.dis c z
      · rw [List.mem_singleton.mp z]; exact fp4
/-! ### xs.remove(n) -/
theorem w_remove {apos : Pos} (h : WE Z X o env fun r e1 => ∃ a i p ds0, r = .bor a i p ∧ getP i p e1 = some (.lst a ds0) ∧ WA Z X e e1 fun a1 e2 => ∃ (k : Int) (ns : List Int) (j : Nat), a1 = .va (.int k) ∧ getP i p e2 = some (.lst a (ns.map PyData.int)) ∧ ns[j]? = some k ∧ (∀ m : Nat, m < j → ns[m]? ≠ some k) ∧ P (.t (.va .none)) (setP i p (.lst a ((ns.eraseIdx j).map PyData.int)) e2))
    (hbase : attributeBase o "remove" X.env (eval o X.env) = eval o X.env := by rfl)
    (hfew : ((backTo pos (starEach [e] X.env)).all (fun x => !x.1) && (backToKw pos (keywordEach [] X.env)).all (fun x => x.1.isSome)
      && decide (([e] : List Expr).length + ([] : List Keyword).length + (if ([] : List Keyword).isEmpty then 0 else 1) < 30)) = true := by rfl)
    (hline : (apos.endLine == pos.line) = true := by rfl) (hs : starEach [e] X.env = (false, eval e X.env) :: starEach [] X.env := by rfl) (hpl : (backTo pos (starEach [] X.env)).any (·.1) = false := by rfl) :
    WE Z X (.Call (.Attribute o "remove" apos) [e] [] pos) env P :=
  we_of (pe_bm PySem.F.plainAttrs_list PySem.F.slot_list_remove PySem.F.type_list_remove mt_remove (pe_E (Z := Z)) (pa_cons (pe_A (Z := Z)) pa_nil hs) hbase hfew hline hs hpl) fun σ H F O b0 o0 =>
    ⟨env, F, O, _, b0, o0, h, fun v H1 ⟨F1, O1, r, e1, b1, st, fr1, a, i, p, ds0, er, hg, q⟩ => by
      subst er
      obtain ⟨o1, ev⟩ := st
      subst ev
      refine ⟨lst_at o1 hg, e1, F1, O1, _, b1, o1, q, fun v2 H2 ⟨F2, O2, a2, e2, b2, o2, st2, fr2, k, ns, j, ea, hg3, hj, hno, q3⟩ => ?_⟩
      subst ea
      have ev2 : v2 = .int k := by cases (show Rp F2 v2 (.int k) from st2); rfl
      obtain ⟨xs, hH, rx, up⟩ := mutL b2 o2 hg3
      have ex := rpa_ints_inv rx
      subst ex
      obtain ⟨O4, b4, o4, fr4⟩ := up ((ns.eraseIdx j).map V.int) ((ns.eraseIdx j).map PyData.int) (rpa_ints _)
      exact ⟨a, ns, k, j, rfl, by rw [ev2], hH, hj, hno, (post_val b4 o4 .non q3).from ((fr1.trans fr2).trans fr4)⟩⟩
end
end QL

/-! QTn: for i, x in enumerate(t), enumerate(t, k), t a tuple. -/
namespace QL
open PySem PySem.Spec PyProof.Rows L2
theorem en_new1 {y : Value} {ob : Obj} {Hh : Heap → Prop} (Bg : Begins y ob Hh) :
    Meets (Builtin.«enumerate.__new__» ⟨[.type "enumerate", y], []⟩) (fun _ Rz z => Hh z.heap ∧
      Rz (.ok (.ret (.ref (z.heap.push ob).objs.size))) { z with heap := (z.heap.push ob).push { cls := .type "enumerate", data := .fields #[.none, .bool false, .ref z.heap.objs.size, rawInt 0, .none, .none] } }) :=
  .of_wp fun pr w0 A0 Rz z hz => by
    obtain ⟨hp0, g0, d0, tk0, os0⟩ := z
    obtain ⟨hz1, hz2⟩ := hz
    have hsub := sub_enumerate
    have it1 : ∀ {A2 : Around} {E2 : Value → Shared → Prop} {Q2 : Value → Shared → Prop}, Q2 (.ref hp0.objs.size) ⟨hp0.push ob, g0, d0, tk0, os0⟩ → wpAny (model pr w0) A2 (pyIter y) Q2 E2 ⟨hp0, g0, d0, tk0, os0⟩ :=
      fun q2 => Bg.iter pr w0 _ _ ⟨hp0, g0, d0, tk0, os0⟩ _ hz1 q2
    wp_walk using it1
    refine wpAny_stack_any fun st2 => wpAny_pure ?_
    split
    · rename_i c2 _ _ _ _ _
      cases (c2 == Value.type "enumerate")
      · wp_walk using it1
        exact ⟨_, rfl, hz2⟩
      · wp_walk using it1
        exact ⟨_, rfl, hz2⟩
    · wp_walk using it1
      exact ⟨_, rfl, hz2⟩
section
variable {prog : Program} {w : World} {A : Around} {E : Value → Shared → Prop} {s : Shared}
theorem en_call1 {y : Value} {ob : Obj} {Hh : Heap → Prop} {Q : Value → Shared → Prop} (Bg : Begins y ob Hh) (h1 : Hh s.heap)
    (h : ∀ h2, IsEnum h2 (s.heap.objs.size + 1) s.heap.objs.size 0 .none → h2.get? s.heap.objs.size = some ob →
      (∀ b o, s.heap.get? b = some o → h2.get? b = some o) → Q (.ref (s.heap.objs.size + 1)) { s with heap := h2 }) :
    wpAny (model prog w) A (call (.type "enumerate") [y]) Q E s := by
  refine callType_new F.called_enumerate (by decide) (F.typeCall_enumerate_1 _) (F.newCall_enumerate_1 _) (fun obj => F.args_object_init_2 obj _) F.entry_enumerate_new (en_new1 Bg) ⟨h1, ?_⟩
  have hz : (s.heap.push ob).objs.size = s.heap.objs.size + 1 := Heap.size_push ..
  show _ ∧ _
  rw [hz]
  have e1 := Heap.get?_push_size (s.heap.push ob) (o := { cls := .type "enumerate", data := .fields #[.none, .bool false, .ref s.heap.objs.size, rawInt 0, .none, .none] }) rfl
  rw [hz] at e1
  exact ⟨⟨_, e1, rfl⟩, h _ e1 (Heap.get?_push_of_some _ (Heap.get?_push_size _ Bg.free)) fun b o q => Heap.get?_push_of_some _ (Heap.get?_push_of_some _ q)⟩
end
/-- the tuple at a, counted from k, each item in a new pair -/
def IteT (K : PySem.W.Frag) (a : Addr) (k : Int) : It :=
  ⟨fun i H => ∃ (ts : List V) (y : V), SqT K H a ts ∧ ts[i]? = some y, fun i H v H2 => ∃ T y, v = .ref T ∧ H T = none ∧ H2 = upd H T (.tup [.int (k + (i : Nat)), y]) ∧ ∀ ts, SqT K H a ts → ts[i]? = some y, fun i H => ∃ ts : List V, SqT K H a ts ∧ ts.length ≤ i⟩
theorem turn_enT {P : Program} {w : World} {K : PySem.W.Frag} {elts : List Expr} {kk : Nat} {tpos : Pos} (a en it : Addr) (k : Int) :
    Turn P w K (.Tuple elts kk tpos) (IteT K a k) [en, it] en (fun i h => (∃ old, IsEnum h en it (k + (i : Nat)) old) ∧ h.IsTupleIter it a i ∧ en ≠ it) where
  mem := List.mem_cons_self ..
  obj := fun i h st b hb => by
    obtain ⟨⟨old, he⟩, ⟨o, ho, hc, hd⟩, _⟩ := st
    rcases List.mem_cons.mp hb with z | z
    · rw [z]; exact ⟨_, he, fun v q => nomatch q⟩
    · rw [List.mem_singleton.mp z]; exact ⟨o, ho, fun v q => by rw [hd] at q; cases q⟩
  keep := fun i h h2 st kp => let ⟨⟨old, he⟩, hi, hne⟩ := st; ⟨⟨old, kp en (by simp) _ he⟩, hi.at fun o q => kp it (by simp) o q, hne⟩
  item := by
    intro X hP hw hK hc i pins s σ H E I hf st hg
    subst hP hw hK
    obtain ⟨⟨old, he⟩, hit, hne⟩ := st
    obtain ⟨ts, y, hq, hy⟩ := hg
    obtain ⟨its, rv, p, hz⟩ := I.tuple hq
    obtain ⟨u, hu, ru⟩ := rv.get hy
    have hp1 : s.heap.IsTuple a its.toArray := p
    have hel : en < s.heap.objs.size := Heap.lt_size he
    have hil : it < s.heap.objs.size := by obtain ⟨_, q, _⟩ := hit; exact Heap.lt_size q
    have hai : a ≠ it := fun q => by
      obtain ⟨o1, g1, c1, _⟩ := hit
      obtain ⟨o2, g2, c2, _⟩ := hp1
      rw [q, g1] at g2
      cases g2
      rw [c1] at c2
      exact absurd c2 (by decide)
    have hae : a ≠ en := fun q => by
      obtain ⟨o2, g2, c2, _⟩ := hp1
      rw [q, he] at g2
      cases g2
      exact absurd (show Value.type "enumerate" = Value.type "tuple" from c2) (by decide)
    have hlt : i < its.toArray.size := by
      have := (List.getElem?_eq_some_iff.mp hu).1
      simpa using this
    have hhd : X.A.in1.handled = none := I.ok.hd hc
    refine wpAny_pyNext_enum_itemC (Draws.tuple hhd it a hai its.toArray) he ⟨hit, hp1⟩ hlt hne (fun q => ?_) fun y2 h2 tk hy2 ho hit2 hT hsz hk => ?_
    · rcases List.mem_cons.mp q with q | q
      · exact hne q
      · exact hae (List.mem_singleton.mp q).symm
    have ey : y2 = u := by
      have hy2 : its.toArray[i]? = some y2 := hy2
      have : its.toArray[i]? = some u := by simpa using hu
      rw [this] at hy2; cases hy2; rfl
    subst ey
    refine ⟨_, rfl, wpAny_letOwnedTupleGo_enum (s := { s with heap := h2, toks := tk + 1 }) ho fun h3 he3 sb => ?_⟩
    have hT2 := (sb.2 _ (Nat.ne_of_gt hel)).trans hT
    have new : ObjOk X.prog X.w (upd H s.heap.objs.size (.tup [.int (k + (i : Nat)), y])) h3 s.heap.objs.size (.tup [.int (k + (i : Nat)), y]) :=
      ⟨(by decide : 2 ≤ sizeLine), [.int (k + (i : Nat)) tk, y2], .cons ⟨_, rfl⟩ (.cons ru .nil), ⟨_, hT2, rfl, _, rfl⟩⟩
    have I1 : Inv X pins σ (upd H s.heap.objs.size (.tup [.int (k + (i : Nat)), y])) { s with heap := h3, toks := tk + 1 } :=
      I.turnedNew (ch := [en, it]) (fun b ob hb q => (sb.2 b fun z => hb (List.mem_cons.mpr (.inl z))).trans (hk b ob (fun z => hb (List.mem_cons.mpr (.inl z))) (fun z => hb (List.mem_cons.mpr (.inr (List.mem_singleton.mpr z)))) q)) hf (Nat.le_refl _) new
    refine ⟨.ref s.heap.objs.size, _, I1, rfl, ⟨_, y, rfl, I.hok.fresh (Nat.le_refl _), rfl, fun zs hzs => by rw [I.tuple_inj hzs hq]; exact hy⟩, ⟨⟨y2, ?_⟩, hit2.1.at fun o q => (sb.2 it (Ne.symm hne)).trans q, hne⟩, fun b hb => ?_⟩
    · have e1 : k + ((i + 1 : Nat) : Int) = k + (i : Int) + 1 := by omega
      rw [e1]; exact he3
    · have hb2 : b < s.heap.objs.size := by
        rcases List.mem_cons.mp hb with z | z
        · exact z ▸ hel
        · rw [List.mem_singleton.mp z]; exact hil
      rw [upd_ne (Nat.ne_of_lt hb2)]
      exact (hf b hb).1
  done := by
    intro X hP hw hK hc i pins s σ H E I hf st hg
    subst hP hw hK
    obtain ⟨⟨old, he⟩, hit, hne⟩ := st
    obtain ⟨ts, hq, hx⟩ := hg
    obtain ⟨its, rv, p, hz⟩ := I.tuple hq
    obtain ⟨f0, f1, f2, f3, f4, f5⟩ := hf it (by simp)
    have hl := rv.length
    have hp1 : s.heap.IsTuple a its.toArray := p
    have hhd : X.A.in1.handled = none := I.ok.hd hc
    have hT : s.TypeIs (.ref en) "enumerate" := ⟨_, he, rfl⟩
    unfold pyNext
    refine wpAny_bind (wpAny_attempt (wpAny_callSpecial?_slot (name := Str.ofString "__next__") hT F.slot_enumerate_next (wpAny_call_entry F.slot_enumerate_next hT F.entry_enumerate_next ?_ (F.args_enumerate_next_1 _))))
    show wpAny _ _ (field (.ref en) 2 >>= _) _ _ _
    refine wpAny_bind (wpAny_field he rfl (x := .ref it) rfl ?_)
    refine wpAny_bind (wpAny_nextOf_tuple_end hhd hit hp1 (by simp; omega) fun h2 y2 he2 hx2 => ?_)
    obtain ⟨o, ho, hc2⟩ := hx2
    refine wpAny_bind (wpAny_isInstance (T := "StopIteration") (b := true) ⟨o, ho, hc2⟩ isSubtype_stop (wpAny_pure ⟨rfl, I.turned (t' := s.toks) (fun b o hb q => he2 b o hb q) f0 f1 f3 f4 f5⟩))
  self := fun A i s Q E st h => let ⟨⟨_, he⟩, _⟩ := st; wpAny_pyIter_enum he h

def iEnT (K : PySem.W.Frag) (ta : TA) : TI := fun σ H R => ta σ H fun vs H1 => ∃ a ts, vs = [.ref a] ∧ SqT K H1 a ts ∧ R (IteT K a 0) H1
theorem pi_enT {X : Cx} {e : Expr} {ta : TA} {p pos tpos : Pos} {elts : List Expr} {kk : Nat} (hg : Gl X "enumerate") (hm : X.mg "enumerate" = none) (ha : PA X [e] ta) (hs : starEach [e] X.env = [(false, eval e X.env)] := by rfl) :
    PI X (.Tuple elts kk tpos) (.Call (.Name "enumerate" p) [e] [] pos) (iEnT X.K ta) := by
  refine ⟨fun pins s σ H R I h => Call_ (ld_blt I hg hm boot_enumerate (callWith_type1 (thn (ha.run pos pins s σ H _ I h) fun us s1 ⟨vs, H1, I1, r1, a, ts, ex, hq, q⟩ => ?_) hs rfl))⟩
  subst ex
  cases r1 with
  | cons r rr =>
    cases rr
    cases r
    obtain ⟨its, rv, p2, hz⟩ := I1.tuple hq
    refine en_call1 (begins_tuple a its.toArray) p2 fun h2 he hit hk => wpAny_pyIter_enum he ?_
    have I2 : Inv X pins σ H1 { s1 with heap := h2 } := I1.kept (t' := s1.toks) hk
    refine ⟨s1.heap.objs.size + 1, [s1.heap.objs.size + 1, s1.heap.objs.size], _, _, H1, rfl, I2, turn_enT a (s1.heap.objs.size + 1) s1.heap.objs.size 0, ⟨⟨.none, he⟩, ⟨_, hit, rfl, rfl⟩, Nat.succ_ne_self _⟩, fun b hb => ?_, q⟩
    have hle : s1.heap.objs.size ≤ b := by
      rcases List.mem_cons.mp hb with z | z
      · rw [z]; exact Nat.le_add_right _ _
      · rw [List.mem_singleton.mp z]; exact Nat.le_refl _
    exact I1.fpOk hle (I1.hok.fresh hle)
/-- the pairs of enumerate -/
def enumD (k : Int) : List D → List D
  | [] => []
  | y :: ys => .tuple [.int k, y] :: enumD (k + 1) ys
theorem enumD_get : ∀ (ys : List D) (k : Int) (i : Nat), (enumD k ys)[i]? = ys[i]?.map fun y => PyData.tuple [.int (k + (i : Nat)), y]
  | [], _, _ => by simp [enumD]
  | y :: ys, k, 0 => by simp [enumD]
  | y :: ys, k, i + 1 => by
    show (enumD (k + 1) ys)[i]? = _
    rw [enumD_get ys (k + 1) i, List.getElem?_cons_succ]
    have e : k + 1 + (i : Int) = k + ((i + 1 : Nat) : Int) := by omega
    rw [e]
theorem gives_enT {K : PySem.W.Frag} {a : Addr} {xs : List V} {ds : List D} {F : Hp} (k : Int) (h1 : Rd F a (.tup xs)) (r1 : RpA F xs ds) : Gives (IteT K a k) (enumD k ds) F := fun F2 H2 s1 s2 i => by
  have q1 : SqT K H2 a xs := (.inl (rd_mono s2 (rd_mono s1 h1)))
  refine ⟨fun d hd => ?_, fun hn => ?_⟩
  · rw [enumD_get, Option.map_eq_some_iff] at hd
    obtain ⟨y, hy, e⟩ := hd
    subst e
    obtain ⟨v1, g1, w1⟩ := r1.get' hy
    refine ⟨⟨xs, v1, q1, g1⟩, fun v H3 ⟨T, y2, ev, hT, eH, f1⟩ => ?_⟩
    subst ev eH
    have e1 := (f1 xs q1).symm.trans g1
    cases e1
    have nf : F2 T = none := s2.free hT
    refine ⟨upd F2 T (.tup [.int (k + (i : Nat)), v1]), .tup (.inl upd_same) (.cons (.int _) (.cons (w1.mono (s1.trans (same_new nf))) .nil)), same_new nf, same_new hT, same_upd2 s2, fun c hc => ?_⟩
    by_cases z : c = T
    · subst z; exact .inr hT
    · rw [upd_ne z] at hc; exact .inl hc
  · rw [enumD_get, Option.map_eq_none_iff, List.getElem?_eq_none_iff] at hn
    exact ⟨xs, q1, by rw [r1.len]; exact hn⟩
section
variable {Tq : List (Addr × Str)} {Z : Zb Tq} {X : Cx} {a b tg iter : Expr} {env : Env} {pos : Pos}
def enG (ds : List D) (k : List D → Prop) : Prop := match ds with
  | [.tuple xs] => k (enumD 0 xs)
  | _ => False
/-- for i, x in enumerate(t) -/
theorem wi_enum {P : List D → Env → Prop} {p tpos : Pos} {elts : List Expr} {kk : Nat} (hm : X.mg "enumerate" = none) (h : WAs Z X [a] env fun as e1 => absorb as e1 fun ds e2 => enG ds fun xs => P xs e2) (hg : Gl X "enumerate" := by rfl)
    (hs : starEach [a] X.env = [(false, eval a X.env)] := by rfl) : WI Z X (.Tuple elts kk tpos) (.Call (.Name "enumerate" p) [a] [] pos) env P :=
  wi_of (pi_enT hg hm (pa_As (Z := Z)) hs) fun σ H F O b0 o0 => ⟨env, F, O, _, b0, o0, h, fun vs H1 ⟨F1, O1, as, e1, b1, o1, st, fr, q⟩ => by
    obtain ⟨F2, O2, ds, e2, b2, o2, r2, fr2, q⟩ := absorb_ok st b1 o1 q
    unfold enG at q
    split at q
    · cases r2 with
      | cons r3 rn =>
        cases rn
        cases r3 with
        | tup h3 r3 => exact ⟨_, _, rfl, (.inl (rd_mono b2.sub h3)), F2, O2, _, e2, b2, o2, fr.trans fr2, gives_enT 0 h3 r3, q⟩
    · exact q.elim⟩
end
end QL

/-! QTm: x = a list that is frozen at once. -/
namespace QL
open PySem PySem.Spec PyProof.Rows L2
theorem toA_imp {r : R} {k k' : A → Prop} (h : toA r k) (hk : ∀ a, k a → k' a) : toA r k' := by
  cases r with
  | bor a i p => exact hk _ h
  | t t =>
    unfold toA at h ⊢
    revert h
    simp only
    cases frzT t with
    | none => exact fun z => z
    | some d => exact hk _
theorem WA.imp {Tq : List (Addr × Str)} {Z : Zb Tq} {X : Cx} {e : Expr} {env : Env} {P P' : A → Env → Prop} (h : WA Z X e env P) (hp : ∀ a env, P a env → P' a env) : WA Z X e env P' := WE.imp h fun _ env q => toA_imp q fun a => hp a env
end QL

/-! QTo: `is` and `is not` between booleans. -/
namespace QL
open PySem PySem.Spec PyProof.Rows L2
variable {X : Cx}
end QL

/-! QTA: x, y, z = anything, anything, anything. -/
namespace QL
open PySem PySem.Spec PyProof.Rows L2
variable {Tq : List (Addr × Str)} {Z : Zb Tq} {X : Cx} {env : Env} {PO : Out → Prop} {a b c : Expr} {pos : Pos}
end QL

/-! QTC: things of one's own, one after another; o.f, o.g = e1, e2. -/
namespace QL
open PySem PySem.Spec PyProof.Rows L2
theorem StV.stay {F H F' H' : Hp} (s : Same F F') : ∀ {O : List Addr} {vs : List V} {ts : List T}, StV F H O vs ts → (∀ a ∈ O, H' a = H a) → StV F' H' O vs ts
  | _, _, _, .nil, _ => .nil
  | _, _, _, .cons h r, k => .cons (h.stay s fun a ha => k a (List.mem_append_left _ ha)) (r.stay s fun a ha => k a (List.mem_append_right _ ha))
theorem StV.held {F H : Hp} : ∀ {O : List Addr} {vs : List V} {ts : List T}, StV F H O vs ts → ∀ a ∈ O, Held H a
  | _, _, _, .nil, a, ha => nomatch ha
  | _, _, _, .cons h r, a, ha => (List.mem_append.mp ha).elim (h.held a) (r.held a)
theorem StV.there {F H : Hp} : ∀ {O : List Addr} {vs : List V} {ts : List T}, StV F H O vs ts → ∀ a ∈ O, H a ≠ none
  | _, _, _, .nil, a, ha => nomatch ha
  | _, _, _, .cons h r, a, ha => (List.mem_append.mp ha).elim (h.there a) (r.there a)
end QL

/-! QTD: f(e), e a thing that has no name yet. -/
namespace QL
open PySem PySem.Spec PyProof.Rows L2
end QL

/-! QTK: methods with *args: def m(self, *xs). -/
namespace QL
open PySem PySem.Spec PyProof.Rows L2 StX
/-- a def's promise to its callers, by the arguments as they are written (by place alone) -/
structure FnS (P : Program) (w : World) (K : PySem.W.Frag) (mg : Str → Option Value) (base : Heap) (Tq : List (Addr × Str)) (k : Nat) (f : Addr) (sp : Spc) : Prop where
  run : ∀ (A : Around) (outer : List PySem.Env) (s : Shared) (H : Hp) (us : List Value) (vs : List V) (F : Hp) (O : List Addr) (ts : List T) (QT : T → List (Option T) → Prop) (ET : Ex → List (Option T) → Prop) (E : XK) (tbs : TabZ Tq H F O),
    Room k A → A.guards = some [] → Env0 P w K mg base A outer s H → Vals vs us → Bas ⟨H, F, O, tbs⟩ F H O → StV F H O vs ts → sp ts QT ET →
    (∀ ex ts' cls d H' F' O', Bas ⟨H, F, O, tbs⟩ F' H' O' → StVO F' H' O' vs ts' → ExAt F' ex cls d → ET ex ts' → E cls d H') →
    codeAny (model P w) A (.call (.ref f) ⟨us, []⟩) (CR (L2.CX P w) outer P w H s (fun v H' => ∃ F' O1 O2 t ts', Bas ⟨H, F, O, tbs⟩ F' H' (O1 ++ O2) ∧ StVO F' H' O1 vs ts' ∧ Ow F' H' O2 v t ∧ QT t ts') E) s
theorem FnS.mono {P : Program} {w : World} {K : PySem.W.Frag} {mg : Str → Option Value} {base : Heap} {Tq : List (Addr × Str)} {j k : Nat} {f : Addr} {sp : Spc} (G : FnS P w K mg base Tq j f sp) (h : j ≤ k) : FnS P w K mg base Tq k f sp :=
  ⟨fun A outer s H us vs F O ts QT ET E tbs hr => G.run A outer s H us vs F O ts QT ET E tbs (hr.mono h)⟩
/-- one thing, then data that make a tuple -/
def spStar (sp : Spc) : Spc := fun ts QT ET => ∃ t0 ds, ts = t0 :: ds.map T.va ∧ ds.length ≤ sizeLine ∧
  sp [t0, .va (.tuple ds)] (fun t ts' => match ts' with | x :: _ => QT t (x :: ds.map fun _ => none) | [] => False) (fun ex ts' => match ts' with | x :: _ => ET ex (x :: ds.map fun _ => none) | [] => False)
structure MfS (P : Program) (w : World) (K : PySem.W.Frag) (mg : Str → Option Value) (base : Heap) (Tq : List (Addr × Str)) (k : Nat) (C : Addr) (m : Str) (sp : Spc) : Prop where
  ex : ∃ f, FnS P w K mg base Tq k f (spStar sp) ∧ Cls K C ∧ Meth K C m f ∧ (PySem.W.specialIn K (.ref f) "__get__" = some (some (.builtin "function.__get__")) ∧ PySem.W.takesIn K (.ref f) = some false ∧ PySem.W.copiedNames.contains m = false ∧ PySem.W.fnIn K f = true)
theorem MfS.mono {P : Program} {w : World} {K : PySem.W.Frag} {mg : Str → Option Value} {base : Heap} {Tq : List (Addr × Str)} {j k : Nat} {C : Addr} {m : Str} {sp : Spc} (G : MfS P w K mg base Tq j C m sp) (h : j ≤ k) : MfS P w K mg base Tq k C m sp :=
  let ⟨f, g, r⟩ := G.ex; ⟨f, g.mono h, r⟩
end QL

/-! QLa: a lambda without parameters, handed to a def that calls it. -/
namespace QL
open PySem PySem.Spec PyProof.Rows L2
theorem lam_ne (q : Str) : q ++ "<lambda>" ≠ ("()" : Str) := fun e => by
  have h : (q.cps ++ ("<lambda>" : Str).cps).size = ("()" : Str).cps.size := congrArg (fun s : Str => s.cps.size) e
  have h8 : ("<lambda>" : Str).cps.size = 8 := by decide +kernel
  have h2 : ("()" : Str).cps.size = 2 := by decide +kernel
  rw [Array.size_append] at h
  omega


/-- what a lambda promises: of its maker's names as they are -/
abbrev LamB := Env → (T → Env → Prop) → (Ex → Env → Prop) → Prop
/-- the rule that a()  gets, in the def that holds the lambda in slot i -/
def Act {Tq : List (Addr × Str)} (Z : Zb Tq) (Xc : Cx) (a : Str) (i : Nat) (lam : Env → T) (LB : LamB) : Prop :=
  ∀ (Z' : Zb Tq) (pn : List (Addr × Obj)) (xe : Value → Shared → Prop) (p1 p2 : Pos) (env e : Env) (P : R → Env → Prop) (ET : Ex → Env → Prop), TabM Tq Z.H Z'.H → Takes (Xc.tr pn xe) (wxOf Z' ET) → env[i]? = some (some (lam e)) →
    LB e (fun t e' => P (.t t) (env.set i (some (lam e')))) (fun ex e' => ET ex (env.set i (some (lam e')))) → WE Z' (Xc.tr pn xe) (.Call (.Name a p1) [] [] p2) env P
/-- what a def promises that gets a lambda and calls it; tg: what is wanted of the lambda, from what is wanted of the answer and of the maker's names then -/
abbrev Tg := ((T → Env → Prop) → (Ex → Env → Prop) → Prop) → (T → Env → Prop) → Prop
structure GvL (P : Program) (w : World) (K : PySem.W.Frag) (mg : Str → Option Value) (base : Heap) (Tq : List (Addr × Str)) (k : Nat) (x a : Str) (tg : Tg) : Prop where
  ex : ∃ (Ng : List Str) (st : Stmt) (g : Addr) (fd : FuncData), Fun K x x st g fd ∧ mg x = some (.ref g) ∧ PySem.W.keepIn K (.ref g) = true ∧ L2.Binds K fd [a] [] ∧ FnScope Ng [a] (defScope st) ∧ Ng[0]? = some a ∧ Vis (defScope st) a ∧
    ∀ (cdg : Value) (A : Around) (outer : List PySem.Env) (s : Shared) (H : Hp) (Z : Zb Tq) (lam : Env → T) (LB : LamB) (e0 : Env) (QT : T → Env → Prop),
      Room k (BX P w K mg base Ng x st g cdg A outer s H fun _ _ _ => False).A → (BX P w K mg base Ng x st g cdg A outer s H fun _ _ _ => False).A.guards = some [] →
      PassesOwn (model P w) (BX P w K mg base Ng x st g cdg A outer s H fun _ _ _ => False).A (BX P w K mg base Ng x st g cdg A outer s H fun _ _ _ => False).env (BX P w K mg base Ng x st g cdg A outer s H fun _ _ _ => False).xe →
      Act Z (BX P w K mg base Ng x st g cdg A outer s H fun _ _ _ => False) a 0 lam LB → tg (LB e0) QT →
      WSs Z (BX P w K mg base Ng x st g cdg A outer s H fun _ _ _ => False) (defBody st) (startE Ng [lam e0]) fun o => match o with
        | .ret t env => ∃ e', env[0]? = some (some (lam e')) ∧ QT t e'
        | _ => False
end QL

/-! QLb: try: .. except C as e: x = e; what x is afterwards. -/
namespace QL
open PySem PySem.Spec PyProof.Rows L2

theorem ExAt.mono {F F' : Hp} {ex : Ex} {cls : Value} {d : Option Addr} (s : Same F F') (h : ExAt F ex cls d) : ExAt F' ex cls d := by
  obtain ⟨e, h | ⟨dd, vfs, ed, hd, r⟩⟩ := h
  · exact ⟨e, .inl h⟩
  · exact ⟨e, .inr ⟨dd, vfs, ed, s _ _ hd, r.mono s⟩⟩
theorem endsOf.back {Tq : List (Addr × Str)} {Z : Zb Tq} {F H : Hp} {O : List Addr} {P : Out → Prop} (b : Bas Z F H O) : EndsLe (endsOf ⟨H, F, O, b.tabs⟩ H F O P) (endsOf Z H F O P) :=
  have to : ∀ {F' H' : Hp} {O' : List Addr}, Bas ⟨H, F, O, b.tabs⟩ F' H' O' → Bas Z F' H' O' := fun b' => ⟨b'.sub, b'.nd, b'.dis, b.abs.trans b'.abs⟩
  ⟨fun σ H' ⟨F', O', e, b', o', fr, q⟩ => ⟨F', O', e, to b', o', fr, q⟩, fun v H' ⟨F', Oa, Ob, σ, t, e, b', o', w', fr, q⟩ => ⟨F', Oa, Ob, σ, t, e, to b', o', w', fr, q⟩,
    fun σ H' ⟨F', O', e, b', o', fr, q⟩ => ⟨F', O', e, to b', o', fr, q⟩, fun σ H' ⟨F', O', e, b', o', fr, q⟩ => ⟨F', O', e, to b', o', fr, q⟩⟩
end QL

/-! QLc: an exception that a name holds: isinstance, is None, its fields. -/
namespace QL
open PySem PySem.Spec PySem.Calls PyProof.Rows L2
section
variable {Tq : List (Addr × Str)} {Z : Zb Tq} {X : Cx} {env : Env} {P : R → Env → Prop} {pos p p1 p2 apos : Pos} {y : Str} {a : Addr} {ex : Ex}
theorem ExAt.dict {F H : Hp} {cls : Value} {d : Option Addr} (s : Same F H) (h : ExAt F ex cls d) : d = none ∨ ∃ dd fs, d = some dd ∧ H dd = some (.xd fs) := by
  obtain ⟨_, h | ⟨dd, vfs, ed, hd, _⟩⟩ := h
  · exact .inl h.1
  · exact .inr ⟨dd, vfs, ed, s _ _ hd⟩
end
end QL

/-! QLd: raise C(v), C a class of one's own whose __init__ calls B.__init__(self, '..') and sets one field. -/
namespace QL
open PySem PySem.Spec PySem.Calls PyProof.Rows L2
section
variable {X : Cx} {e : Expr} {es : List Expr} {ta : TA} {p1 p2 pos : Pos}
theorem pe_ownInit {x : Str} {B : Addr} {mc : Value} {pl : Sem Bool} (hg : Gl X x) (hm : X.mg x = some (.ref B)) (r : ClX.CRead X.K B mc) (hk : PySem.W.findCls X.K (.ref B) mc "__init__" = some (.val (.builtin "ValueError.__init__"))) (ha : PA X (e :: es) ta)
    (hc : eval (.Call (.Attribute (.Name x p1) "__init__" p2) (e :: es) [] pos) X.env = (do
      let ov ← eval (.Name x p1) X.env
      standAt p2.atName
      let (f, first) ← holding [ov] (getMethod ov "__init__" pl)
      callWith pos f first (backTo pos (starEach (e :: es) X.env)) (backToKw pos (keywordEach [] X.env))) := by rfl)
    (hdb : (x == ("__debug__" : Str)) = false := by decide) (he : starEach (e :: es) X.env = (false, eval e X.env) :: starEach es X.env := by rfl) (hpl : (backTo pos (starEach es X.env)).any (·.1) = false := by rfl) :
    PE X (.Call (.Attribute (.Name x p1) "__init__" p2) (e :: es) [] pos) (tVeI X.K ta) := by
  refine ⟨fun pins s σ H Q I h => ?_⟩
  refine PySem.W.methodCall_KW (ld_glob I hg hm ?_ hdb) hc
  refine PySem.W.method_cls I.kIn r.ga (PySem.W.cls_value I.kIn r.rd hk rfl ?_)
  show wpAny _ _ (callWith pos (Value.builtin "ValueError.__init__") [] (backTo pos (starEach (e :: es) X.env)) []) _ _ _
  refine PyProof.Rows.callWith_method1 (thn (ha.run pos pins _ σ H _ (I.tok _) h) fun us s1 ⟨vs, H1, I1, r1, a, C, ws, ev, hl, T, ea, q⟩ => ?_) he hpl
  subst ev
  cases r1 with
  | @cons _ u0 _ ur ra rw' =>
    obtain rfl : u0 = Value.ref a := ra
    have hlen : ur.length ≤ sizeLine := by
      rw [← Paired.length rw', sizeLine_eq]
      omega
    exact oinit_ok T I1 ea hlen fun s' J => ⟨.non, H1, J, rfl, q⟩
end
/-- what such an __init__ does: one field, with the value that it got -/
def spX (K : PySem.W.Frag) (C : Addr) (f : Str) : Sp := fun vs H Q E => ∃ (a : Addr) (v : V), vs = [.ref a, v] ∧ OexC K C ∧ H a = some (exo a C none) ∧ ∀ dx, H dx = none → dx ≠ a → Q .non (upd (upd H dx (exd dx [(f, v)])) a (exo a C (some dx)))
section
variable {Tq : List (Addr × Str)} {Z : Zb Tq} {X : Cx} {env : Env} {PO : Out → Prop} {ET : Ex → Env → Prop} {e : Expr} {p pos pos' : Pos}
/-- raise C(e) -/
theorem ws_raise1 {CX : CXT} {x f : Str} {C fI : Addr} {k : Nat} {fd : FuncData} {ps : List Str} (T : OexC X.K C) (iC : PySem.W.findIn X.K (.ref C) "__init__" = some (some (.ref fI))) (tI : PySem.W.typeIn X.K (.ref fI) = some (.type "function"))
    (F1 : FnOk X.prog X.w X.K X.mg X.base CX k fI fd ps (spX X.K C f)) (hr : Room (k + 1) X.A) (hb : L2.Binds X.K fd ps []) (hx : Passes CX X (fun _ _ _ => False)) (hm : X.mg x = some (.ref C)) (hc : X.calm = true) (tk : Takes X (wxOf Z ET))
    (h : WAs Z X [e] env fun as e1 => ∃ dv, as = [.va dv] ∧ ET ⟨C, [(f, dv)]⟩ e1) (hg : Gl X x := by rfl) (hdb : (x == ("__debug__" : Str)) = false := by decide)
    (he : starEach [e] X.env = (false, eval e X.env) :: starEach [] X.env := by rfl) (hpl : (backTo pos (starEach [] X.env)).any (·.1) = false := by rfl) : WS Z X (.Raise (some (.Call (.Name x p) [e] [] pos)) none pos') env PO :=
  ws_of (ps_raise hc tk (pmk_oex (ds := []) (dvs := []) T iC tI F1 hr hb .nil hx hg hm (pa_As (Z := Z)) hdb he hpl)) fun σ H F O b o => by
    refine ⟨env, F, O, _, b, o, h, fun vs H1 ⟨F1, O1, as, e1, b1, o1, st, fr, dv, eas, q⟩ => ?_⟩
    subst eas
    cases st with
    | @cons v vs _ _ s1 s2 =>
    cases s2
    have rv : Rp F1 v dv := s1
    refine ⟨by simp, fun a na => ⟨a, v, rfl, T, upd_same, fun dx ndx ne => ⟨rfl, dx, [(f, v)], upd_same, by rw [upd_ne ne, upd_same], by rwa [upd_ne ne] at ndx, ?_⟩⟩⟩
    have nd : H1 dx = none := by rwa [upd_ne ne] at ndx
    have eH : upd (del (upd (upd (upd H1 a (exo a C none)) dx (exd dx [(f, v)])) a (exo a C (some dx))) a) dx (.xd [(f, v)]) = upd H1 dx (.xd [(f, v)]) := by
      funext c
      by_cases z : c = dx
      · subst z; rw [upd_same, upd_same]
      · rw [upd_ne z, upd_ne z]
        by_cases z2 : c = a
        · subst z2; rw [del_same, na]
        · rw [del_ne z2, upd_ne z2, upd_ne z, upd_ne z2]
    rw [eH]
    have sF : Same F1 (upd F1 dx (.xd [(f, v)])) := same_new (b1.sub.free nd)
    have sH : Same H1 (upd H1 dx (.xd [(f, v)])) := same_new nd
    have sub : Same (upd F1 dx (.xd [(f, v)])) (upd H1 dx (.xd [(f, v)])) := fun c y z => by
      by_cases z2 : c = dx
      · subst z2; rw [upd_same] at z ⊢; exact z
      · rw [upd_ne z2] at z ⊢; exact b1.sub c y z
    obtain ⟨b2, o2, _⟩ := b1.grow o1 sF sH sub fun c z => by
      by_cases z2 : c = dx
      · subst z2; exact .inr nd
      · rw [upd_ne z2] at z; exact .inl z
    exact ⟨_, O1, e1, ⟨C, [(f, dv)]⟩, b2, o2, ⟨rfl, .inr ⟨dx, [(f, v)], rfl, upd_same, .cons (rv.mono sF) .nil⟩⟩, q⟩
end
/-! ### an error without fields -/
theorem mk_end00 {X : Cx} {pins : List (Addr × Obj)} {σ : L2.St} {H1 H2 : Hp} {hp hp2 h2 : Heap} {g1 g2 : Array GenState} {d1 d2 : Drawn} {t1 t2 : Nat} {os1 os2 : OsState} {a C : Addr} (I1 : Inv X pins σ H1 ⟨hp, g1, d1, t1, os1⟩)
    (ha : hp.objs.size ≤ a) (k : ∀ b o, hp.get? b = some o → hp2.get? b = some o) (un : Un (frs X.stack) [] (upd H1 a (exo a C none)) H2 hp2 h2) (hok : HOk X.prog X.w H2 h2) (ho : os2 = os1) (hb : AllBare g2)
    (ea : H2 a = some (exo a C none)) :
    ∃ (t0 : Addr) (G : Heap), Inv X pins σ (del H2 a) ⟨G, g2, d2, t2, os2⟩ ∧ (∀ b o, G.get? b = some o → h2.get? b = some o) ∧ G.get? a = none ∧
      h2.get? a = some ({ cls := .ref C, dict := none, data := .fields #[.ref t0, .none, .none, .none, .bool false, .none] } : Obj) ∧ (del H2 a) a = none := by
  obtain ⟨t0, hoe⟩ := exo_at hok ea
  have hn : H1 a = none := I1.hok.fresh ha
  obtain ⟨G, g1', g2'⟩ := restrict h2 fun b => decide (b ≠ a)
  have gk : ∀ b, b ≠ a → G.get? b = h2.get? b := fun b hb => g1' b (decide_eq_true hb)
  have ge : G.get? a = none := g2' a (by simp)
  have nha : ∀ {b : Addr} {o : Obj}, hp.get? b = some o → b ≠ a := fun {b o} z => Nat.ne_of_lt (Nat.lt_of_lt_of_le (Heap.lt_size z) ha)
  have up : ∀ {b : Addr}, b ≠ a → H1 b = none → upd H1 a (exo a C none) b = none := fun {b} hb n => by rw [upd_ne hb]; exact n
  have U : Un (frs X.stack) [] H1 (del H2 a) hp G := {
    keep := fun b o z n hf hx => by
      rw [gk b (nha z)]
      exact un.keep b o (k b o z) (up (nha z) n) hf hx
    slot := fun b o z n hf hx => by
      rw [gk b (nha z)]
      exact un.slot b o (k b o z) (up (nha z) n) hf hx
    free := fun b o z n hx => by
      rw [del_ne (nha z)]
      exact un.free b o (k b o z) (up (nha z) n) hx
    there := fun b o z hx => by
      rw [gk b (nha z)]
      exact un.there b o (k b o z) hx
    tups := fun b xs z => by
      rw [del_ne (ne_of_none z hn)]
      exact un.tups b xs (by rw [upd_ne (ne_of_none z hn)]; exact z)
    frzs := fun b o v z => by
      rw [del_ne (ne_of_none z hn)]
      exact un.frzs b o v (by rw [upd_ne (ne_of_none z hn)]; exact z)
    tbls := fun b ps z => by
      rw [del_ne (ne_of_none z hn)]
      exact un.tbls b ps (by rw [upd_ne (ne_of_none z hn)]; exact z) }
  have hok3 : HOk X.prog X.w (del H2 a) G := fun b o z => by
    have hba : b ≠ a := fun e => by
      rw [e, del_same] at z
      cases z
    rw [del_ne hba] at z
    have noa : ∀ {c : Addr}, H2 c = some (.own b) → c ≠ a := fun {c} hc => at_ne ea hc exo_own
    exact (hok b o z).stay (fun c v hc y => by
        have hca : c ≠ a := by
          rcases hc with hc | hc
          · rw [hc]
            exact hba
          · exact noa hc
        rw [gk c hca]
        exact y)
      (fun c hc => by rw [del_ne (noa hc)]; exact hc) (fun c xs hc => by rw [del_ne (at_ne ea hc exo_tup)]; exact hc)
  have J : Inv X pins σ (del H2 a) ⟨G, g2, d2, t2, os2⟩ := I1.call' (ch := []) ho U hok3 hb (fun b z => absurd z (by simp))
  refine ⟨t0, G, J, fun b o z => ?_, ge, hoe, del_same⟩
  by_cases hba : b = a
  · rw [hba, ge] at z
    cases z
  · exact (gk b hba).symm.trans z
/-- what an __init__ without fields does -/
def spX0 (K : PySem.W.Frag) (C : Addr) : Sp := fun vs H Q E => ∃ (a : Addr), vs = [.ref a] ∧ OexC K C ∧ H a = some (exo a C none) ∧ Q .non H
section
variable {X : Cx} {p pos : Pos}
theorem pmk_oex0 {CX : CXT} {x : Str} {C fI : Addr} {k : Nat} {fd : FuncData} {ps : List Str} (T : OexC X.K C) (iC : PySem.W.findIn X.K (.ref C) "__init__" = some (some (.ref fI))) (tI : PySem.W.typeIn X.K (.ref fI) = some (.type "function"))
    (F1 : FnOk X.prog X.w X.K X.mg X.base CX k fI fd ps (spX0 X.K C)) (hr : Room (k + 1) X.A) (hb : L2.Binds X.K fd ps []) (hx : Passes CX X (fun _ _ _ => False)) (hg : Gl X x) (hm : X.mg x = some (.ref C))
    (hdb : (x == ("__debug__" : Str)) = false := by decide) :
    PMk X (.Call (.Name x p) [] [] pos) (fun σ H Q => Q (.ref C) none H) := by
  intro pins s σ H Q I h
  obtain ⟨nm, q, N, bs, bm, sn, sub, ab, col, dd, k0, k1, k2, k3, k5, hC, hbm⟩ := T.cls
  refine wpAny_Call_Name_kw (ld_glob I hg hm ?_ hdb)
  refine PySem.W.callWith_K0 I.kIn T.kC ?_
  show wpAny _ _ (call (.ref C) []) _ _ _
  obtain ⟨hp, g, dr, tk, os⟩ := s
  have hsz : hp.objs.size ≤ hp.objs.size + 1 := Nat.le_succ _
  have hn : H (hp.objs.size + 1) = none := I.hok.fresh hsz
  have kk : ∀ b o, hp.get? b = some o → ((hp.push (PySem.W.kdv_tup [])).push (PySem.HandSPX.excO C hp.objs.size)).get? b = some o := fun b o e => Heap.get?_push_of_some _ (Heap.get?_push_of_some _ e)
  have hget : ((hp.push (PySem.W.kdv_tup [])).push (PySem.HandSPX.excO C hp.objs.size)).get? (hp.objs.size + 1) = some (PySem.HandSPX.excO C hp.objs.size) := by heap_get
  have I2 : Inv X pins σ (upd H (hp.objs.size + 1) (exo (hp.objs.size + 1) C none)) ⟨(hp.push (PySem.W.kdv_tup [])).push (PySem.HandSPX.excO C hp.objs.size), g, dr, tk, os⟩ :=
    I.laid (t' := tk) (a := hp.objs.size + 1) (o := exo (hp.objs.size + 1) C none) (h' := (hp.push (PySem.W.kdv_tup [])).push (PySem.HandSPX.excO C hp.objs.size)) kk hsz (exo_ok hget)
  have r2 : Vals [V.ref (hp.objs.size + 1)] [Value.ref (hp.objs.size + 1)] := .cons rfl .nil
  have hq : spX0 X.K C [V.ref (hp.objs.size + 1)] (upd H (hp.objs.size + 1) (exo (hp.objs.size + 1) C none)) (fun v H2 => v = .non ∧ H2 = upd H (hp.objs.size + 1) (exo (hp.objs.size + 1) C none)) (fun _ _ _ => False) := ⟨_, rfl, T, upd_same, rfl, rfl⟩
  have hl : ([Value.ref (hp.objs.size + 1)] : List Value).length = ps.length := by
    have e := F1.len _ _ _ _ hq
    exact e
  refine wpAny_call (PySem.HandSPX.call_own F.excBase_ValueError (fun Y => PySem.HandSPX.refsVE_contains Y bm hbm) (I.kIn _ _ hC) (PySem.W.looks_findIn I.kIn iC) (fun self => PySem.W.bind_fn I.kIn self tI) (Nat.zero_le _)
    (codeAny_mono (F1.run _ X.stack _ _ ⟨[Value.ref (hp.objs.size + 1)], []⟩ [Value.ref (hp.objs.size + 1)] _ _ (fun _ _ _ => False) (hr.make C [] []) (I2.env0.make C [] []) (by have := hb ⟨(hp.push (PySem.W.kdv_tup [])).push (PySem.HandSPX.excO C hp.objs.size), g, dr, tk, os⟩ [Value.ref (hp.objs.size + 1)] I2.kIn (by simpa using hl); rwa [List.append_nil] at this) r2 hq) fun r s' hq' => ?_))
  cases r with
  | error er => exact hx pins σ _ _ er s' I2 hq'
  | ok fl =>
    cases fl with
    | ret u =>
      obtain ⟨v, H2, os2, bare2, un2, hok2, rv, ev, eH⟩ := hq'
      subst ev
      obtain ⟨h2, g2, d2, t2, os'⟩ := s'
      have ea : H2 (hp.objs.size + 1) = some (exo (hp.objs.size + 1) C none) := by rw [eH]; exact upd_same
      have eD : del H2 (hp.objs.size + 1) = H := by
        rw [eH]
        funext c
        by_cases z : c = hp.objs.size + 1
        · rw [z, del_same, hn]
        · rw [del_ne z, upd_ne z]
      obtain ⟨t0, G, J, kG, ge, hoe, na⟩ := mk_end00 (d2 := d2) (t2 := t2) I hsz kk un2 hok2 os2 bare2 ea
      rw [eD] at J na
      exact ⟨rv, _, _, _, ⟨G, g2, d2, t2, os'⟩, _, .ref C, none, rfl, J, kG, ge, hoe, ⟨rfl, rfl⟩, rfl, rfl, na, rfl, bare2, raises_own T.exC T.tyC, h⟩
    | next => exact False.elim hq'
    | brk => exact False.elim hq'
    | cont => exact False.elim hq'
end
section
variable {Tq : List (Addr × Str)} {Z : Zb Tq} {X : Cx} {env : Env} {PO : Out → Prop} {ET : Ex → Env → Prop} {p pos pos' : Pos}
/-- raise C() -/
theorem ws_raise0 {CX : CXT} {x : Str} {C fI : Addr} {k : Nat} {fd : FuncData} {ps : List Str} (T : OexC X.K C) (iC : PySem.W.findIn X.K (.ref C) "__init__" = some (some (.ref fI))) (tI : PySem.W.typeIn X.K (.ref fI) = some (.type "function"))
    (F1 : FnOk X.prog X.w X.K X.mg X.base CX k fI fd ps (spX0 X.K C)) (hr : Room (k + 1) X.A) (hb : L2.Binds X.K fd ps []) (hx : Passes CX X (fun _ _ _ => False)) (hm : X.mg x = some (.ref C)) (hc : X.calm = true) (tk : Takes X (wxOf Z ET))
    (h : ET ⟨C, []⟩ env) (hg : Gl X x := by rfl) (hdb : (x == ("__debug__" : Str)) = false := by decide) : WS Z X (.Raise (some (.Call (.Name x p) [] [] pos)) none pos') env PO :=
  ws_of (ps_raise hc tk (pmk_oex0 T iC tI F1 hr hb hx hg hm hdb)) fun σ H F O b o => ⟨F, O, env, ⟨C, []⟩, b, o, ⟨rfl, .inl ⟨rfl, rfl⟩⟩, h⟩
end
end QL

/-! QLe: calls whose errors pass on; makers of lambdas; errors that a module makes. -/
namespace QL
open PySem PySem.Spec PySem.Calls PyProof.Rows L2
/-! ### errors that a module makes -/
/-- an error class with one field f -/
structure Rz (P : Program) (w : World) (K : PySem.W.Frag) (mg : Str → Option Value) (base : Heap) (k : Nat) (x : Str) (C : Addr) (f : Str) : Prop where
  ex : ∃ (fI : Addr) (fd : FuncData) (ps : List Str), OexC K C ∧ PySem.W.findIn K (.ref C) "__init__" = some (some (.ref fI)) ∧ PySem.W.typeIn K (.ref fI) = some (.type "function") ∧ FnOk P w K mg base (L2.CX P w) k fI fd ps (spX K C f) ∧ L2.Binds K fd ps [] ∧ mg x = some (.ref C)
theorem Rz.mono {P : Program} {w : World} {K : PySem.W.Frag} {mg : Str → Option Value} {base : Heap} {j k : Nat} {x : Str} {C : Addr} {f : Str} (R : Rz P w K mg base j x C f) (h : j ≤ k) : Rz P w K mg base k x C f :=
  let ⟨fI, fd, ps, a, b, c, d, e⟩ := R.ex; ⟨fI, fd, ps, a, b, c, d.mono h, e⟩
/-- an error class without fields -/
structure Rz0 (P : Program) (w : World) (K : PySem.W.Frag) (mg : Str → Option Value) (base : Heap) (k : Nat) (x : Str) (C : Addr) : Prop where
  ex : ∃ (fI : Addr) (fd : FuncData) (ps : List Str), OexC K C ∧ PySem.W.findIn K (.ref C) "__init__" = some (some (.ref fI)) ∧ PySem.W.typeIn K (.ref fI) = some (.type "function") ∧ FnOk P w K mg base (L2.CX P w) k fI fd ps (spX0 K C) ∧ L2.Binds K fd ps [] ∧ mg x = some (.ref C)
theorem Rz0.mono {P : Program} {w : World} {K : PySem.W.Frag} {mg : Str → Option Value} {base : Heap} {j k : Nat} {x : Str} {C : Addr} (R : Rz0 P w K mg base j x C) (h : j ≤ k) : Rz0 P w K mg base k x C :=
  let ⟨fI, fd, ps, a, b, c, d, e⟩ := R.ex; ⟨fI, fd, ps, a, b, c, d.mono h, e⟩
section
variable {Tq : List (Addr × Str)} {Z : Zb Tq} {X : Cx} {env : Env} {PO : Out → Prop} {ET : Ex → Env → Prop} {e : Expr} {p pos pos' : Pos}
theorem ws_raiseR0 {x : Str} {C : Addr} {k : Nat} (R : Rz0 X.prog X.w X.K X.mg X.base k x C) (hr : Room (k + 1) X.A) (tk : Takes X (wxOf Z ET))
    (h : ET ⟨C, []⟩ env) (hc : X.calm = true := by rfl) (hg : Gl X x := by rfl) (hdb : (x == ("__debug__" : Str)) = false := by decide) : WS Z X (.Raise (some (.Call (.Name x p) [] [] pos)) none pos') env PO := by
  obtain ⟨fI, fd, ps, T, iC, tI, F1, hb, hm⟩ := R.ex
  exact ws_raise0 T iC tI F1 hr hb (L2.passes_call (W := wxOf Z fun _ _ => False) takes_no fun _ _ _ _ z => z.elim) hm hc tk h hg hdb
theorem ws_raiseR {x f : Str} {C : Addr} {k : Nat} (R : Rz X.prog X.w X.K X.mg X.base k x C f) (hr : Room (k + 1) X.A) (tk : Takes X (wxOf Z ET))
    (h : WAs Z X [e] env fun as e1 => ∃ dv, as = [.va dv] ∧ ET ⟨C, [(f, dv)]⟩ e1) (hc : X.calm = true := by rfl) (hg : Gl X x := by rfl) (hdb : (x == ("__debug__" : Str)) = false := by decide)
    (he : starEach [e] X.env = (false, eval e X.env) :: starEach [] X.env := by rfl) (hpl : (backTo pos (starEach [] X.env)).any (·.1) = false := by rfl) : WS Z X (.Raise (some (.Call (.Name x p) [e] [] pos)) none pos') env PO := by
  obtain ⟨fI, fd, ps, T, iC, tI, F1, hb, hm⟩ := R.ex
  exact ws_raise1 T iC tI F1 hr hb (L2.passes_call (W := wxOf Z fun _ _ => False) takes_no fun _ _ _ _ z => z.elim) hm hc tk h hg hdb he hpl
end
/-- a def with defaults -/
structure FunV (K : PySem.W.Frag) (x qual : Str) (st : Stmt) (f : Addr) (fd : FuncData) : Prop where
  ex : ∃ (oc : Value) (od : Option Addr) (dV kV doc pm : Value) (an : Option Addr) (cdv ct : Value) (osl : Array (Option Value)),
    fd = PySem.W.fnOf x qual (defArgs st) (defBody st) (defScope st) dV kV doc pm an cdv ct ∧ K.lookup f = some ⟨oc, od, .func fd, osl⟩ ∧ PySem.W.codeIn K cdv qual = true
theorem fn_gV {P : Program} {w : World} {K : PySem.W.Frag} {mg : Str → Option Value} {base : Heap} {Tq : List (Addr × Str)} {x qual : Str} {st : Stmt} {f : Addr} {fd : FuncData} {N ps : List Str} {k : Nat} {sp : Spc} (Fn : FunV K x qual st f fd) (S : FnScope N ps (defScope st)) (len : ∀ ts Q E, sp ts Q E → ts.length = ps.length)
    (hbody : ∀ (cdv : Value) (A : Around) (outer : List PySem.Env) (s : Shared) (H : Hp) (E : XK) (Z : Zb Tq) (ts : List T) (QT : T → List (Option T) → Prop) (ET : Ex → List (Option T) → Prop), Room k (BX P w K mg base N qual st f cdv A outer s H E).A → (BX P w K mg base N qual st f cdv A outer s H E).A.guards = some [] →
      PassesOwn (model P w) (BX P w K mg base N qual st f cdv A outer s H E).A (BX P w K mg base N qual st f cdv A outer s H E).env (BX P w K mg base N qual st f cdv A outer s H E).xe →
      Takes (BX P w K mg base N qual st f cdv A outer s H E) (wxOf Z fun ex e => back ts e (ET ex)) → sp ts QT ET → WSs Z (BX P w K mg base N qual st f cdv A outer s H E) (defBody st) (startE N ts) (finP QT ts)) : FnG P w K mg base Tq (k + 1) f fd ps sp := by
  obtain ⟨oc, od, dV, kV, doc, pm, an, cdv, ct, osl, rfl, lk, hcd⟩ := Fn.ex
  refine ⟨len, fun A outer s H args us vs F O ts QT ET E tbs hr hg e0 hb r b sv hsp hE => ?_⟩
  have hl : vs.length = ps.length := sv.len.trans (len _ _ _ hsp)
  refine Att.call_fn (e0.mod.kin.keeps fun b o e => (e0.bs b o e).1) (e0.mod.nolimit.keeps fun b o e => (e0.bs b o e).1) lk hcd hr.depth hb ?_ (fun s1 ic => ?_) S.co S.gen S.kind
  · refine List.all_eq_true.mpr fun y hy => ?_
    rcases S.par y.1 (List.of_mem_zip hy).1 with q | q <;> rw [q] <;> rfl
  · have I : Inv (BX P w K mg base N qual st f cdv A outer s H E) [] (L2.start N vs) H s1 := inv_start S hr.hd e0 hl r ic
    have tk : Takes (BX P w K mg base N qual st f cdv A outer s H E) (wxOf ⟨H, F, O, tbs⟩ fun ex e => back ts e (ET ex)) := by
      refine (takes_of (X := BX P w K mg base N qual st f cdv A outer s H E) (E := E) rfl rfl rfl rfl).imp fun cls d σ H' ⟨F', O', env, ex, b', o', xa, q⟩ => ?_
      obtain ⟨O1, Od, ts', p1, s1, q⟩ := back_ok sv o' q
      exact hE ex _ cls d H' F' O1 (b'.perm p1).left s1 xa q
    have hgd : (BX P w K mg base N qual st f cdv A outer s H E).A.guards = some [] := hg
    have body := hbody cdv A outer s H E ⟨H, F, O, tbs⟩ ts QT ET (hr.deeper _) hgd (passes_of (X := BX P w K mg base N qual st f cdv A outer s H E) rfl) tk hsp
    have o0 : OwE F H O (L2.start N vs) (startE N ts) := by
      unfold L2.start startE
      rw [sv.len]
      exact sv.start (N := N) _
    refine wpAny_mono (body [] s1 (L2.start N vs) H F O I b o0) (fun fl s' hs => ?_) fun e s' hs => hs
    have fin : ∀ {σ' : L2.St} {H' F' : Hp} {O1 O2 : List Addr} {t : T} {e : Env} {v : V} {u : Value}, Inv (BX P w K mg base N qual st f cdv A outer s H E) [] σ' H' s' → RelV v u → Bas ⟨H, F, O, tbs⟩ F' H' (O1 ++ O2) → (∃ σ'', OwE F' H' O1 σ'' e) → Ow F' H' O2 v t → back ts e (QT t) →
        CE outer P w H s (fun v H' => ∃ F' O1 O2 t ts', Bas ⟨H, F, O, tbs⟩ F' H' (O1 ++ O2) ∧ StVO F' H' O1 vs ts' ∧ Ow F' H' O2 v t ∧ QT t ts') u s' := fun {σ' H' F' O1 O2 t e v u} J rv b' ⟨σ'', o'⟩ w' q => by
      obtain ⟨O3, Od, ts', p3, s3, q⟩ := back_ok sv o' q
      refine ⟨v, H', J.os, J.bare, J.base, J.hok, rv, F', O3, O2, t, _, ?_, s3, w', q⟩
      have p4 : (O1 ++ O2).Perm ((O3 ++ O2) ++ Od) := (p3.append_right O2).trans (by
        rw [List.append_assoc, List.append_assoc]
        exact List.perm_append_comm.append_left O3)
      exact (b'.perm p4).left
    cases fl with
    | ret u =>
      obtain ⟨v, σ', H', J, rv, F', O1, O2, σ'', t, e, b', o', w', _, q⟩ := hs
      exact fin J rv b' ⟨σ'', o'⟩ w' q
    | next =>
      obtain ⟨σ', H', J, F', O1, e, b', o', _, q⟩ := hs
      exact fin (v := V.non) (u := Value.none) (t := .va .none) (O2 := []) J rfl (by rw [List.append_nil]; exact b') ⟨_, o'⟩ (.va .non) q
    | brk =>
      obtain ⟨_, _, _, _, _, _, _, _, _, q⟩ := hs
      exact q.elim
    | cont =>
      obtain ⟨_, _, _, _, _, _, _, _, _, q⟩ := hs
      exact q.elim
theorem binds_dflt1 {K : PySem.W.Frag} {fd : FuncData} {ps : List Str} {T : Addr} {oT dv : Value} {dT : Option Addr} {nT : Nat} {sT : Array (Option Value)} (lT : K.lookup T = some ⟨oT, dT, .seq #[dv] nT, sT⟩)
    (h : ∀ us : List Value, us.length = ps.length → ∃ k, bindArgs fd ⟨us, []⟩ = seqItems? (.ref T) >>= k ∧ k (some #[dv]) = pure (ps.zip us)) : L2.Binds K fd ps [] := fun s us X hl => by
  rw [List.append_nil] at hl ⊢
  obtain ⟨k, e1, e2⟩ := h us hl
  exact BindsTo.of_looks fun M => by rw [e1]; exact looks_items X lT rfl (PySem.W.Looks.of_pure e2)
theorem GvL.mono {P : Program} {w : World} {K : PySem.W.Frag} {mg : Str → Option Value} {base : Heap} {Tq : List (Addr × Str)} {j k : Nat} {x a : Str} {tg : Tg} (G : GvL P w K mg base Tq j x a tg) (h : j ≤ k) : GvL P w K mg base Tq k x a tg := by
  obtain ⟨Ng, st, g, fd, Fn, hm, hk, hb, Sg, hNg, hva, hG⟩ := G.ex
  exact ⟨Ng, st, g, fd, Fn, hm, hk, hb, Sg, hNg, hva, fun cdg A outer s H Z lam LB e0 QT hr => hG cdg A outer s H Z lam LB e0 QT (hr.mono h)⟩
end QL

/-! QHd: a law's head by one kernel run; what the end leans on is read off the heap by a Hook of one's own. -/
namespace QL
open PySem PySem.Spec PyProof.Rows L2

/-- one def: where it stands, its names, its text, whether it has one default -/
structure FnQ where
  at_ : PySem.W.Frag → Addr
  name : Str
  qual : Str
  st : Stmt
  dfl : Bool
def FnQ.val (d : FnQ) : He.FnW := some (d.name, d.qual, defArgs d.st, .stmts (defBody d.st), defScope d.st, mainGlobals, [], builtinsNs)
def fnAt (K : PySem.W.Frag) (a : Addr) : He.FnW := match K.lookup a with
  | some ⟨_, _, .func fd, _⟩ => some (fd.name, fd.qualname, fd.params, fd.body, fd.scope, fd.globals, fd.closure, fd.builtins)
  | _ => none
def dflQ (K : PySem.W.Frag) (b : Bool) (v : Value) : Bool := match v with
  | .none => !b
  | .ref T => b && (match K.lookup T with
    | some ⟨_, _, .seq its _, _⟩ => decide (its.size = 1)
    | _ => false)
  | _ => false
def FnQ.ok (K : PySem.W.Frag) (d : FnQ) : Bool := match K.lookup (d.at_ K) with
  | some ⟨_, _, .func fd, _⟩ => PySem.W.codeIn K fd.code d.qual && dflQ K d.dfl fd.defaults
  | _ => false
theorem FnQ.get {K : PySem.W.Frag} {d : FnQ} (e : fnAt K (d.at_ K) = d.val) (c : d.ok K = true) :
    ∃ oc od dV kV doc pm an cd ct sl, K.lookup (d.at_ K) = some ⟨oc, od, .func (PySem.W.fnOf d.name d.qual (defArgs d.st) (defBody d.st) (defScope d.st) dV kV doc pm an cd ct), sl⟩ ∧ PySem.W.codeIn K cd d.qual = true ∧ dflQ K d.dfl dV = true := by
  unfold FnQ.ok at c
  unfold fnAt at e
  cases q : K.lookup (d.at_ K) with
  | none => rw [q] at c; cases c
  | some o =>
    obtain ⟨oc, od, dt, osl⟩ := o
    rw [q] at c e
    cases dt with
    | func fd =>
      obtain ⟨n1, n2, n3, n4, n5, n6, n7, n8, n9, n10, n11, n12, n13, n14, n15⟩ := fd
      have e2 : (some (n1, n2, n3, n4, n5, n6, n7, n15) : He.FnW) = some (d.name, d.qual, defArgs d.st, .stmts (defBody d.st), defScope d.st, mainGlobals, [], builtinsNs) := e
      simp only [Option.some.injEq, Prod.mk.injEq] at e2
      obtain ⟨h1, h2, h3, h4, h5, h6, h7, h8⟩ := e2
      subst h1 h2 h3 h4 h5 h6 h7 h8
      have c3 : (PySem.W.codeIn K n13 d.qual && dflQ K d.dfl n8) = true := c
      obtain ⟨k1, k2⟩ := He.ba c3
      exact ⟨oc, od, n8, n9, n10, n11, n12, n13, n14, osl, rfl, k1, k2⟩
    | _ => cases c
theorem FnQ.get0 {K : PySem.W.Frag} {d : FnQ} (e : fnAt K (d.at_ K) = d.val) (c : d.ok K = true) (hd : d.dfl = false) :
    ∃ oc od kV doc pm an cd ct sl, K.lookup (d.at_ K) = some ⟨oc, od, .func (PySem.W.fnOf d.name d.qual (defArgs d.st) (defBody d.st) (defScope d.st) .none kV doc pm an cd ct), sl⟩ ∧ PySem.W.codeIn K cd d.qual = true := by
  obtain ⟨oc, od, dV, kV, doc, pm, an, cd, ct, sl, h1, h2, h3⟩ := FnQ.get e c
  rw [hd] at h3
  cases dV with
  | none => exact ⟨oc, od, kV, doc, pm, an, cd, ct, sl, h1, h2⟩
  | _ => cases h3
theorem FnQ.get1 {K : PySem.W.Frag} {d : FnQ} (e : fnAt K (d.at_ K) = d.val) (c : d.ok K = true) (hd : d.dfl = true) :
    ∃ oc od kV doc pm an cd ct sl T oT dT dv nT sT, K.lookup (d.at_ K) = some ⟨oc, od, .func (PySem.W.fnOf d.name d.qual (defArgs d.st) (defBody d.st) (defScope d.st) (.ref T) kV doc pm an cd ct), sl⟩ ∧ PySem.W.codeIn K cd d.qual = true ∧ K.lookup T = some ⟨oT, dT, .seq #[dv] nT, sT⟩ := by
  obtain ⟨oc, od, dV, kV, doc, pm, an, cd, ct, sl, h1, h2, h3⟩ := FnQ.get e c
  rw [hd] at h3
  cases dV with
  | ref T =>
    have h4 : (match K.lookup T with
      | some ⟨_, _, .seq its _, _⟩ => decide (its.size = 1)
      | _ => false) = true := h3
    cases q : K.lookup T with
    | none => rw [q] at h4; cases h4
    | some o =>
      obtain ⟨oT, dT, dt, sT⟩ := o
      rw [q] at h4
      cases dt with
      | seq its nT =>
        have h5 : its.size = 1 := of_decide_eq_true h4
        obtain ⟨dv, rfl⟩ : ∃ dv, its = #[dv] := ⟨its[0], by
          obtain ⟨l⟩ := its
          simp at h5
          obtain ⟨x, rfl⟩ := List.length_eq_one_iff.mp h5
          rfl⟩
        exact ⟨oc, od, kV, doc, pm, an, cd, ct, sl, T, oT, dT, dv, nT, sT, h1, h2, q⟩
      | _ => cases h4
  | _ => cases h3
/-- the code object of the function at a -/
def cdAt (K : PySem.W.Frag) (a : Addr) : Addr := match K.lookup a with
  | some ⟨_, _, .func fd, _⟩ => (match fd.code with
    | .ref c => c
    | _ => 0)
  | _ => 0
/-- the record that a property, a classmethod holds -/
def rcAt (K : PySem.W.Frag) (a : Addr) (n : String) : Addr := match PySem.W.recIn K a n with
  | some (.ref f :: _) => f
  | _ => 0
def rcB (K : PySem.W.Frag) (a : Addr) (n : String) : Bool := match PySem.W.recIn K a n with
  | some (.ref _ :: _) => true
  | _ => false
theorem rcB_ok {K : PySem.W.Frag} {a : Addr} {n : String} (h : rcB K a n = true) : ∃ rs, PySem.W.recIn K a n = some (.ref (rcAt K a n) :: rs) := by
  unfold rcB at h
  unfold rcAt
  split at h
  · rename_i f rs e
    exact ⟨rs, by rw [e]⟩
  · cases h
/-- an own exception over ValueError -/
def excQ (K : PySem.W.Frag) (C : Addr) : Bool := match K.lookup C with
  | some ⟨.type "type", _, .cls cd, sl⟩ => (match cd.mro, sl.toList with
    | .ref C' :: bm, [_, _, _, _, some (.builtin n), _] => C' == C && n == "ValueError.__new__" && !cd.hasDel && cd.hasDict && PySem.HandSPX.refsVE bm
    | _, _ => false)
  | _ => false
theorem excQ_of {K : PySem.W.Frag} {C : Addr} (q : excQ K C = true) : ∃ nm qn N bs bm sn sub ab col dd k0 k1 k2 k3 k5,
    K.lookup C = some (excClassObj nm qn C N bs bm true sn sub ab col dd k0 k1 k2 k3 k5 "ValueError.__new__") ∧ PySem.HandSPX.refsVE bm = true := by
  unfold excQ at q
  split at q
  · rename_i dd cd sl ho
    split at q
    · rename_i C' bm k0 k1 k2 k3 n k5 hm hs
      simp only [Bool.and_eq_true, beq_iff_eq, Bool.not_eq_true'] at q
      obtain ⟨⟨⟨⟨rfl, rfl⟩, hdel⟩, hd9⟩, ht⟩ := q
      obtain ⟨nm, bs, mro, ns, qn, hd, sn, sub, ab, col, del⟩ := cd
      dsimp only at hm hdel hd9
      subst hm hdel hd9
      have hsl : sl = #[k0, k1, k2, k3, some (.builtin "ValueError.__new__"), k5] := by
        obtain ⟨l⟩ := sl
        simp only at hs
        rw [hs]
      subst hsl
      exact ⟨nm, qn, ns, bs, bm, sn, sub, ab, col, dd, k0, k1, k2, k3, k5, ho, ht⟩
    · cases q
  · cases q
theorem intQ {K : PySem.W.Frag} {x : Str} {i : Int} (c : (He.Fa.int x i).ok K = true) : ∃ t, PySem.W.nsIn K mainGlobals x = some (some (.int i t)) := by
  have c2 : (match PySem.W.nsIn K mainGlobals x with
    | some (some (.int j _)) => decide (j = i)
    | _ => false) = true := c
  split at c2
  · rename_i j t e
    rw [of_decide_eq_true c2] at e
    exact ⟨t, e⟩
  · cases c2
theorem strQ {K : PySem.W.Frag} {x z : Str} (c : (He.Fa.str x z).ok K = true) : ∃ t, PySem.W.nsIn K mainGlobals x = some (some (.str z t)) := by
  have c2 : (match PySem.W.nsIn K mainGlobals x with
    | some (some (.str y _)) => decide (y = z)
    | _ => false) = true := c
  split at c2
  · rename_i j t e
    rw [of_decide_eq_true c2] at e
    exact ⟨t, e⟩
  · cases c2
theorem exF {xs : List (PySem.W.Frag → Bool)} {K : PySem.W.Frag} (h : xs.all (fun f => f K) = true) (j : Nat) {f : PySem.W.Frag → Bool} (e : xs[j]? = some f) : f K = true := List.all_eq_true.mp h f (List.mem_of_getElem? e)

def cvB (r : Option PySem.W.CFound) (b : String) : Bool := match r with
  | some (.val (.builtin n)) => n == b
  | _ => false
theorem cvB_ok {r : Option PySem.W.CFound} {b : String} (h : cvB r b = true) : r = some (.val (.builtin b)) := by
  unfold cvB at h
  split at h
  · rw [beq_iff_eq.mp h]
  · cases h
def tabsQ (g : Addr → Option Obj) (mk : List (PySem.W.Frag → Addr)) (K : PySem.W.Frag) : Bool := mk.all fun m => PySem.W.codeHdIn K (cdAt K (m K)) (He.tabOf K (cdAt K (m K))) && (match g (He.tabOf K (cdAt K (m K))) with
  | some o => He.emptyTab o
  | none => false)
abbrev AlQ : Type := Bool × List He.FnW
def valQ (fn : List FnQ) : AlQ := (true, fn.map FnQ.val)
structure SaysQ (fn : List FnQ) (xs : List (PySem.W.Frag → Bool)) (mk : List (PySem.W.Frag → Addr)) (h : Heap) (K : PySem.W.Frag) : Prop where
  fns : ∀ (i : Nat) (d : FnQ), fn[i]? = some d → fnAt K (d.at_ K) = d.val ∧ d.ok K = true
  xs : xs.all (fun f => f K) = true
  hd : ∀ m ∈ mk, PySem.W.codeHdIn K (cdAt K (m K)) (He.tabOf K (cdAt K (m K))) = true
  out : ∀ m ∈ mk, K.lookup (He.tabOf K (cdAt K (m K))) = none
  empty : ∀ m ∈ mk, h.get? (He.tabOf K (cdAt K (m K))) = some { cls := .none, data := .fields #[] }
/-- the tables of the defs that make lambdas -/
theorem SaysQ.cs {fn : List FnQ} {xs : List (PySem.W.Frag → Bool)} {mk : List (PySem.W.Frag → Addr)} {h : Heap} {K : PySem.W.Frag} (KX : K.In h) (c : SaysQ fn xs mk h K) (ms : List ((PySem.W.Frag → Addr) × Str)) (hm : ∀ m ∈ ms, m.1 ∈ mk) (hq : ∀ m ∈ ms, m.2 ≠ "()" := by intro m hm; first | (cases hm; done) | (simp only [List.mem_cons, List.not_mem_nil, or_false] at hm; rcases hm with rfl | rfl | rfl | rfl | rfl | rfl | rfl | rfl <;> exact lam_ne _) | (simp only [List.mem_cons, List.not_mem_nil, or_false] at hm; rcases hm with rfl | rfl | rfl <;> exact lam_ne _) | (simp only [List.mem_cons, List.not_mem_nil, or_false] at hm; rcases hm with rfl | rfl <;> exact lam_ne _) | (simp only [List.mem_cons, List.not_mem_nil, or_false] at hm; subst hm; exact lam_ne _)) :
    CsAt K h (ms.map fun m => (cdAt K (m.1 K), He.tabOf K (cdAt K (m.1 K)), m.2)) := by
  refine ⟨fun p hp => ?_, fun p hp => ?_, fun p hp => ?_, fun p hp => ?_⟩ <;> (obtain ⟨m, hm1, rfl⟩ := List.mem_map.mp hp)
  · exact c.empty _ (hm m hm1)
  · exact c.out _ (hm m hm1)
  · exact PySem.W.codeHd_of_K KX (c.hd _ (hm m hm1))
  · exact hq m hm1
end QL

/-! QTDf: a class whose last argument is left to its default, the empty tuple. -/
namespace QL
open PySem PySem.Spec PyProof.Rows L2
/-- the last parameter is the empty tuple at E -/
structure CkD (P : Program) (w : World) (K : PySem.W.Frag) (mg : Str → Option Value) (base : Heap) (Tq : List (Addr × Str)) (k : Nat) (x : Str) (C E : Addr) (ps : List Str) (sp : Spc) : Prop where
  ex : ∃ f fd, FnG P w K mg base Tq k f fd ps sp ∧ Mk K C f ∧ mg x = some (.ref C) ∧ ∀ (s : Shared) (us : List Value), K.In s.heap → us.length + 1 = ps.length → BindsTo s fd ⟨us, []⟩ (ps.zip (us ++ [.ref E]))
theorem CkD.mono {P : Program} {w : World} {K : PySem.W.Frag} {mg : Str → Option Value} {base : Heap} {Tq : List (Addr × Str)} {j k : Nat} {x : Str} {C E : Addr} {ps : List Str} {sp : Spc} (G : CkD P w K mg base Tq j x C E ps sp) (h : j ≤ k) : CkD P w K mg base Tq k x C E ps sp :=
  let ⟨f, fd, g, r⟩ := G.ex; ⟨f, fd, g.mono h, r⟩
theorem stas_app {F : Hp} : ∀ {vs us : List V} {as bs : List A}, StAs F vs as → StAs F us bs → StAs F (vs ++ us) (as ++ bs)
  | _, _, _, _, .nil, h => h
  | _, _, _, _, .cons a r, h => .cons a (stas_app r h)
section
variable {Tq : List (Addr × Str)} {Z : Zb Tq} {X : Cx} {e : Expr} {es : List Expr} {env : Env} {pos p : Pos} {P : R → Env → Prop} {x : Str} {k : Nat} {C E : Addr} {ps : List Str} {sp : Spc}
theorem w_makeDX {ET : Ex → Env → Prop} (hE : (E, ("()" : Str)) ∈ Tq) (G : CkD X.prog X.w X.K X.mg X.base Tq k x C E ps sp) (hr : Room (k + 1) X.A) (hgd : X.A.guards = some []) (tk : Takes X (wxOf Z ET)) (h : WAs Z X (e :: es) env fun as e1 => callN sp C (as ++ [.va (.tuple [])]) e1 (fun t e => P (.t t) e) ET)
    (hg : Gl X x := by rfl) (hdb : (x == ("__debug__" : Str)) = false := by decide) (he : starEach (e :: es) X.env = (false, eval e X.env) :: starEach es X.env := by rfl) (hpl : (backTo pos (starEach es X.env)).any (·.1) = false := by rfl) :
    WE Z X (.Call (.Name x p) (e :: es) [] pos) env P := fun pins s σ H F O I b o => by
  obtain ⟨fI, fd, g, M, hm, hb⟩ := G.ex
  refine wpAny_Call_Name_kw (ld_glob I hg hm ?_ hdb)
  refine PySem.W.callWith_K (h₀ := X.base) I.ok.mod.kin M.kp (thn ((pa_As (Z := Z)).run pos pins s σ H (PostAs Z σ H F O _) I ⟨env, F, O, _, b, o, h, fun _ _ q => q⟩) fun us s1 ⟨vs, H1, I1, r, F1, O1, as, e1, b1, o1, st, fr, q⟩ => ⟨I1.kIn, ?_⟩) he hpl
  have em : StAs F1 [V.ref E] [A.va (.tuple [])] := .cons (show Rp F1 (.ref E) (.tuple []) from .tup (b1.tabs.em _ hE rfl) .nil) .nil
  exact thn (make_gx (us0 := us) (us := us ++ [.ref E]) M g hr hgd tk (fun s' u kin hl => by
    have := hb s' (u :: us) kin (by simpa using hl)
    exact this) I1 b1 o1 (stas_app st em) (r.append (.cons (show RelV (V.ref E) (.ref E) from rfl) .nil)) q) (EP.imp fun v H' q => q.from fr)
theorem w_makeD (hE : (E, ("()" : Str)) ∈ Tq) (G : CkD X.prog X.w X.K X.mg X.base Tq k x C E ps sp) (hr : Room (k + 1) X.A) (hgd : X.A.guards = some []) (h : WAs Z X (e :: es) env fun as e1 => callN sp C (as ++ [.va (.tuple [])]) e1 (fun t e => P (.t t) e) fun _ _ => False)
    (hg : Gl X x := by rfl) (hdb : (x == ("__debug__" : Str)) = false := by decide) (he : starEach (e :: es) X.env = (false, eval e X.env) :: starEach es X.env := by rfl) (hpl : (backTo pos (starEach es X.env)).any (·.1) = false := by rfl) :
    WE Z X (.Call (.Name x p) (e :: es) [] pos) env P := w_makeDX hE G hr hgd takes_no h hg hdb he hpl
end
/-- one default: all arguments but the last are given -/
theorem bindsD_dflt1 {K : PySem.W.Frag} {fd : FuncData} {ps : List Str} {T : Addr} {oT dv : Value} {dT : Option Addr} {nT : Nat} {sT : Array (Option Value)} (lT : K.lookup T = some ⟨oT, dT, .seq #[dv] nT, sT⟩)
    (h : ∀ us : List Value, us.length + 1 = ps.length → ∃ k, bindArgs fd ⟨us, []⟩ = seqItems? (.ref T) >>= k ∧ k (some #[dv]) = pure (ps.zip (us ++ [dv]))) : ∀ (s : Shared) (us : List Value), K.In s.heap → us.length + 1 = ps.length → BindsTo s fd ⟨us, []⟩ (ps.zip (us ++ [dv])) := fun s us X hl => by
  obtain ⟨k, e1, e2⟩ := h us hl
  exact BindsTo.of_looks fun M => by rw [e1]; exact looks_items X lT rfl (PySem.W.Looks.of_pure e2)
/-- what stands as the default of the function at f -/
def dvAt (K : PySem.W.Frag) (f : Addr) : Option Value := match K.lookup f with
  | some ⟨_, _, .func fd, _⟩ => (match fd.defaults with
    | .ref T => (match K.lookup T with
      | some ⟨_, _, .seq its _, _⟩ => its[0]?
      | _ => none)
    | _ => none)
  | _ => none
def eAt (K : PySem.W.Frag) (f : Addr) : Addr := match dvAt K f with
  | some (.ref E) => E
  | _ => 0
def eB (K : PySem.W.Frag) (f : Addr) : Bool := match dvAt K f with
  | some (.ref _) => true
  | _ => false
theorem dv_is {K : PySem.W.Frag} {f T : Addr} {oc oT dv : Value} {od dT : Option Addr} {fd : FuncData} {sl sT : Array (Option Value)} {nT : Nat} (l : K.lookup f = some ⟨oc, od, .func fd, sl⟩) (ed : fd.defaults = .ref T) (lT : K.lookup T = some ⟨oT, dT, .seq #[dv] nT, sT⟩) (h : eB K f = true) : dv = .ref (eAt K f) := by
  have e : dvAt K f = some dv := by
    unfold dvAt
    rw [l]
    show (match fd.defaults with
      | .ref T => (match K.lookup T with
        | some ⟨_, _, .seq its _, _⟩ => its[0]?
        | _ => none)
      | _ => none) = some dv
    rw [ed]
    show (match K.lookup T with
        | some ⟨_, _, .seq its _, _⟩ => its[0]?
        | _ => none) = some dv
    rw [lT]
    rfl
  unfold eB at h
  unfold eAt
  rw [e] at h ⊢
  cases dv <;> first | rfl | cases h
end QL

/-! QHe: the hook where a default argument is the empty tuple: these tuples are left out of what is told. -/
namespace QL
open PySem PySem.Spec PyProof.Rows L2
def emT (o : Obj) : Bool := match o.data with
  | .seq xs _ => o.cls == .type "tuple" && xs.isEmpty
  | _ => false
theorem emT_ok {o : Obj} (h : emT o = true) : o.cls = .type "tuple" ∧ ∃ n, o.data = .seq #[] n := by
  unfold emT at h
  split at h
  · rename_i xs n e
    obtain ⟨h1, h2⟩ := He.ba h
    refine ⟨beq_iff_eq.mp h1, n, ?_⟩
    rw [e, Array.isEmpty_iff.mp h2]
  · cases h
def KQE (n : Nat) (g : Addr → Option Obj) : PySem.W.Frag := (He.frT g (List.range n).reverse).filter fun q => !emT q.2
theorem kqe_mem {n : Nat} {g : Addr → Option Obj} {a : Addr} {o : Obj} (h : (KQE n g).lookup a = some o) : g a = some o ∧ He.emptyTab o = false ∧ emT o = false := by
  obtain ⟨h1, h2⟩ := List.mem_filter.mp (He.lookup_mem h)
  obtain ⟨h3, h4⟩ := List.mem_filter.mp h1
  refine ⟨He.frG_mem h3, ?_, ?_⟩
  · simpa using h4
  · simpa using h2
theorem kqe_in {n : Nat} {h : Heap} : (KQE n h.get?).In h := fun a o e => (kqe_mem e).1
theorem kqe_tab {n : Nat} {g : Addr → Option Obj} {a : Addr} {o : Obj} (q : g a = some o) (z : He.emptyTab o = true) : (KQE n g).lookup a = none := by
  cases e : (KQE n g).lookup a with
  | none => rfl
  | some u =>
    obtain ⟨h1, h2, _⟩ := kqe_mem e
    rw [q] at h1
    cases h1
    rw [z] at h2
    cases h2
theorem kqe_em {n : Nat} {g : Addr → Option Obj} {a : Addr} {o : Obj} (q : g a = some o) (z : emT o = true) : (KQE n g).lookup a = none := by
  cases e : (KQE n g).lookup a with
  | none => rfl
  | some u =>
    obtain ⟨h1, _, h2⟩ := kqe_mem e
    rw [q] at h1
    cases h1
    rw [z] at h2
    cases h2
def emsQ (g : Addr → Option Obj) (es : List (PySem.W.Frag → Addr)) (K : PySem.W.Frag) : Bool := es.all fun e => match g (e K) with
  | some o => emT o
  | none => false
def obsE (fn : List FnQ) (xs : List (PySem.W.Frag → Bool)) (mk es : List (PySem.W.Frag → Addr)) (g : Addr → Option Obj) (K : PySem.W.Frag) : AlQ :=
  ((fn.all fun d => d.ok K) && (xs.all (fun f => f K) && (tabsQ g mk K && emsQ g es K)), fn.map fun d => fnAt K (d.at_ K))
structure SaysE (fn : List FnQ) (xs : List (PySem.W.Frag → Bool)) (mk es : List (PySem.W.Frag → Addr)) (h : Heap) (K : PySem.W.Frag) : Prop where
  q : SaysQ fn xs mk h K
  em : ∀ e ∈ es, EmAt K h [e K]
theorem saysE_of {fn : List FnQ} {xs : List (PySem.W.Frag → Bool)} {mk es : List (PySem.W.Frag → Addr)} {h : Heap} {n : Nat} (e : obsE fn xs mk es h.get? (KQE n h.get?) = valQ fn) : SaysE fn xs mk es h (KQE n h.get?) := by
  have e1 : ((fn.all fun d => d.ok (KQE n h.get?)) && (xs.all (fun f => f (KQE n h.get?)) && (tabsQ h.get? mk (KQE n h.get?) && emsQ h.get? es (KQE n h.get?)))) = true := congrArg (fun z : AlQ => z.1) e
  have e2 : (fn.map fun d => fnAt (KQE n h.get?) (d.at_ (KQE n h.get?))) = fn.map FnQ.val := congrArg (fun z : AlQ => z.2) e
  obtain ⟨h1, h2⟩ := He.ba e1
  obtain ⟨h2, h3⟩ := He.ba h2
  obtain ⟨h3, h9⟩ := He.ba h3
  have key : ∀ m ∈ mk, PySem.W.codeHdIn (KQE n h.get?) (cdAt (KQE n h.get?) (m (KQE n h.get?))) (He.tabOf (KQE n h.get?) (cdAt (KQE n h.get?) (m (KQE n h.get?)))) = true ∧ ∃ o, h.get? (He.tabOf (KQE n h.get?) (cdAt (KQE n h.get?) (m (KQE n h.get?)))) = some o ∧ He.emptyTab o = true := fun m hm => by
    obtain ⟨h4, h5⟩ := He.ba (List.all_eq_true.mp h3 m hm)
    refine ⟨h4, ?_⟩
    cases q : h.get? (He.tabOf (KQE n h.get?) (cdAt (KQE n h.get?) (m (KQE n h.get?)))) with
    | none => rw [q] at h5; cases h5
    | some o => rw [q] at h5; exact ⟨o, rfl, h5⟩
  refine ⟨⟨fun i d hd => ⟨?_, List.all_eq_true.mp h1 d (List.mem_of_getElem? hd)⟩, h2, fun m hm => (key m hm).1, fun m hm => ?_, fun m hm => ?_⟩, fun m hm c hc => ?_⟩
  · have e3 : (fn.map fun d => fnAt (KQE n h.get?) (d.at_ (KQE n h.get?)))[i]? = (fn.map FnQ.val)[i]? := by rw [e2]
    rw [List.getElem?_map, List.getElem?_map, hd] at e3
    exact Option.some.inj e3
  · obtain ⟨_, o, q, z⟩ := key m hm
    exact kqe_tab q z
  · obtain ⟨_, o, q, z⟩ := key m hm
    rw [q, He.emptyTab_eq z]
  · rw [List.mem_singleton.mp hc]
    have h5 := List.all_eq_true.mp h9 m hm
    cases q : h.get? (m (KQE n h.get?)) with
    | none => rw [q] at h5; cases h5
    | some o =>
      rw [q] at h5
      obtain ⟨k1, n1, k2⟩ := emT_ok h5
      exact ⟨kqe_em q h5, o, n1, rfl, k1, k2⟩
def hookE (fn : List FnQ) (xs : List (PySem.W.Frag → Bool)) (mk es : List (PySem.W.Frag → Addr)) : PySem.W.Hook where
  α := AlQ
  obs := fun s => obsE fn xs mk es s.heap.get? (KQE s.heap.objs.size s.heap.get?)
  val := fun _ => valQ fn
  says := fun _ h => ∃ K : PySem.W.Frag, K.In h ∧ SaysE fn xs mk es h K
  of := fun _ _ e => ⟨_, kqe_in, saysE_of e⟩
  keeps := fun _ _ _ ⟨K, hK, c⟩ k => ⟨K, PySem.W.Frag.In.keeps hK k, ⟨⟨c.q.fns, c.q.xs, c.q.hd, c.q.out, fun m hm => k _ _ (c.q.empty m hm)⟩, fun e he b hb => by
    obtain ⟨k1, o, n, k2, k3⟩ := c.em e he b hb
    exact ⟨k1, o, n, k _ _ k2, k3⟩⟩⟩
def obE (fn : List FnQ) (xs : List (PySem.W.Frag → Bool)) (mk es : List (PySem.W.Frag → Addr)) (s : PySem.W.SharedT) : AlQ := obsE fn xs mk es (HandSHeadRun.getT s) (KQE s.n (HandSHeadRun.getT s))
theorem obE_eq (fn : List FnQ) (xs : List (PySem.W.Frag → Bool)) (mk es : List (PySem.W.Frag → Addr)) (s : PySem.W.SharedT) : obE fn xs mk es s = (hookE fn xs mk es).obs s.abs := by
  have e : HandSHeadRun.getT s = s.abs.heap.get? := funext (HandSHeadRun.getT_eq s)
  show obsE fn xs mk es (HandSHeadRun.getT s) (KQE s.n (HandSHeadRun.getT s)) = obsE fn xs mk es s.abs.heap.get? (KQE s.abs.heap.objs.size s.abs.heap.get?)
  rw [e, show s.abs.heap.objs.size = s.n from PySem.W.absHeap_size ..]
/-- the goal that head_any leaves, with empty tuples -/
theorem walk_gF {l : PySem.W.OpenLaw} {n k : Nat} {q : Program} {loose : List Str} {XP : (Str → Option Value) → Heap → Prop} {YP : World → Heap → Prop} {d : DefRec} {sp : PySem.W.Frag → Spc} {x : Str}
    (hn : l.most = some n) (hn2 : n ≤ sizeLine) (hdf : d.params.defaults = []) (hr : Room k callerA)
    (F : ∀ (w : World) (mg : Str → Option Value) (fa : Addr) (h : Heap), YP w h → h.Ns mainGlobals mg → mg d.name = some (.ref fa) →
      ∃ (K : PySem.W.Frag) (cs : Cs) (Es : List Addr) (fd : FuncData), K.In h ∧ CsAt K h cs ∧ EmAt K h Es ∧ (∀ (s : Shared) (u : Value), BindsTo s fd ⟨[u], []⟩ [(x, u)]) ∧ ∀ base : Heap, K.In base → base.Ns mainGlobals mg → (∀ p ∈ cs, LamX.TabB base mg p.1 p.2.1) → FnG l.prog w K mg base (cs.tqE Es) k fa fd [x] (sp K))
    (hsp : ∀ (K : PySem.W.Frag) (a : Addr) (ns : List Int), ns.length ≤ n → sp K [scT K a ns] (fun t _ => t = .va (.bool true)) fun _ _ => False) :
    PySem.W.WalkO q loose XP YP l.row.toRowW d [] (fun f vs => PySem.call f vs) :=
  Att.attach_call hn hdf fun w s₀ s₁ mg mb fa o pm cd doc a vs ns G Y ho hd hcd hmg hobj hints hlen hg => by
    obtain ⟨K, cs, Es, fd, KX, c, hE, hb, hF⟩ := F w mg fa _ Y G.T.g hmg
    exact law_goesE hE c.nq KX G.T.g G.T.b G.T.builtins G.T.nolimit hg c.hT c.nT c.C G.T.bmain hobj hints (Nat.le_trans hlen hn2) hr hF hb (hsp K a ns hlen)
end QL

/-! LM: mathematics of layouts: sums, lines, layouts, least costs, the table. -/
namespace LM
open PySem
def sumsF (a : Int) : List Int → List Int
  | [] => [a]
  | w :: r => a :: sumsF (a + w + 1) r
theorem sumsF_len : ∀ (a : Int) (ws : List Int), (sumsF a ws).length = ws.length + 1
  | _, [] => rfl
  | a, w :: r => congrArg (· + 1) (sumsF_len (a + w + 1) r)
theorem sumsF_snoc : ∀ (a : Int) (ws : List Int) (w : Int), ∃ z, (sumsF a ws).getLast? = some z ∧ sumsF a (ws ++ [w]) = sumsF a ws ++ [z + w + 1]
  | a, [], w => ⟨a, rfl, rfl⟩
  | a, x :: r, w => by
    obtain ⟨z, h1, h2⟩ := sumsF_snoc (a + x + 1) r w
    refine ⟨z, ?_, ?_⟩
    · show (a :: sumsF (a + x + 1) r).getLast? = some z
      rw [List.getLast?_cons, h1]
      rfl
    · show a :: sumsF (a + x + 1) (r ++ [w]) = _
      rw [h2]
      rfl
theorem sumsF_get : ∀ (ws : List Int) (a : Int) (j : Nat), j ≤ ws.length → (sumsF a ws).getD j 0 = a + (ws.take j).sum + j
  | [], a, j, h => by
    have : j = 0 := Nat.le_zero.mp h
    subst this
    simp [sumsF]
  | w :: r, a, 0, _ => by simp [sumsF]
  | w :: r, a, j + 1, h => by
    have ih := sumsF_get r (a + w + 1) j (Nat.le_of_succ_le_succ h)
    show (sumsF (a + w + 1) r).getD j 0 = _
    rw [ih, List.take_succ_cons, List.sum_cons]
    omega
theorem atI_getD {xs : List Int} {i : Nat} (h : i < xs.length) : L2.atI xs (i : Int) = some (xs.getD i 0) := by
  refine L2.atI_nat ?_
  rw [List.getD_eq_getElem?_getD, List.getElem?_eq_getElem h]
  rfl
/-- words of a width -/
structure Wd (wd : Int) (ws : List Int) : Prop where
  w1 : 1 ≤ wd
  w2 : wd ≤ 1000000000
  len : ws.length ≤ 1000
  wrd : ∀ x ∈ ws, 1 ≤ x ∧ x ≤ wd
def sm (ws : List Int) (j : Nat) : Int := (sumsF 0 ws).getD j 0
/-- the length of a line -/
def ln (ws : List Int) (i j : Nat) : Int := sm ws j - sm ws i - 1
def sq (wd : Int) (ws : List Int) (i j : Nat) : Int := (wd - ln ws i j) ^ 2
theorem sm_at (ws : List Int) {j : Nat} (h : j ≤ ws.length) : L2.atI (sumsF 0 ws) (j : Int) = some (sm ws j) := atI_getD (by rw [sumsF_len]; omega)
theorem sm_eq (ws : List Int) {j : Nat} (h : j ≤ ws.length) : sm ws j = (ws.take j).sum + j := by
  unfold sm; rw [sumsF_get ws 0 j h]; omega
theorem sm_succ (ws : List Int) {j : Nat} (h : j < ws.length) : sm ws (j + 1) = sm ws j + ws[j] + 1 := by
  rw [sm_eq ws (by omega), sm_eq ws (by omega), List.take_add_one, List.getElem?_eq_getElem h, List.sum_append]
  simp
  omega
section
variable {wd : Int} {ws : List Int} (W : Wd wd ws)
include W
theorem sm_step {j : Nat} (h : j < ws.length) : sm ws j + 2 ≤ sm ws (j + 1) ∧ sm ws (j + 1) ≤ sm ws j + wd + 1 := by
  have := W.wrd ws[j] (List.getElem_mem h)
  rw [sm_succ ws h]; omega
theorem sm_mono {i j : Nat} (hij : i ≤ j) (h : j ≤ ws.length) : sm ws i + 2 * ((j : Int) - i) ≤ sm ws j ∧ sm ws j ≤ sm ws i + (wd + 1) * ((j : Int) - i) := by
  induction j with
  | zero =>
    have : i = 0 := by omega
    subst this; simp
  | succ j ih =>
    by_cases e : i = j + 1
    · subst e; simp
    · have h1 := ih (by omega) (by omega)
      have h2 := sm_step W (j := j) (by omega)
      have e2 : (wd + 1) * (((j + 1 : Nat) : Int) - i) = (wd + 1) * ((j : Int) - i) + (wd + 1) := by
        have : (((j + 1 : Nat) : Int) - i) = ((j : Int) - i) + 1 := by omega
        rw [this, Int.mul_add]; omega
      rw [e2]
      omega
theorem sm_bd {j : Nat} (h : j ≤ ws.length) : 0 ≤ sm ws j ∧ sm ws j ≤ 1000000001000 := by
  have h1 := sm_mono W (Nat.zero_le j) h
  have h0 : sm ws 0 = 0 := by rw [sm_eq ws (Nat.zero_le _)]; simp
  have h2 := W.len
  have h3 : (wd + 1) * ((j : Int) - (0 : Nat)) ≤ 1000000001 * 1000 := Int.mul_le_mul (by have := W.w2; omega) (by omega) (by omega) (by decide)
  omega
theorem ln_bd {i j : Nat} (hi : i ≤ ws.length) (hj : j ≤ ws.length) : -1000000001001 ≤ ln ws i j ∧ ln ws i j ≤ 1000000001000 := by
  have h1 := sm_bd W hi
  have h2 := sm_bd W hj
  unfold ln; omega
theorem ln_anti {i i' j : Nat} (h : i ≤ i') (h2 : i' ≤ j) (hj : j ≤ ws.length) : ln ws i' j ≤ ln ws i j := by
  have := (sm_mono W h (by omega)).1
  unfold ln; omega
theorem ln_one {j : Nat} (h : j < ws.length) : ln ws j (j + 1) = ws[j] := by
  unfold ln; rw [sm_succ ws h]; omega
theorem ln_fit1 {j : Nat} (h : j < ws.length) : ln ws j (j + 1) ≤ wd := by
  rw [ln_one W h]; exact (W.wrd ws[j] (List.getElem_mem h)).2
theorem sq_bd {i j : Nat} (hi : i ≤ ws.length) (hj : j ≤ ws.length) : 0 ≤ sq wd ws i j ∧ sq wd ws i j ≤ 10000000000000000000000000 := by
  have h1 := ln_bd W hi hj
  have := W.w1; have := W.w2
  unfold sq
  generalize ln ws i j = x at h1
  have h2 : (wd - x).natAbs ≤ 2000000000000 := by omega
  generalize wd - x = y at h2
  have e : y ^ 2 = ((y.natAbs * y.natAbs : Nat) : Int) := by rw [Int.pow_succ, Int.pow_succ, Int.pow_zero, Int.one_mul, Int.natAbs_mul_self]
  rw [e]
  have := Nat.mul_le_mul h2 h2
  omega
end
/-! ### the places at which a line can begin -/
def bgF (wd : Int) (ws : List Int) (e : Nat) : Nat → List Nat
  | 0 => []
  | b + 1 => if ln ws b e ≤ wd then b :: bgF wd ws e b else []
/-- the latest one first -/
def bg (wd : Int) (ws : List Int) (e : Nat) : List Nat := bgF wd ws e e
theorem bgF_mem {wd : Int} {ws : List Int} (W : Wd wd ws) {e : Nat} (he : e ≤ ws.length) : ∀ {m b : Nat}, m ≤ e → (b ∈ bgF wd ws e m ↔ b < m ∧ ln ws b e ≤ wd)
  | 0, b, _ => by simp [bgF]
  | m + 1, b, hm => by
    unfold bgF
    by_cases h : ln ws m e ≤ wd
    · rw [if_pos h, List.mem_cons, bgF_mem W he (by omega : m ≤ e)]
      constructor
      · rintro (rfl | ⟨h1, h2⟩)
        · exact ⟨by omega, h⟩
        · exact ⟨by omega, h2⟩
      · rintro ⟨h1, h2⟩
        by_cases e1 : b = m
        · exact .inl e1
        · exact .inr ⟨by omega, h2⟩
    · rw [if_neg h]
      constructor
      · intro z; cases z
      · rintro ⟨h1, h2⟩
        have := ln_anti W (i := b) (i' := m) (j := e) (by omega) (by omega) he
        omega
theorem bg_mem {wd : Int} {ws : List Int} (W : Wd wd ws) {e b : Nat} (he : e ≤ ws.length) : b ∈ bg wd ws e ↔ b < e ∧ ln ws b e ≤ wd := bgF_mem W he (Nat.le_refl e)
theorem bg_ne {wd : Int} {ws : List Int} (W : Wd wd ws) {e : Nat} (h0 : 0 < e) (he : e ≤ ws.length) : bg wd ws e ≠ [] := by
  obtain ⟨e, rfl⟩ : ∃ e', e = e' + 1 := ⟨e - 1, by omega⟩
  have : e ∈ bg wd ws (e + 1) := (bg_mem W he).mpr ⟨by omega, ln_fit1 W (by omega)⟩
  exact List.ne_nil_of_mem this
theorem bg_len {wd : Int} {ws : List Int} {e : Nat} : (bg wd ws e).length ≤ e := by
  have key : ∀ m, (bgF wd ws e m).length ≤ m := fun m => by
    induction m with
    | zero => exact Nat.le_refl _
    | succ m ih => unfold bgF; split <;> simp <;> omega
  exact key e
/-! ### the least of pairs -/
def minP (a : Int × Int) (xs : List (Int × Int)) : Int × Int := xs.foldl (fun a y => if y.1 < a.1 ∨ (y.1 = a.1 ∧ y.2 < a.2) then y else a) a
def pD (p : Int × Int) : PyData := .tuple [.int p.1, .int p.2]
theorem minD_pairs (xs : List (Int × Int)) : ∀ a, W.minD (pD a) (xs.map pD) = pD (minP a xs) := by
  unfold W.minD minP
  induction xs with
  | nil => intro a; rfl
  | cons x xs ih =>
    intro a
    rw [List.map_cons, List.foldl_cons, List.foldl_cons]
    have e : W.dataLt (pD x) (pD a) = decide (x.1 < a.1 ∨ (x.1 = a.1 ∧ x.2 < a.2)) := W.dataLt_ii _ _ _ _
    rw [e]
    by_cases h : x.1 < a.1 ∨ (x.1 = a.1 ∧ x.2 < a.2)
    · rw [if_pos (decide_eq_true h), if_pos h]; exact ih x
    · rw [if_neg (by simpa using h), if_neg h]; exact ih a
theorem minP_spec (xs : List (Int × Int)) : ∀ a, minP a xs ∈ a :: xs ∧ ∀ y ∈ a :: xs, (minP a xs).1 < y.1 ∨ ((minP a xs).1 = y.1 ∧ (minP a xs).2 ≤ y.2) := by
  induction xs with
  | nil => intro a; exact ⟨List.mem_cons_self, fun y hy => by rw [List.mem_singleton.mp hy]; exact .inr ⟨rfl, Int.le_refl _⟩⟩
  | cons x xs ih =>
    intro a
    have e : minP a (x :: xs) = minP (if x.1 < a.1 ∨ (x.1 = a.1 ∧ x.2 < a.2) then x else a) xs := rfl
    rw [e]
    by_cases h : x.1 < a.1 ∨ (x.1 = a.1 ∧ x.2 < a.2)
    · rw [if_pos h]
      obtain ⟨h1, h2⟩ := ih x
      refine ⟨List.mem_cons_of_mem _ h1, fun y hy => ?_⟩
      rcases List.mem_cons.mp hy with rfl | hy
      · have := h2 x List.mem_cons_self
        omega
      · exact h2 y hy
    · rw [if_neg h]
      obtain ⟨h1, h2⟩ := ih a
      refine ⟨?_, fun y hy => ?_⟩
      · rcases List.mem_cons.mp h1 with e | e
        · rw [e]; exact List.mem_cons_self
        · exact List.mem_cons_of_mem _ (List.mem_cons_of_mem _ e)
      · rcases List.mem_cons.mp hy with rfl | hy
        · exact h2 y List.mem_cons_self
        · rcases List.mem_cons.mp hy with rfl | hy
          · have := h2 a List.mem_cons_self
            omega
          · exact h2 y (List.mem_cons_of_mem _ hy)
def minL : List (Int × Int) → Int × Int
  | [] => (0, 0)
  | a :: xs => minP a xs
/-- the least, of equal ones the latest place: costs f at the places bs -/
def best (f : Nat → Int) (bs : List Nat) : Int × Int := minL (bs.map fun b => (f b, -(b : Int)))
theorem best_spec (f : Nat → Int) {bs : List Nat} (h : bs ≠ []) : ∃ b ∈ bs, best f bs = (f b, -(b : Int)) ∧ ∀ c ∈ bs, f b < f c ∨ (f b = f c ∧ c ≤ b) := by
  cases bs with
  | nil => exact absurd rfl h
  | cons a bs =>
    obtain ⟨h1, h2⟩ := minP_spec (bs.map fun b => (f b, -(b : Int))) (f a, -(a : Int))
    have e : best f (a :: bs) = minP (f a, -(a : Int)) (bs.map fun b => (f b, -(b : Int))) := rfl
    rw [← e] at h1 h2
    have m : best f (a :: bs) ∈ (a :: bs).map fun b => (f b, -(b : Int)) := h1
    obtain ⟨b, hb, eb⟩ := List.mem_map.mp m
    refine ⟨b, hb, eb.symm, fun c hc => ?_⟩
    have := h2 (f c, -(c : Int)) (by have : (f c, -(c : Int)) ∈ (a :: bs).map fun b => (f b, -(b : Int)) := List.mem_map.mpr ⟨c, hc, rfl⟩; exact this)
    rw [← eb] at this
    simp only at this
    omega
/-! ### the table -/
/-- costs and befores of the ends up to n -/
def tab (wd : Int) (ws : List Int) : Nat → List (Int × Nat)
  | 0 => [(0, 0)]
  | n + 1 =>
    let t := tab wd ws n
    let p := best (fun b => (t.getD b (0, 0)).1 + sq wd ws b (n + 1)) (bg wd ws (n + 1))
    t ++ [(p.1, (-p.2).toNat)]
theorem tab_len (wd : Int) (ws : List Int) : ∀ n, (tab wd ws n).length = n + 1
  | 0 => rfl
  | n + 1 => by unfold tab; simp [tab_len wd ws n]
theorem tab_pre (wd : Int) (ws : List Int) {m n : Nat} (h : m ≤ n) : (tab wd ws n).take (m + 1) = tab wd ws m := by
  induction n with
  | zero =>
    have : m = 0 := by omega
    subst this; rfl
  | succ n ih =>
    by_cases e : m = n + 1
    · subst e
      rw [List.take_of_length_le]; rw [tab_len]; omega
    · show List.take (m + 1) (tab wd ws n ++ _) = _
      rw [List.take_append_of_le_length (by rw [tab_len]; omega)]
      exact ih (by omega)
/-- the least full cost up to an end; where its last line begins -/
def C (wd : Int) (ws : List Int) (e : Nat) : Int := ((tab wd ws e).getD e (0, 0)).1
def B (wd : Int) (ws : List Int) (e : Nat) : Nat := ((tab wd ws e).getD e (0, 0)).2
theorem tab_get {wd : Int} {ws : List Int} {m n : Nat} (h : m ≤ n) : (tab wd ws n).getD m (0, 0) = (C wd ws m, B wd ws m) := by
  have e := tab_pre wd ws h
  have : (tab wd ws n).getD m (0, 0) = (tab wd ws m).getD m (0, 0) := by
    rw [← e, List.getD_eq_getElem?_getD, List.getD_eq_getElem?_getD, List.getElem?_take]
    simp
  rw [this]
  rfl
theorem C0 (wd : Int) (ws : List Int) : C wd ws 0 = 0 := rfl
theorem B0 (wd : Int) (ws : List Int) : B wd ws 0 = 0 := rfl
theorem CB_succ (wd : Int) (ws : List Int) (n : Nat) : best (fun b => C wd ws b + sq wd ws b (n + 1)) (bg wd ws (n + 1)) = best (fun b => ((tab wd ws n).getD b (0, 0)).1 + sq wd ws b (n + 1)) (bg wd ws (n + 1)) := by
  unfold best
  congr 1
  apply List.map_congr_left
  intro b hb
  have : b ≤ n := by
    have key : ∀ m, m ≤ n + 1 → b ∈ bgF wd ws (n + 1) m → b < m := fun m => by
      induction m with
      | zero => intro _ z; cases z
      | succ m ih =>
        intro hm z
        unfold bgF at z
        split at z
        · rcases List.mem_cons.mp z with rfl | z
          · omega
          · have := ih (by omega) z; omega
        · cases z
    have := key (n + 1) (Nat.le_refl _) hb
    omega
  show (C wd ws b + sq wd ws b (n + 1), -(b : Int)) = (((tab wd ws n).getD b (0, 0)).1 + sq wd ws b (n + 1), -(b : Int))
  rw [tab_get this]
theorem CB_at {wd : Int} {ws : List Int} (W : Wd wd ws) {e : Nat} (h0 : 0 < e) (he : e ≤ ws.length) : B wd ws e < e ∧ ln ws (B wd ws e) e ≤ wd ∧ C wd ws e = C wd ws (B wd ws e) + sq wd ws (B wd ws e) e ∧
    best (fun b => C wd ws b + sq wd ws b e) (bg wd ws e) = (C wd ws e, -(B wd ws e : Int)) ∧ ∀ b, b < e → ln ws b e ≤ wd → C wd ws e < C wd ws b + sq wd ws b e ∨ (C wd ws e = C wd ws b + sq wd ws b e ∧ b ≤ B wd ws e) := by
  obtain ⟨n, rfl⟩ : ∃ n, e = n + 1 := ⟨e - 1, by omega⟩
  obtain ⟨b, hb, eb, hm⟩ := best_spec (fun b => C wd ws b + sq wd ws b (n + 1)) (bg_ne W h0 he)
  have eg : (tab wd ws (n + 1)).getD (n + 1) (0, 0) = ((C wd ws b + sq wd ws b (n + 1)), b) := by
    show (tab wd ws n ++ [((best (fun b => ((tab wd ws n).getD b (0, 0)).1 + sq wd ws b (n + 1)) (bg wd ws (n + 1))).1, (-(best (fun b => ((tab wd ws n).getD b (0, 0)).1 + sq wd ws b (n + 1)) (bg wd ws (n + 1))).2).toNat)]).getD (n + 1) (0, 0) = _
    rw [← CB_succ, eb]
    simp only
    rw [List.getD_eq_getElem?_getD, List.getElem?_append_right (by rw [tab_len]; omega), tab_len]
    simp
  have eC : C wd ws (n + 1) = C wd ws b + sq wd ws b (n + 1) := by unfold C; rw [eg]; rfl
  have eB : B wd ws (n + 1) = b := by unfold B; rw [eg]
  have hb2 := (bg_mem W he).mp hb
  rw [eB, eC]
  refine ⟨hb2.1, hb2.2, rfl, eb, fun c hc hl => ?_⟩
  exact hm c ((bg_mem W he).mpr ⟨hc, hl⟩)
theorem C_bd {wd : Int} {ws : List Int} (W : Wd wd ws) : ∀ e, e ≤ ws.length → 0 ≤ C wd ws e ∧ C wd ws e ≤ 10000000000000000000000000 * e := by
  intro e
  induction e using Nat.strongRecOn with
  | _ e ih =>
    intro he
    by_cases h0 : e = 0
    · subst h0; rw [C0]; simp
    · obtain ⟨h1, h2, h3, _, _⟩ := CB_at W (by omega : 0 < e) he
      have i := ih _ h1 (by omega)
      have s := sq_bd W (i := B wd ws e) (j := e) (by omega) he
      rw [h3]
      omega
/-! ### ways -/
def wayN (B : Nat → Nat) : Nat → Nat → List Nat
  | 0, _ => []
  | k + 1, e => if e = 0 then [] else wayN B k (B e) ++ [e]
/-- the ends up to a place -/
def way (wd : Int) (ws : List Int) (e : Nat) : List Nat := wayN (B wd ws) e e
theorem wayN_one {f : Nat → Nat} {n : Nat} (hf : ∀ e, 0 < e → e ≤ n → f e < e) : ∀ k e, e ≤ k → e ≤ n → wayN f (k + 1) e = wayN f k e
  | 0, e, he, _ => by
    have : e = 0 := by omega
    subst this; rfl
  | k + 1, e, he, hn => by
    by_cases h0 : e = 0
    · subst h0; rfl
    · have := hf e (by omega) hn
      show (if e = 0 then [] else wayN f (k + 1) (f e) ++ [e]) = (if e = 0 then [] else wayN f k (f e) ++ [e])
      rw [if_neg h0, if_neg h0, wayN_one hf k (f e) (by omega) (by omega)]
theorem wayN_more {f : Nat → Nat} {n : Nat} (hf : ∀ e, 0 < e → e ≤ n → f e < e) (d e : Nat) (hn : e ≤ n) : wayN f (e + d) e = wayN f e e := by
  induction d with
  | zero => rfl
  | succ d ih =>
    have := wayN_one hf (e + d) e (by omega) hn
    rw [← ih, ← this]
    rfl
theorem way0 (wd : Int) (ws : List Int) : way wd ws 0 = [] := rfl
theorem way_step {wd : Int} {ws : List Int} (W : Wd wd ws) {e : Nat} (h0 : 0 < e) (he : e ≤ ws.length) : way wd ws e = way wd ws (B wd ws e) ++ [e] := by
  obtain ⟨m, rfl⟩ : ∃ m, e = m + 1 := ⟨e - 1, by omega⟩
  have hf : ∀ e, 0 < e → e ≤ ws.length → B wd ws e < e := fun e h1 h2 => (CB_at W h1 h2).1
  have := hf (m + 1) h0 he
  show (if m + 1 = 0 then [] else wayN (B wd ws) m (B wd ws (m + 1)) ++ [m + 1]) = _
  rw [if_neg (by omega)]
  show _ = wayN (B wd ws) (B wd ws (m + 1)) (B wd ws (m + 1)) ++ [m + 1]
  have e1 := wayN_more hf (m - B wd ws (m + 1)) (B wd ws (m + 1)) (by omega)
  have e2 : B wd ws (m + 1) + (m - B wd ws (m + 1)) = m := by omega
  rw [e2] at e1
  rw [e1]
end LM

/-! LN: layouts and which are best. -/
namespace LM
open PySem
def prsN (ns : List Nat) : List (Nat × Nat) := (0 :: ns.dropLast).zip ns
theorem prsN_snoc (ns : List Nat) (h : Nat) : prsN (ns ++ [h]) = prsN ns ++ [(ns.getLastD 0, h)] := by
  unfold prsN
  rw [List.dropLast_concat]
  rcases List.eq_nil_or_concat ns with e | ⟨ms, l, e⟩
  · subst e; rfl
  · rw [List.concat_eq_append] at e
    subst e
    rw [List.dropLast_concat]
    have e1 : (0 :: (ms ++ [l])) = (0 :: ms) ++ [l] := rfl
    rw [e1, List.zip_append (by simp)]
    simp
def sqsN (wd : Int) (ws : List Int) (ns : List Nat) : List Int := (prsN ns).map fun p => sq wd ws p.1 p.2
theorem sqsN_snoc (wd : Int) (ws : List Int) (ns : List Nat) (h : Nat) : sqsN wd ws (ns ++ [h]) = sqsN wd ws ns ++ [sq wd ws (ns.getLastD 0) h] := by
  unfold sqsN; rw [prsN_snoc, List.map_append]; rfl
def fc (wd : Int) (ws : List Int) (ns : List Nat) : Int := (sqsN wd ws ns).sum
def cost (wd : Int) (ws : List Int) (ns : List Nat) : Int := (sqsN wd ws ns).dropLast.sum
theorem fc_snoc (wd : Int) (ws : List Int) (ns : List Nat) (h : Nat) : fc wd ws (ns ++ [h]) = fc wd ws ns + sq wd ws (ns.getLastD 0) h := by
  unfold fc; rw [sqsN_snoc, List.sum_append]; simp
theorem cost_snoc (wd : Int) (ws : List Int) (ns : List Nat) (h : Nat) : cost wd ws (ns ++ [h]) = fc wd ws ns := by
  unfold cost fc; rw [sqsN_snoc, List.dropLast_concat]
/-- the layouts of the first words; their ends -/
inductive Lay (wd : Int) (ws : List Int) : List Nat → Nat → Prop
  | nil : Lay wd ws [] 0
  | snoc {ns : List Nat} {l h : Nat} : Lay wd ws ns l → l < h → ln ws l h ≤ wd → Lay wd ws (ns ++ [h]) h
theorem Lay.last {wd : Int} {ws : List Int} {ns : List Nat} {l : Nat} (c : Lay wd ws ns l) : ns.getLastD 0 = l := by
  cases c with
  | nil => rfl
  | snoc _ _ _ => simp
theorem Lay.inv {wd : Int} {ws : List Int} {ns : List Nat} {h e : Nat} (c : Lay wd ws (ns ++ [h]) e) : e = h ∧ ∃ l, Lay wd ws ns l ∧ l < h ∧ ln ws l h ≤ wd := by
  generalize hm : ns ++ [h] = ms at c
  cases c with
  | nil => simp at hm
  | snoc c1 h1 h2 =>
    obtain ⟨e1, e2⟩ := List.append_inj' hm rfl
    cases e2
    subst e1
    exact ⟨rfl, _, c1, h1, h2⟩
theorem Lay.ne {wd : Int} {ws : List Int} {ns : List Nat} {e : Nat} (c : Lay wd ws ns e) (h : 0 < e) : ∃ ms l, ns = ms ++ [e] ∧ Lay wd ws ms l ∧ l < e ∧ ln ws l e ≤ wd := by
  cases c with
  | nil => exact absurd h (Nat.lt_irrefl 0)
  | snoc c1 h1 h2 => exact ⟨_, _, rfl, c1, h1, h2⟩
theorem Lay.zero {wd : Int} {ws : List Int} {ns : List Nat} (c : Lay wd ws ns 0) : ns = [] := by
  cases c with
  | nil => rfl
  | snoc c1 h1 h2 => exact absurd h1 (Nat.not_lt_zero _)
theorem Lay.len {wd : Int} {ws : List Int} {ns : List Nat} {l : Nat} (c : Lay wd ws ns l) : ns.length ≤ l := by
  induction c with
  | nil => exact Nat.le_refl _
  | snoc _ h _ ih => rw [List.length_append, List.length_singleton]; omega
theorem Lay.mem {wd : Int} {ws : List Int} {ns : List Nat} {l : Nat} (c : Lay wd ws ns l) : ∀ x ∈ ns, 1 ≤ x ∧ x ≤ l := by
  induction c with
  | nil => intro x hx; cases hx
  | snoc _ h _ ih =>
    intro x hx
    rcases List.mem_append.mp hx with z | z
    · have := ih x z; omega
    · rw [List.mem_singleton.mp z]; omega
theorem Lay.prs {wd : Int} {ws : List Int} {ns : List Nat} {l : Nat} (c : Lay wd ws ns l) : ∀ p ∈ prsN ns, p.1 < p.2 ∧ p.2 ≤ l ∧ ln ws p.1 p.2 ≤ wd := by
  induction c with
  | nil => intro p hp; cases hp
  | @snoc ns l h c hl hf ih =>
    intro p hp
    rw [prsN_snoc] at hp
    rcases List.mem_append.mp hp with z | z
    · have := ih p z; omega
    · rw [List.mem_singleton.mp z, c.last]; exact ⟨hl, Nat.le_refl _, hf⟩
/-- later: the reversed ends as a tuple -/
def rv (ns : List Nat) : List Int := ns.reverse.map fun (n : Nat) => (n : Int)
section
variable {wd : Int} {ws : List Int} (W : Wd wd ws)
include W
theorem way_lay : ∀ e, e ≤ ws.length → Lay wd ws (way wd ws e) e ∧ fc wd ws (way wd ws e) = C wd ws e := by
  intro e
  induction e using Nat.strongRecOn with
  | _ e ih =>
    intro he
    by_cases h0 : e = 0
    · subst h0; exact ⟨.nil, rfl⟩
    · obtain ⟨h1, h2, h3, _, _⟩ := CB_at W (by omega : 0 < e) he
      obtain ⟨i1, i2⟩ := ih _ h1 (by omega)
      rw [way_step W (by omega) he]
      exact ⟨.snoc i1 h1 h2, by rw [fc_snoc, i1.last, i2, h3]⟩
end
/-! ### the best layout -/
def LS (wd : Int) (ws : List Int) : Nat := if ws.length = 0 then 0 else (-(best (C wd ws) (bg wd ws ws.length)).2).toNat
def bestLay (wd : Int) (ws : List Int) : List Nat := if ws.length = 0 then [] else way wd ws (LS wd ws) ++ [ws.length]
section
variable {wd : Int} {ws : List Int} (W : Wd wd ws)
include W
theorem LS_at (h0 : 0 < ws.length) : LS wd ws < ws.length ∧ ln ws (LS wd ws) ws.length ≤ wd ∧ best (C wd ws) (bg wd ws ws.length) = (C wd ws (LS wd ws), -(LS wd ws : Int)) ∧ ∀ b, b < ws.length → ln ws b ws.length ≤ wd → C wd ws (LS wd ws) < C wd ws b ∨ (C wd ws (LS wd ws) = C wd ws b ∧ b ≤ LS wd ws) := by
  obtain ⟨b, hb, eb, hm⟩ := best_spec (C wd ws) (bg_ne W h0 (Nat.le_refl _))
  have e : LS wd ws = b := by unfold LS; rw [if_neg (by omega), eb]; simp
  have hb2 := (bg_mem W (Nat.le_refl _)).mp hb
  rw [e]
  exact ⟨hb2.1, hb2.2, eb, fun c h1 h2 => hm c ((bg_mem W (Nat.le_refl _)).mpr ⟨h1, h2⟩)⟩
theorem LS_le : LS wd ws ≤ ws.length := by
  by_cases h : ws.length = 0
  · unfold LS; rw [if_pos h]; omega
  · have := (LS_at W (by omega)).1; omega
theorem best_lay : Lay wd ws (bestLay wd ws) ws.length ∧ cost wd ws (bestLay wd ws) = C wd ws (LS wd ws) := by
  by_cases h : ws.length = 0
  · unfold bestLay LS
    rw [if_pos h, if_pos h, h]
    exact ⟨.nil, rfl⟩
  · obtain ⟨h1, h2, h3, h4⟩ := LS_at W (by omega)
    obtain ⟨i1, i2⟩ := way_lay W (LS wd ws) (by omega)
    unfold bestLay
    rw [if_neg h]
    exact ⟨.snoc i1 h1 h2, by rw [cost_snoc, i2]⟩
end
abbrev nDs (ns : List Nat) : List PyData := ns.map fun (n : Nat) => PyData.int (n : Int)
end LM

namespace K92
open PySem PySem.Spec PyProof.Rows L2 QL
def topS (i : Nat) : Stmt := PySem.Challenge.pw_settledlines_k92_whole_edited_as_new.main.body.getD i (.Pass ⟨0, 0, 0, 0⟩)
open LM
/-- what is known of the class -/
structure Txt_Table (K : PySem.W.Frag) (a : Addr) : Prop where
  cl : Cls K a
  n_wide : NoAttr K a "wide"
  n_sums : NoAttr K a "sums"
  n_costs : NoAttr K a "costs"
  n_befores : NoAttr K a "befores"
def spSums : Spc := fun ts QT _ => ∃ ws : List Int, ts = [.va (.tuple (iDs ws))] ∧ ws.length ≤ 1000 ∧ QT (.va (.tuple (iDs (sumsF 0 ws)))) [none]
def spLenBy : Spc := fun ts QT _ => ∃ (ws : List Int) (i j : Nat), ts = [.va (.tuple (iDs (sumsF 0 ws))), .va (.int i), .va (.int j)] ∧ i ≤ ws.length ∧ j ≤ ws.length ∧ QT (.va (.int (ln ws i j))) [none, none, none]
section
variable {P : Program} {w : World} {K : PySem.W.Frag} {mg : Str → Option Value} {base : Heap} {Tq : List (Addr × Str)}
abbrev N_sums_of : List Str := ["text", "found", "word"]
theorem sc_sums_of : FnScope N_sums_of ["text"] (defScope (topS 16)) := ⟨rfl, rfl, rfl, by decide +kernel, rfl, by decide +kernel, by decide +kernel⟩
theorem g_sums_of {f : Addr} {fd : FuncData} {k : Nat} (Fn : Fun K "sums_of" "sums_of" (topS 16) f fd) (m_tuple : mg "tuple" = none) : FnG P w K mg base Tq (k + 1) f fd ["text"] spSums := by
  refine fn_g Fn sc_sums_of (fun ts Q E h => ?_) fun cdv A outer s H E Z ts QT ET hr hgd hp tk h => ?_
  · obtain ⟨ws, rfl, hl, q⟩ := h; rfl
  · obtain ⟨ws, rfl, hl, q⟩ := h
    -- line 45
    refine wss_cons (ws_set 1 (w_lst ⟨rfl, (w_int ⟨(by first | decide | (simp only [List.length_append, List.length_map, List.length_cons, List.length_nil, List.length_singleton, List.length_replicate, List.length_range, List.length_take, List.length_drop, List.length_dropLast, List.length_reverse, Bool.false_eq_true, eq_self, reduceIte, sizeLine_eq]; omega)), fun p1 => ⟨Nat.lt_of_sub_eq_succ rfl, ?_⟩⟩)⟩) sc_sums_of.nd)
    -- line 46
    refine wss_cons (ws_for hp rfl (pg_name (i := 2) sc_sums_of.nd rfl (by first | exact Or.inl rfl | exact Or.inr rfl)) (gok_name 2) (wi_tup (w_var 0 ?_)))
    refine ⟨fun k e => ∃ y, e = [some (.va (.tuple (iDs ws))), some (.lst p1 (iDs (sumsF 0 (ws.take k)))), y], ⟨none, rfl⟩, ?_, ?_⟩
    · rintro k d e hd ⟨y, rfl⟩
      rw [List.getElem?_map, Option.map_eq_some_iff] at hd
      obtain ⟨x, hx, rfl⟩ := hd
      obtain ⟨z, hz, hs⟩ := sumsF_snoc 0 (ws.take k) x
      have hk : k < ws.length := (List.getElem?_eq_some_iff.mp hx).1
      have ht : ws.take (k + 1) = ws.take k ++ [x] := by rw [List.take_add_one, hx]; rfl
      have hla : atI (iDs (sumsF 0 (ws.take k))) (-1) = some (.int z) := by
        refine atI_last' ?_
        rw [List.getLast?_map, hz]
        rfl
      have hlen : (sumsF 0 (ws.take k)).length ≤ 1001 := by rw [sumsF_len, List.length_take]; omega
      refine ⟨Nat.lt_of_sub_eq_succ rfl, ?_⟩
      -- line 47
      refine wss_one (ws_expr (w_append (w_var 1 ⟨_, _, _, _, rfl, rfl, (w_bin dop_add (w_bin dop_add (w_ix (w_var 1 (w_neg (w_int ⟨rfl, ⟨rfl, rfl, _, hla, (w_var 2 ⟨rfl, rfl, (w_int ⟨rfl, rfl, ⟨_, _, rfl, rfl, (by simp only [List.length_append, List.length_map, List.length_cons, List.length_nil, List.length_singleton, List.length_replicate, List.length_range, List.length_take, List.length_drop, List.length_dropLast, List.length_reverse, Bool.false_eq_true, eq_self, reduceIte, sizeLine_eq]; omega), ?_⟩⟩)⟩)⟩⟩))))))⟩)))
      refine ⟨some (.va (.int x)), ?_⟩
      rw [ht, hs]
      show [_, some (T.lst p1 (iDs (sumsF 0 (ws.take k)) ++ [PyData.int (z + x + 1)])), _] = _
      rw [← List.map_singleton, ← List.map_append]
    · rintro e ⟨y, rfl⟩
      -- line 48
      refine wss_one (ws_ret (w_callTy dc_tuple m_tuple rfl ⟨rfl, (w_var 1 ⟨rfl, ?_⟩)⟩))
      show QT (.va (.tuple (iDs (sumsF 0 (ws.take (iDs ws).length))))) [none]
      rw [List.length_map, List.take_length]
      exact q
abbrev N_length_by : List Str := ["sums", "begin", "end"]
theorem sc_length_by : FnScope N_length_by ["sums", "begin", "end"] (defScope (topS 17)) := ⟨rfl, rfl, rfl, by decide +kernel, rfl, by decide +kernel, by decide +kernel⟩
theorem g_length_by {f : Addr} {fd : FuncData} {k : Nat} (Fn : Fun K "length_by" "length_by" (topS 17) f fd) : FnG P w K mg base Tq (k + 1) f fd ["sums", "begin", "end"] spLenBy := by
  refine fn_g Fn sc_length_by (fun ts Q E h => ?_) fun cdv A outer s H E Z ts QT ET hr hgd hp tk h => ?_
  · obtain ⟨ws, i, j, rfl, hi, hj, q⟩ := h; rfl
  · obtain ⟨ws, i, j, rfl, hi, hj, q⟩ := h
    -- line 50
    refine wss_one (ws_ret (w_bin dop_sub (w_bin dop_sub (w_ix (w_var 0 (w_var 2 ⟨rfl, rfl, _, (atI_map _ (sm_at ws hj)), (w_ix (w_var 0 (w_var 1 ⟨rfl, rfl, _, (atI_map _ (sm_at ws hi)), ⟨rfl, rfl, (w_int ⟨rfl, rfl, ?_⟩)⟩⟩)))⟩))))))
    exact q
end
/-- a table whose rows up to m stand -/
def csL (wd : Int) (ws : List Int) (m : Nat) : List Int := (List.range (m + 1)).map (C wd ws)
def bsL (wd : Int) (ws : List Int) (m : Nat) : List Nat := (List.range (m + 1)).map (B wd ws)
abbrev tabF (wd : Int) (ws : List Int) (m : Nat) (pc pb : Addr) : List (Str × T) := [("wide", .va (.int wd)), ("sums", .va (.tuple (iDs (sumsF 0 ws)))), ("costs", .lst pc (iDs (csL wd ws m))), ("befores", .lst pb (nDs (bsL wd ws m)))]
def spInit (aC : Addr) : Spc := fun ts QT _ => ∃ (a : Addr) (wd : Int) (ws : List Int), ts = [.ins a aC [], .va (.int wd), .va (.tuple (iDs ws))] ∧ Wd wd ws ∧ ∀ pc pb, QT (.va .none) [some (.ins a aC (tabF wd ws ws.length pc pb)), none, none]
def spBegins (aC : Addr) : Spc := fun ts QT _ => ∃ (a : Addr) (wd : Int) (ws : List Int) (m : Nat) (pc pb : Addr) (e : Nat), ts = [.ins a aC (tabF wd ws m pc pb), .va (.int e)] ∧ Wd wd ws ∧ e ≤ ws.length ∧ ∀ p, QT (.lst p (nDs (bg wd ws e))) [some (.ins a aC (tabF wd ws m pc pb)), none]
def spSquare (aC : Addr) : Spc := fun ts QT _ => ∃ (a : Addr) (wd : Int) (ws : List Int) (m : Nat) (pc pb : Addr) (b e : Nat), ts = [.ins a aC (tabF wd ws m pc pb), .va (.int b), .va (.int e)] ∧ Wd wd ws ∧ b ≤ ws.length ∧ e ≤ ws.length ∧ QT (.va (.int (sq wd ws b e))) [some (.ins a aC (tabF wd ws m pc pb)), none, none]
def spWay (aC : Addr) : Spc := fun ts QT _ => ∃ (a : Addr) (wd : Int) (ws : List Int) (pc pb : Addr) (e : Nat), ts = [.ins a aC (tabF wd ws ws.length pc pb), .va (.int e)] ∧ Wd wd ws ∧ e ≤ ws.length ∧ QT (.va (.tuple (nDs (way wd ws e)))) [some (.ins a aC (tabF wd ws ws.length pc pb)), none]
def spLast (aC : Addr) : Spc := fun ts QT _ => ∃ (a : Addr) (wd : Int) (ws : List Int) (pc pb : Addr), ts = [.ins a aC (tabF wd ws ws.length pc pb)] ∧ Wd wd ws ∧ QT (.va (.int (LS wd ws))) [some (.ins a aC (tabF wd ws ws.length pc pb))]
theorem min_pairs {f : Nat → Int} {bs : List Nat} (h : bs ≠ []) : ∃ x xs, bs.map (fun (b : Nat) => PyData.tuple [.int (f b), .int (-(b : Int))]) = x :: xs ∧ W.minD x xs = pD (best f bs) ∧ PyData.hasDictAll (x :: xs) = false ∧ W.AlikeAll (x :: xs) ∧ PyData.depthAll (x :: xs) ≤ 60 := by
  have e : bs.map (fun (b : Nat) => PyData.tuple [.int (f b), .int (-(b : Int))]) = (bs.map fun b => (f b, -(b : Int))).map pD := by rw [List.map_map]; rfl
  rw [e]
  unfold best
  generalize hp : (bs.map fun b => (f b, -(b : Int))) = ps
  cases ps with
  | nil => simp at hp; exact absurd hp h
  | cons p ps =>
    refine ⟨pD p, ps.map pD, rfl, minD_pairs ps p, ?_, ?_, ?_⟩
    · rw [← List.map_cons (f := pD)]
      generalize p :: ps = qs
      induction qs with
      | nil => rfl
      | cons q qs ih => show (false || PyData.hasDictAll _) = false; rw [ih]; rfl
    · rw [← List.map_cons (f := pD)]
      refine ⟨fun x hx y hy => ?_, fun x hx => ?_⟩
      · obtain ⟨p, _, rfl⟩ := List.mem_map.mp hx
        obtain ⟨q, _, rfl⟩ := List.mem_map.mp hy
        rfl
      · obtain ⟨p, _, rfl⟩ := List.mem_map.mp hx
        exact fun z => nomatch z
    · rw [← List.map_cons (f := pD)]
      refine Nat.le_trans (depthAll_map (k := 1) fun p _ => ?_) (by decide)
      simp [pD, PyData.depth, PyData.depthAll]
theorem csL_at {wd : Int} {ws : List Int} {m j : Nat} (h : j ≤ m) : atI (iDs (csL wd ws m)) (j : Int) = some (.int (C wd ws j)) := by
  refine atI_nat ?_
  unfold csL
  simp [iDs, List.getElem?_range (show j < m + 1 by omega)]
theorem csL_snoc {wd : Int} {ws : List Int} {m : Nat} : iDs (csL wd ws m) ++ [PyData.int (C wd ws (m + 1))] = iDs (csL wd ws (m + 1)) := by
  unfold csL
  rw [List.range_succ (n := m + 1)]; simp [iDs]
theorem bsL_snoc {wd : Int} {ws : List Int} {m : Nat} : nDs (bsL wd ws m) ++ [PyData.int (B wd ws (m + 1))] = nDs (bsL wd ws (m + 1)) := by
  unfold bsL
  rw [List.range_succ (n := m + 1)]; simp [nDs]
theorem csL_len {wd : Int} {ws : List Int} {m : Nat} : (csL wd ws m).length = m + 1 := by simp [csL]
theorem bsL_len {wd : Int} {ws : List Int} {m : Nat} : (bsL wd ws m).length = m + 1 := by simp [bsL]
section
variable {P : Program} {w : World} {K : PySem.W.Frag} {mg : Str → Option Value} {base : Heap} {Tq : List (Addr × Str)}
abbrev N_Table_begins : List Str := ["self", "end", "found", "begin"]
theorem sc_Table_begins : FnScope N_Table_begins ["self", "end"] (defScope (inClass (topS 19) 1)) := ⟨rfl, rfl, rfl, by decide +kernel, rfl, by decide +kernel, by decide +kernel⟩
theorem g_Table_begins {f : Addr} {fd : FuncData} {k : Nat} {aTable : Addr} (Fn : Fun K "begins" "Table.begins" (inClass (topS 19) 1) f fd) (TX : Txt_Table K aTable) (G_length_by : Df P w K mg base Tq k "length_by" ["sums", "begin", "end"] spLenBy) : FnG P w K mg base Tq (k + 1) f fd ["self", "end"] (spBegins aTable) := by
  refine fn_g Fn sc_Table_begins (fun ts Q E h => ?_) fun cdv A outer s H E Z ts QT ET hr hgd hp tk h => ?_
  · obtain ⟨a, wd, ws, m, pc, pb, e, rfl, W, he, q⟩ := h; rfl
  · obtain ⟨a, wd, ws, m, pc, pb, e, rfl, W, he, q⟩ := h
    -- line 65
    refine wss_cons (ws_par 2 3 rfl sc_Table_begins.nd (w_lst ⟨(by first | decide | (simp only [List.length_append, List.length_map, List.length_cons, List.length_nil, List.length_singleton, List.length_replicate, List.length_range, List.length_take, List.length_drop, List.length_dropLast, List.length_reverse, Bool.false_eq_true, eq_self, reduceIte, sizeLine_eq]; omega)), fun p1 => ⟨_, rfl, (w_bin dop_sub (w_var 1 (w_int ⟨rfl, rfl, ⟨_, rfl, Nat.lt_of_sub_eq_succ rfl, Nat.lt_of_sub_eq_succ rfl, ?_⟩⟩)))⟩⟩))
    let Iv : Nat → QL.Env → Prop := fun m1 en => m1 ≤ e ∧ ∃ fs, bg wd ws e = fs ++ bgF wd ws e m1 ∧ en = [some (.ins a aTable (tabF wd ws m pc pb)), some (.va (.int e)), some (.lst p1 (nDs fs)), some (.va (.int ((m1 : Int) - 1)))]
    -- line 66
    refine wss_cons (ws_while Iv e ⟨Nat.le_refl e, [], rfl, rfl⟩ ?step hp)
    case step =>
      rintro m1 en ⟨hm, fs, hb, rfl⟩
      rcases m1 with _ | b
      · refine WW.t (ww_and (wt_cmp dop_ge (w_var 3 (w_int ⟨rfl, rfl, _, rfl, ⟨fun h => ?_, fun h => ?_⟩⟩))))
        · exact absurd h (by decide)
        have hb : bg wd ws e = fs := by rw [hb]; simp [bgF]
        refine ⟨fun z => (nomatch z), fun _ => ?_⟩
        show WSs _ _ _ _ _
        -- line 69
        refine wss_one (ws_ret (w_var 2 ⟨rfl, ?_⟩))
        rw [← hb]; exact ⟨rfl, q p1⟩
      · have eb : (((b + 1 : Nat) : Int) - 1) = (b : Int) := by omega
        rw [eb]
        refine (WW.t (ww_and (wt_cmp dop_ge (w_var 3 (w_int ⟨rfl, rfl, _, rfl, ⟨fun h => (ww_and1 (wt_cmp dop_le (w_fn G_length_by hr hgd ⟨rfl, (w_fld (w_var 0 ⟨rfl, ⟨TX.cl, TX.n_sums⟩, ⟨rfl, (w_var 3 ⟨rfl, (w_var 1 ⟨_, _, _, rfl, (by first | assumption | omega | decide), (by first | assumption | omega | decide), (w_fld (w_var 0 ⟨rfl, ⟨TX.cl, TX.n_wide⟩, ⟨rfl, rfl, _, rfl, ⟨fun h => ?_, fun h => ?_⟩⟩⟩))⟩)⟩)⟩⟩))⟩))), fun h => ?_⟩⟩)))))
        · have hl : ln ws b e ≤ wd := of_decide_eq_true h
          have hf : bgF wd ws e (b + 1) = b :: bgF wd ws e b := by show (if _ then _ else _) = _; rw [if_pos hl]
          have hn : fs.length ≤ 1000 := by have h1 := bg_len (wd := wd) (ws := ws) (e := e); have h2 := W.len; rw [hb] at h1; simp only [List.length_append] at h1; omega
          -- line 67
          refine wss_cons (ws_expr (w_append (w_var 2 ⟨_, _, _, _, rfl, rfl, (w_var 3 ⟨_, _, rfl, rfl, (by simp only [List.length_append, List.length_map, List.length_cons, List.length_nil, List.length_singleton, List.length_replicate, List.length_range, List.length_take, List.length_drop, List.length_dropLast, List.length_reverse, Bool.false_eq_true, eq_self, reduceIte, sizeLine_eq]; omega), ?_⟩)⟩)))
          -- line 68
          refine wss_one (ws_aug 3 dip_sub ⟨_, rfl, (w_int ⟨rfl, Nat.lt_of_sub_eq_succ rfl, ?_⟩)⟩ sc_Table_begins.nd)
          exact ⟨b, by omega, by omega, fs ++ [b], by rw [hb, hf]; simp, by simp only [nDs, List.map_append]; rfl⟩
        · have hl : ¬ ln ws b e ≤ wd := of_decide_eq_false h
          have hf : bgF wd ws e (b + 1) = [] := by show (if _ then _ else _) = _; rw [if_neg hl]
          have hb : bg wd ws e = fs := by rw [hb, hf, List.append_nil]
          show WSs _ _ _ _ _
          -- line 69
          refine wss_one (ws_ret (w_var 2 ⟨rfl, ?_⟩))
          rw [← hb]; exact ⟨rfl, q p1⟩
        · exact absurd (of_decide_eq_false h) (by omega)
abbrev N_Table_square : List Str := ["self", "begin", "end"]
theorem sc_Table_square : FnScope N_Table_square ["self", "begin", "end"] (defScope (inClass (topS 19) 2)) := ⟨rfl, rfl, rfl, by decide +kernel, rfl, by decide +kernel, by decide +kernel⟩
theorem g_Table_square {f : Addr} {fd : FuncData} {k : Nat} {aTable : Addr} (Fn : Fun K "square" "Table.square" (inClass (topS 19) 2) f fd) (TX : Txt_Table K aTable) (G_length_by : Df P w K mg base Tq k "length_by" ["sums", "begin", "end"] spLenBy) : FnG P w K mg base Tq (k + 1) f fd ["self", "begin", "end"] (spSquare aTable) := by
  refine fn_g Fn sc_Table_square (fun ts Q E h => ?_) fun cdv A outer s H E Z ts QT ET hr hgd hp tk h => ?_
  · obtain ⟨a, wd, ws, m, pc, pb, b, e, rfl, W, hb, he, q⟩ := h; rfl
  · obtain ⟨a, wd, ws, m, pc, pb, b, e, rfl, W, hb, he, q⟩ := h
    have hl := ln_bd W hb he
    have w1 := W.w1
    have w2 := W.w2
    -- line 72
    refine wss_one (ws_ret (w_bin dop_pow (w_bin dop_sub (w_fld (w_var 0 ⟨rfl, ⟨TX.cl, TX.n_wide⟩, (w_fn G_length_by hr hgd ⟨rfl, (w_fld (w_var 0 ⟨rfl, ⟨TX.cl, TX.n_sums⟩, ⟨rfl, (w_var 1 ⟨rfl, (w_var 2 ⟨_, _, _, rfl, (by first | assumption | omega | decide), (by first | assumption | omega | decide), ⟨rfl, rfl, (w_int ⟨rfl, rfl, (.inl ⟨by decide, by decide, by omega⟩), ?_⟩)⟩⟩)⟩)⟩⟩))⟩)⟩)))))
    exact ⟨rfl, q⟩
abbrev N_Table_way : List Str := ["self", "place", "found"]
theorem sc_Table_way : FnScope N_Table_way ["self", "place"] (defScope (inClass (topS 19) 3)) := ⟨rfl, rfl, rfl, by decide +kernel, rfl, by decide +kernel, by decide +kernel⟩
theorem g_Table_way {f : Addr} {fd : FuncData} {k : Nat} {aTable : Addr} (Fn : Fun K "way" "Table.way" (inClass (topS 19) 3) f fd) (TX : Txt_Table K aTable) (m_reversed : mg "reversed" = none) (m_tuple : mg "tuple" = none) : FnG P w K mg base Tq (k + 1) f fd ["self", "place"] (spWay aTable) := by
  refine fn_g Fn sc_Table_way (fun ts Q E h => ?_) fun cdv A outer s H E Z ts QT ET hr hgd hp tk h => ?_
  · obtain ⟨a, wd, ws, pc, pb, e, rfl, W, he, q⟩ := h; rfl
  · obtain ⟨a, wd, ws, pc, pb, e, rfl, W, he, q⟩ := h
    -- line 75
    refine wss_cons (ws_set 2 (w_lst ⟨(by first | decide | (simp only [List.length_append, List.length_map, List.length_cons, List.length_nil, List.length_singleton, List.length_replicate, List.length_range, List.length_take, List.length_drop, List.length_dropLast, List.length_reverse, Bool.false_eq_true, eq_self, reduceIte, sizeLine_eq]; omega)), fun p1 => ⟨Nat.lt_of_sub_eq_succ rfl, ?_⟩⟩) sc_Table_way.nd)
    let Iv : Nat → QL.Env → Prop := fun m1 en => m1 ≤ e ∧ ∃ fs, way wd ws e = way wd ws m1 ++ fs.reverse ∧ fs.length + m1 ≤ e ∧ en = [some (.ins a aTable (tabF wd ws ws.length pc pb)), some (.va (.int m1)), some (.lst p1 (nDs fs))]
    -- line 76
    refine wss_cons (ws_while Iv e ⟨Nat.le_refl e, [], (by simp), (by simp), rfl⟩ ?step hp)
    case step =>
      rintro m1 en ⟨hm, fs, hb, hn, rfl⟩
      have hlen := W.len
      refine (wt_cmp dop_gt (w_var 1 (w_int ⟨rfl, rfl, _, rfl, ⟨fun h => ?_, fun h => ?_⟩⟩)))
      · have h0 : 0 < m1 := by have := of_decide_eq_true h; omega
        obtain ⟨c1, c2, c3, _, _⟩ := CB_at W h0 (by omega)
        have ha : atI (nDs (bsL wd ws ws.length)) (m1 : Int) = some (.int (B wd ws m1)) := by
          refine atI_nat ?_
          unfold bsL
          simp [nDs, List.getElem?_range (show m1 < ws.length + 1 by omega)]
        -- line 77
        refine wss_cons (ws_expr (w_append (w_var 2 ⟨_, _, _, _, rfl, rfl, (w_var 1 ⟨_, _, rfl, rfl, (by simp only [List.length_append, List.length_map, List.length_cons, List.length_nil, List.length_singleton, List.length_replicate, List.length_range, List.length_take, List.length_drop, List.length_dropLast, List.length_reverse, Bool.false_eq_true, eq_self, reduceIte, sizeLine_eq]; omega), ?_⟩)⟩)))
        -- line 78
        refine wss_one (ws_set 1 (w_ix (w_fld (w_var 0 ⟨rfl, ⟨TX.cl, TX.n_befores⟩, (w_var 1 ⟨rfl, rfl, _, ha, ⟨Nat.lt_of_sub_eq_succ rfl, ?_⟩⟩)⟩))) sc_Table_way.nd)
        refine ⟨B wd ws m1, c1, by omega, fs ++ [m1], ?_, ?_, ?_⟩
        · rw [hb, way_step W h0 (by omega)]; simp
        · simp only [List.length_append, List.length_singleton]; omega
        · simp only [nDs, List.map_append]; rfl
      · have h0 : m1 = 0 := by have := of_decide_eq_false h; omega
        subst h0
        -- line 79
        refine wss_one (ws_ret (w_tupRev rfl m_tuple m_reversed (w_var 2 ⟨rfl, _, rfl, ?_⟩)))
        have e1 : (nDs fs).reverse = nDs (way wd ws e) := by rw [hb, way0, List.nil_append]; simp [nDs]
        rw [e1]
        exact ⟨rfl, q⟩
abbrev N_Table_last_start : List Str := ["self", "count", "begin"]
theorem sc_Table_last_start : FnScope N_Table_last_start ["self"] (defScope (inClass (topS 19) 4)) := ⟨rfl, rfl, rfl, by decide +kernel, rfl, by decide +kernel, by decide +kernel⟩
theorem g_Table_last_start {f : Addr} {fd : FuncData} {k : Nat} {aTable : Addr} (Fn : Fun K "last_start" "Table.last_start" (inClass (topS 19) 4) f fd) (TX : Txt_Table K aTable) (M_begins : Mf P w K mg base Tq k aTable "begins" ["self", "end"] (spBegins aTable)) (m_len : mg "len" = none) (m_min : mg "min" = none) : FnG P w K mg base Tq (k + 1) f fd ["self"] (spLast aTable) := by
  refine fn_g Fn sc_Table_last_start (fun ts Q E h => ?_) fun cdv A outer s H E Z ts QT ET hr hgd hp tk h => ?_
  · obtain ⟨a, wd, ws, pc, pb, rfl, W, q⟩ := h; rfl
  · obtain ⟨a, wd, ws, pc, pb, rfl, W, q⟩ := h
    have hu := room110 hr
    have hlen := W.len
    have hcs : (iDs (csL wd ws ws.length)).length = ws.length + 1 := by rw [List.length_map, csL_len]
    -- line 82
    refine wss_cons (ws_set 1 (w_bin dop_sub (w_callB dc_len m_len rfl ⟨rfl, (w_fld (w_var 0 ⟨rfl, ⟨TX.cl, TX.n_costs⟩, ⟨rfl, (w_int ⟨rfl, rfl, ⟨Nat.lt_of_sub_eq_succ rfl, ?_⟩⟩)⟩⟩))⟩)) sc_Table_last_start.nd)
    rw [hcs, show (((ws.length + 1 : Nat) : Int) - 1) = (ws.length : Int) by omega]
    -- line 83
    refine wss_cons (ws_if (wt_cmp (dop_eq (room64 hr)) (w_var 1 (w_int ⟨rfl, rfl, _, rfl, ⟨fun h => ?_, fun h => ?_⟩⟩))))
    · have h0 : ws.length = 0 := by have := of_decide_eq_true h; omega
      -- line 84
      refine wss_one (ws_ret (w_int ?_))
      have e1 : LS wd ws = 0 := by unfold LS; rw [if_pos h0]
      rw [e1] at q
      exact ⟨rfl, q⟩
    · refine wss_nil ?_
      have h0 : 0 < ws.length := by have := of_decide_eq_false h; omega
      obtain ⟨l1, l2, l3, l4⟩ := LS_at W h0
      obtain ⟨x, xs, m1, m2, m3, m4, m5⟩ := min_pairs (f := C wd ws) (bg_ne W h0 (Nat.le_refl _))
      have hbl := bg_len (wd := wd) (ws := ws) (e := ws.length)
      -- line 85
      refine wss_one (ws_ret (w_neg (w_ix (w_callB (dc_minL rfl hu) m_min rfl ⟨rfl, (w_lc (own := [("begin", 2)]) rfl sc_Table_last_start.nd (blkOk_by (N := N_Table_last_start) (sc := defScope (inClass (topS 19) 4)) (by decide +kernel)) (fun _ _ _ _ _ => pg_name (i := 2) sc_Table_last_start.nd rfl (by first | exact Or.inl rfl | exact Or.inr rfl)) (gok_name 2) (by decide) (wi_list (w_meth M_begins hr hgd (w_var 0 ⟨⟨rfl, rfl, rfl⟩, ⟨rfl, (w_var 1 ⟨rfl, ⟨_, _, _, _, _, _, _, rfl, (by first | assumption | omega | decide), (by first | assumption | omega | decide), fun p_1 => ⟨rfl, rfl, (lc_map fm_name (fun (b : Nat) => PyData.int b) (bg wd ws ws.length) (fun (b : Nat) => PyData.tuple [.int (C wd ws b), .int (-(b : Int))]) _ rfl (rfl) (by simp only [sizeLine_eq]; omega) (fun k2 b hx => by have hm := (bg_mem W (Nat.le_refl _)).mp (List.mem_of_getElem? hx); exact ⟨Nat.lt_of_sub_eq_succ rfl, fun s2 H2 C2 cl2 fp2 => (w_tup ⟨rfl, (w_ix (w_fld (w_var 0 ⟨rfl, ⟨TX.cl, TX.n_costs⟩, (w_var 2 ⟨rfl, rfl, _, (csL_at (by omega)), ⟨rfl, (w_neg (w_var 2 ⟨rfl, ⟨(by first | decide | (simp only [List.length_append, List.length_map, List.length_cons, List.length_nil, List.length_singleton, List.length_replicate, List.length_range, List.length_take, List.length_drop, List.length_dropLast, List.length_reverse, Bool.false_eq_true, eq_self, reduceIte, sizeLine_eq]; omega)), ⟨rfl, rfl⟩⟩⟩))⟩⟩)⟩)))⟩)⟩) (fun p1 => ⟨rfl, ⟨_, _, _, (.inl (congrArg (fun z => [PyData.list z]) m1)), m3, m4, m5, (m2.trans (congrArg pD l3)), (w_int ⟨rfl, rfl, _, rfl, ⟨rfl, ?_⟩⟩)⟩⟩))⟩⟩⟩)⟩⟩))))⟩))))
      have e1 : - (-(LS wd ws : Int)) = (LS wd ws : Int) := by omega
      refine ⟨rfl, ?_⟩
      show QT (.va (.int (- (-(LS wd ws : Int))))) _
      rw [e1]
      exact q
end
end K92

namespace K92
open PySem PySem.Spec PyProof.Rows L2 QL
open LM
def spBest : Spc := fun ts QT _ => ∃ (wd : Int) (ws : List Int), ts = [.va (.int wd), .va (.tuple (iDs ws))] ∧ Wd wd ws ∧ QT (.va (.tuple (nDs (bestLay wd ws)))) [none, none]
def spBestCost : Spc := fun ts QT _ => ∃ (wd : Int) (ws : List Int), ts = [.va (.int wd), .va (.tuple (iDs ws))] ∧ Wd wd ws ∧ QT (.va (.int (C wd ws (LS wd ws)))) [none, none]
theorem words_shaped {wd : Int} {ws : List Int} (W : Wd wd ws) : SeqAt.shaped (.tuple (iDs ws)) = true := by
  refine shaped_sm ?_ ?_
  · simp only [smallD]
    refine iDs_small fun x hx => ?_
    have := W.wrd x hx
    have := W.w2
    have b : (1000000000 : Nat) < 2 ^ 200 := by decide
    omega
  · simp only [PyData.depth, iDs_depth]; omega
theorem eqv_nil (ws : List Int) : PyData.eqv (.tuple (iDs ws)) (.tuple []) = decide (ws.length = 0) := by
  cases ws with
  | nil => rfl
  | cons x xs => rfl
theorem LS_way {wd : Int} {ws : List Int} (h : ws.length ≠ 0) : nDs (way wd ws (LS wd ws)) ++ [PyData.int (ws.length : Int)] = nDs (bestLay wd ws) := by
  unfold bestLay; rw [if_neg h]; simp [nDs]
theorem way_len {wd : Int} {ws : List Int} (W : Wd wd ws) {e : Nat} (h : e ≤ ws.length) : (nDs (way wd ws e)).length ≤ 1000 := by
  have h1 := (way_lay W e h).1.len
  have h2 := W.len
  rw [List.length_map]; omega
section
variable {P : Program} {w : World} {K : PySem.W.Frag} {mg : Str → Option Value} {base : Heap} {Tq : List (Addr × Str)}
abbrev N_Table___init__ : List Str := ["self", "width", "text", "end", "least", "before", "at"]
theorem sc_Table___init__ : FnScope N_Table___init__ ["self", "width", "text"] (defScope (inClass (topS 19) 0)) := ⟨rfl, rfl, rfl, by decide +kernel, rfl, by decide +kernel, by decide +kernel⟩
theorem g_Table___init__ {f : Addr} {fd : FuncData} {k : Nat} {aTable : Addr} (Fn : Fun K "__init__" "Table.__init__" (inClass (topS 19) 0) f fd) (TX : Txt_Table K aTable) (G_sums_of : Df P w K mg base Tq k "sums_of" ["text"] spSums) (M_begins : Mf P w K mg base Tq k aTable "begins" ["self", "end"] (spBegins aTable)) (M_square : Mf P w K mg base Tq k aTable "square" ["self", "begin", "end"] (spSquare aTable)) (m_len : mg "len" = none) (m_min : mg "min" = none) (m_range : mg "range" = none) : FnG P w K mg base Tq (k + 1) f fd ["self", "width", "text"] (spInit aTable) := by
  refine fn_g Fn sc_Table___init__ (fun ts Q E h => ?_) fun cdv A outer s H E Z ts QT ET hr hgd hp tk h => ?_
  · obtain ⟨a, wd, ws, rfl, W, q⟩ := h; rfl
  · obtain ⟨a, wd, ws, rfl, W, q⟩ := h
    have hu := room110 hr
    have hlen := W.len
    -- line 55
    refine wss_cons (ws_fld 0 (w_var 1 ⟨⟨TX.cl, TX.n_wide, Nat.lt_of_sub_eq_succ rfl⟩, ?_⟩))
    -- line 56
    refine wss_cons (ws_fld 0 (w_fn G_sums_of hr hgd ⟨rfl, (w_var 2 ⟨_, rfl, (by first | assumption | omega | decide), ⟨⟨TX.cl, TX.n_sums, Nat.lt_of_sub_eq_succ rfl⟩, ?_⟩⟩)⟩))
    -- line 57
    refine wss_cons (ws_fld 0 (w_lst ⟨rfl, (w_int ⟨(by first | decide | (simp only [List.length_append, List.length_map, List.length_cons, List.length_nil, List.length_singleton, List.length_replicate, List.length_range, List.length_take, List.length_drop, List.length_dropLast, List.length_reverse, Bool.false_eq_true, eq_self, reduceIte, sizeLine_eq]; omega)), fun p1 => ⟨⟨TX.cl, TX.n_costs, Nat.lt_of_sub_eq_succ rfl⟩, ?_⟩⟩)⟩))
    -- line 58
    refine wss_cons (ws_fld 0 (w_lst ⟨rfl, (w_int ⟨(by first | decide | (simp only [List.length_append, List.length_map, List.length_cons, List.length_nil, List.length_singleton, List.length_replicate, List.length_range, List.length_take, List.length_drop, List.length_dropLast, List.length_reverse, Bool.false_eq_true, eq_self, reduceIte, sizeLine_eq]; omega)), fun p2 => ⟨⟨TX.cl, TX.n_befores, Nat.lt_of_sub_eq_succ rfl⟩, ?_⟩⟩)⟩))
    have hs : (((iDs (sumsF 0 ws)).length : Nat) : Int) = (ws.length : Int) + 1 := by rw [List.length_map, sumsF_len]; omega
    -- line 59
    refine wss_one (ws_for hp rfl (pg_name (i := 3) sc_Table___init__.nd rfl (by first | exact Or.inl rfl | exact Or.inr rfl)) (gok_name 3) (wi_range2 m_range ⟨rfl, (w_int ⟨rfl, (w_callB dc_len m_len rfl ⟨rfl, (w_fld (w_var 0 ⟨rfl, ⟨TX.cl, TX.n_sums⟩, ⟨rfl, ⟨rfl, rfl, ⟨by omega, by omega, by omega, by omega⟩, ?_⟩⟩⟩))⟩)⟩)⟩))
    rw [show ((((iDs (sumsF 0 ws)).length : Nat) : Int) - 1).toNat = ws.length by rw [hs]; omega]
    refine ⟨fun j e => ∃ o3 o4 o5, e = [some (.ins a aTable (tabF wd ws j p1 p2)), some (.va (.int wd)), some (.va (.tuple (iDs ws))), o3, o4, o5, none], ⟨none, none, none, rfl⟩, ?_, ?_⟩
    · rintro j x e hd ⟨o3, o4, o5, rfl⟩
      obtain ⟨rfl, hj⟩ := rangeD_at hd
      rw [show ((1 : Int) + (j : Int)) = ((j + 1 : Nat) : Int) by omega]
      obtain ⟨c1, c2, c3, c4, c5⟩ := CB_at W (e := j + 1) (by omega) (by omega)
      obtain ⟨x, xs, m1, m2, m3, m4, m5⟩ := min_pairs (f := fun b => C wd ws b + sq wd ws b (j + 1)) (bg_ne W (e := j + 1) (by omega) (by omega))
      have hbl := bg_len (wd := wd) (ws := ws) (e := j + 1)
      refine ⟨Nat.lt_of_sub_eq_succ rfl, ?_⟩
      -- line 60
      refine wss_cons (ws_asg (pg_tup (by rfl) (pgs_cons (pg_name (i := 4) sc_Table___init__.nd rfl (by first | exact Or.inl rfl | exact Or.inr rfl)) (pgs_cons (pg_name (i := 5) sc_Table___init__.nd rfl (by first | exact Or.inl rfl | exact Or.inr rfl)) (pgs_nil)))) (gok_tup (gsok_cons (gok_name 4) (gsok_cons (gok_name 5) (gsok_nil)))) (w_callB (dc_minL rfl hu) m_min rfl ⟨rfl, (w_lc (own := [("at", 6)]) rfl sc_Table___init__.nd (blkOk_by (N := N_Table___init__) (sc := defScope (inClass (topS 19) 0)) (by decide +kernel)) (fun _ _ _ _ _ => pg_name (i := 6) sc_Table___init__.nd rfl (by first | exact Or.inl rfl | exact Or.inr rfl)) (gok_name 6) (by decide) (wi_list (w_meth M_begins hr hgd (w_var 0 ⟨⟨rfl, rfl, rfl⟩, ⟨rfl, (w_var 3 ⟨rfl, ⟨_, _, _, _, _, _, _, rfl, (by first | assumption | omega | decide), (by first | assumption | omega | decide), fun p_2 => ⟨rfl, rfl, (lc_map fm_name (fun (b : Nat) => PyData.int b) (bg wd ws (j + 1)) (fun (b : Nat) => PyData.tuple [.int (C wd ws b + sq wd ws b (j + 1)), .int (-(b : Int))]) _ rfl (rfl) (by simp only [sizeLine_eq]; omega) (fun k2 b hx => by have hm := (bg_mem W (e := j + 1) (by omega)).mp (List.mem_of_getElem? hx); exact ⟨Nat.lt_of_sub_eq_succ rfl, fun s2 H2 C2 cl2 fp2 => (w_tup ⟨rfl, (w_bin dop_add (w_ix (w_fld (w_var 0 ⟨rfl, ⟨TX.cl, TX.n_costs⟩, (w_var 6 ⟨rfl, rfl, _, (csL_at (by omega)), (w_meth M_square hr hgd (w_var 0 ⟨⟨rfl, rfl, rfl⟩, ⟨rfl, (w_var 6 ⟨rfl, (w_var 3 ⟨rfl, ⟨_, _, _, _, _, _, _, _, rfl, (by first | assumption | omega | decide), (by first | assumption | omega | decide), (by first | assumption | omega | decide), ⟨rfl, rfl, ⟨rfl, rfl, ⟨rfl, (w_neg (w_var 6 ⟨rfl, ⟨(by first | decide | (simp only [List.length_append, List.length_map, List.length_cons, List.length_nil, List.length_singleton, List.length_replicate, List.length_range, List.length_take, List.length_drop, List.length_dropLast, List.length_reverse, Bool.false_eq_true, eq_self, reduceIte, sizeLine_eq]; omega)), ⟨rfl, rfl⟩⟩⟩))⟩⟩⟩⟩⟩)⟩)⟩⟩))⟩)⟩))))⟩)⟩) (fun p3 => ⟨rfl, ⟨_, _, _, (.inl (congrArg (fun z => [PyData.list z]) m1)), m3, m4, m5, (m2.trans (congrArg pD c4)), ⟨_, rfl, rfl, ⟨Nat.lt_of_sub_eq_succ rfl, ⟨Nat.lt_of_sub_eq_succ rfl, ⟨rfl, ?_⟩⟩⟩⟩⟩⟩))⟩⟩⟩)⟩⟩))))⟩))
      have l1 := csL_len (wd := wd) (ws := ws) (m := j)
      have l2 := bsL_len (wd := wd) (ws := ws) (m := j)
      -- line 61
      refine wss_cons (ws_expr (w_append (w_fld (w_var 0 ⟨rfl, ⟨TX.cl, TX.n_costs⟩, ⟨_, _, _, _, rfl, rfl, (w_var 4 ⟨_, _, rfl, rfl, (by simp only [List.length_append, List.length_map, List.length_cons, List.length_nil, List.length_singleton, List.length_replicate, List.length_range, List.length_take, List.length_drop, List.length_dropLast, List.length_reverse, Bool.false_eq_true, eq_self, reduceIte, sizeLine_eq]; omega), ?_⟩)⟩⟩))))
      -- line 62
      refine wss_one (ws_expr (w_append (w_fld (w_var 0 ⟨rfl, ⟨TX.cl, TX.n_befores⟩, ⟨_, _, _, _, rfl, rfl, (w_neg (w_var 5 ⟨rfl, ⟨_, _, rfl, rfl, (by simp only [List.length_append, List.length_map, List.length_cons, List.length_nil, List.length_singleton, List.length_replicate, List.length_range, List.length_take, List.length_drop, List.length_dropLast, List.length_reverse, Bool.false_eq_true, eq_self, reduceIte, sizeLine_eq]; omega), ?_⟩⟩))⟩⟩))))
      refine ⟨some (.va (.int ((j + 1 : Nat) : Int))), some (.va (.int (C wd ws (j + 1)))), some (.va (.int (-(B wd ws (j + 1) : Int)))), ?_⟩
      show [some (T.ins a aTable [("wide", .va (.int wd)), ("sums", .va (.tuple (iDs (sumsF 0 ws)))), ("costs", .lst p1 (iDs (csL wd ws j) ++ [.int (C wd ws (j + 1))])), ("befores", .lst p2 (nDs (bsL wd ws j) ++ [.int (-(-(B wd ws (j + 1) : Int)))]))]), _, _, _, _, _, _] = _
      rw [csL_snoc, show (-(-(B wd ws (j + 1) : Int))) = (B wd ws (j + 1) : Int) by omega, bsL_snoc]
    · rintro e ⟨o3, o4, o5, rfl⟩
      rw [show (rangeD 1 ws.length).length = ws.length from rangeD_len _ _]
      exact ⟨rfl, q p1 p2⟩
abbrev N_best_layout : List Str := ["width", "text", "table"]
theorem sc_best_layout : FnScope N_best_layout ["width", "text"] (defScope (topS 21)) := ⟨rfl, rfl, rfl, by decide +kernel, rfl, by decide +kernel, by decide +kernel⟩
theorem g_best_layout {f : Addr} {fd : FuncData} {k : Nat} {aTable : Addr} (Fn : Fun K "best_layout" "best_layout" (topS 21) f fd) (M_last_start : Mf P w K mg base Tq k aTable "last_start" ["self"] (spLast aTable)) (M_way : Mf P w K mg base Tq k aTable "way" ["self", "place"] (spWay aTable)) (C_Table : Ck P w K mg base Tq k "Table" aTable ["self", "width", "text"] (spInit aTable)) (m_len : mg "len" = none) : FnG P w K mg base Tq (k + 2) f fd ["width", "text"] spBest := by
  have M_last_start := M_last_start.mono (Nat.le_succ k)
  have M_way := M_way.mono (Nat.le_succ k)
  refine fn_g Fn sc_best_layout (fun ts Q E h => ?_) fun cdv A outer s H E Z ts QT ET hr hgd hp tk h => ?_
  · obtain ⟨wd, ws, rfl, W, q⟩ := h; rfl
  · obtain ⟨wd, ws, rfl, W, q⟩ := h
    -- line 89
    refine wss_cons (ws_if (wt_cmp (dop_eq (room64 hr)) (w_var 1 (w_tup ⟨(by first | decide | (simp only [List.length_append, List.length_map, List.length_cons, List.length_nil, List.length_singleton, List.length_replicate, List.length_range, List.length_take, List.length_drop, List.length_dropLast, List.length_reverse, Bool.false_eq_true, eq_self, reduceIte, sizeLine_eq]; omega)), ⟨rfl, rfl, (words_shaped W), rfl, _, rfl, ⟨fun h => ?_, fun h => ?_⟩⟩⟩))))
    · have h0 : ws.length = 0 := by have h : PyData.eqv (.tuple (iDs ws)) (.tuple []) = true := h; rw [eqv_nil] at h; exact of_decide_eq_true h
      -- line 90
      refine wss_one (ws_ret (w_tup ⟨(by first | decide | (simp only [List.length_append, List.length_map, List.length_cons, List.length_nil, List.length_singleton, List.length_replicate, List.length_range, List.length_take, List.length_drop, List.length_dropLast, List.length_reverse, Bool.false_eq_true, eq_self, reduceIte, sizeLine_eq]; omega)), ?_⟩))
      have e1 : bestLay wd ws = [] := by unfold bestLay; rw [if_pos h0]
      rw [e1] at q
      exact q
    · refine wss_nil ?_
      have h0 : ws.length ≠ 0 := by have h : PyData.eqv (.tuple (iDs ws)) (.tuple []) = false := h; rw [eqv_nil] at h; exact of_decide_eq_false h
      have hls := LS_le W
      have hw := way_len W hls
      -- line 91
      refine wss_cons (ws_set 2 (w_make C_Table hr hgd ⟨rfl, (w_var 0 ⟨rfl, (w_var 1 fun pN1 => ⟨_, _, _, rfl, (by first | assumption | omega | decide), fun pc_1 pb_1 => ⟨rfl, rfl, ⟨Nat.lt_of_sub_eq_succ rfl, ?_⟩⟩⟩)⟩)⟩) sc_best_layout.nd)
      -- line 92
      refine wss_one (ws_ret (w_tupX ⟨rfl, (w_meth M_way hr hgd (w_var 2 ⟨⟨rfl, rfl, rfl⟩, ⟨rfl, (w_meth0 M_last_start hr hgd (w_var 2 ⟨⟨rfl, rfl, rfl⟩, ⟨rfl, ⟨_, _, _, _, _, rfl, (by first | assumption | omega | decide), ⟨rfl, rfl, ⟨rfl, ⟨_, _, _, _, _, _, rfl, (by first | assumption | omega | decide), (by first | assumption | omega | decide), ⟨rfl, rfl, ⟨rfl, (w_callB dc_len m_len rfl ⟨rfl, (w_var 1 ⟨rfl, ⟨(by show (nDs (way wd ws (LS wd ws)) ++ [PyData.int _]).length ≤ sizeLine; simp only [List.length_append, List.length_singleton, sizeLine_eq]; omega), ?_⟩⟩)⟩)⟩⟩⟩⟩⟩⟩⟩⟩))⟩⟩))⟩))
      show QT (.va (.tuple (nDs (way wd ws (LS wd ws)) ++ [PyData.int (((iDs ws).length : Nat) : Int)]))) [none, none]
      rw [List.length_map, LS_way h0]
      exact q
abbrev N_best_cost : List Str := ["width", "text", "table"]
theorem sc_best_cost : FnScope N_best_cost ["width", "text"] (defScope (topS 22)) := ⟨rfl, rfl, rfl, by decide +kernel, rfl, by decide +kernel, by decide +kernel⟩
theorem g_best_cost {f : Addr} {fd : FuncData} {k : Nat} {aTable : Addr} (Fn : Fun K "best_cost" "best_cost" (topS 22) f fd) (TX : Txt_Table K aTable) (M_last_start : Mf P w K mg base Tq k aTable "last_start" ["self"] (spLast aTable)) (C_Table : Ck P w K mg base Tq k "Table" aTable ["self", "width", "text"] (spInit aTable)) : FnG P w K mg base Tq (k + 2) f fd ["width", "text"] spBestCost := by
  have M_last_start := M_last_start.mono (Nat.le_succ k)
  refine fn_g Fn sc_best_cost (fun ts Q E h => ?_) fun cdv A outer s H E Z ts QT ET hr hgd hp tk h => ?_
  · obtain ⟨wd, ws, rfl, W, q⟩ := h; rfl
  · obtain ⟨wd, ws, rfl, W, q⟩ := h
    have hls := LS_le W
    -- line 94
    refine wss_cons (ws_set 2 (w_make C_Table hr hgd ⟨rfl, (w_var 0 ⟨rfl, (w_var 1 fun pN1 => ⟨_, _, _, rfl, (by first | assumption | omega | decide), fun pc_1 pb_1 => ⟨rfl, rfl, ⟨Nat.lt_of_sub_eq_succ rfl, ?_⟩⟩⟩)⟩)⟩) sc_best_cost.nd)
    -- line 95
    refine wss_one (ws_ret (w_ix (w_fld (w_var 2 ⟨rfl, ⟨TX.cl, TX.n_costs⟩, (w_meth0 M_last_start hr hgd (w_var 2 ⟨⟨rfl, rfl, rfl⟩, ⟨rfl, ⟨_, _, _, _, _, rfl, (by first | assumption | omega | decide), ⟨rfl, rfl, ⟨rfl, rfl, _, (csL_at (by omega)), ?_⟩⟩⟩⟩⟩))⟩))))
    exact q
end
end K92

/-! LP: all layouts, found by going on from their beginnings. -/
namespace LM
open PySem
theorem Lay.pre {wd : Int} {ws : List Int} {ns : List Nat} {h : Nat} : ∀ {r : List Nat} {e : Nat}, Lay wd ws (ns ++ h :: r) e → ∃ l, Lay wd ws ns l ∧ l < h ∧ ln ws l h ≤ wd ∧ h ≤ e := fun {r} => by
  generalize hm : r.length = m
  induction m generalizing r with
  | zero =>
    intro e c
    have : r = [] := List.eq_nil_of_length_eq_zero hm
    subst this
    obtain ⟨rfl, l, h1, h2, h3⟩ := c.inv
    exact ⟨l, h1, h2, h3, Nat.le_refl _⟩
  | succ m ih =>
    intro e c
    rcases List.eq_nil_or_concat r with z | ⟨r', x, z⟩
    · subst z; cases hm
    · rw [List.concat_eq_append] at z
      subst z
      have e1 : ns ++ h :: (r' ++ [x]) = (ns ++ h :: r') ++ [x] := by simp
      rw [e1] at c
      obtain ⟨rfl, l, h1, h2, h3⟩ := c.inv
      obtain ⟨l', k1, k2, k3, k4⟩ := ih (r := r') (by simpa using hm) h1
      exact ⟨l', k1, k2, k3, by omega⟩
theorem Lay.uniq {wd : Int} {ws : List Int} {ns : List Nat} {l l' : Nat} (c : Lay wd ws ns l) (c' : Lay wd ws ns l') : l = l' := by rw [← c.last, ← c'.last]
def wgt (n : Nat) (wt : List (List Nat × Nat)) : Nat := (wt.map fun p => 2 ^ (n - p.2)).sum
theorem wgt_snoc (n : Nat) (wt : List (List Nat × Nat)) (p : List Nat × Nat) : wgt n (wt ++ [p]) = wgt n wt + 2 ^ (n - p.2) := by
  unfold wgt
  rw [List.map_append, List.sum_append]
  simp
abbrev tN (ns : List Nat) : PyData := .tuple (nDs ns)
/-- found and waiting -/
structure Fnd (wd : Int) (ws : List Int) (fs : List (List Nat)) (wt : List (List Nat × Nat)) : Prop where
  f : ∀ ns ∈ fs, Lay wd ws ns ws.length
  g : ∀ p ∈ wt, Lay wd ws p.1 p.2 ∧ p.2 ≤ ws.length
  all : ∀ ns, Lay wd ws ns ws.length → ns ∈ fs ∨ ∃ p ∈ wt, p.1 <+: ns
  le : fs.length + wgt ws.length wt ≤ 2 ^ ws.length
/-- the children so far of what was taken -/
structure Kid (wd : Int) (ws : List Int) (ns : List Nat) (l j : Nat) (wt0 wt : List (List Nat × Nat)) : Prop where
  old : ∀ p ∈ wt0, p ∈ wt
  g : ∀ p ∈ wt, p ∈ wt0 ∨ (Lay wd ws p.1 p.2 ∧ p.2 ≤ ws.length)
  new : ∀ h, l < h → h ≤ l + j → ln ws l h ≤ wd → (ns ++ [h], h) ∈ wt
  le : wgt ws.length wt + 2 ^ (ws.length - l - j) ≤ wgt ws.length wt0 + 2 ^ (ws.length - l)
theorem Kid.zero {wd : Int} {ws : List Int} {ns : List Nat} {l : Nat} {wt0 : List (List Nat × Nat)} : Kid wd ws ns l 0 wt0 wt0 :=
  ⟨fun _ h => h, fun _ h => .inl h, fun h h1 h2 _ => by omega, Nat.le_refl _⟩
theorem Kid.yes {wd : Int} {ws : List Int} {ns : List Nat} {l j : Nat} {wt0 wt : List (List Nat × Nat)} (K : Kid wd ws ns l j wt0 wt) (c : Lay wd ws ns l) (hj : l + 1 + j ≤ ws.length) (hf : ln ws l (l + 1 + j) ≤ wd) : Kid wd ws ns l (j + 1) wt0 (wt ++ [(ns ++ [l + 1 + j], l + 1 + j)]) := by
  refine ⟨fun p hp => List.mem_append_left _ (K.old p hp), fun p hp => ?_, fun h h1 h2 h3 => ?_, ?_⟩
  · rcases List.mem_append.mp hp with z | z
    · exact K.g p z
    · rw [List.mem_singleton.mp z]; exact .inr ⟨.snoc c (by omega) hf, hj⟩
  · by_cases e : h = l + 1 + j
    · subst e; exact List.mem_append_right _ (List.mem_singleton.mpr rfl)
    · exact List.mem_append_left _ (K.new h h1 (by omega) h3)
  · have := K.le
    rw [wgt_snoc]
    have e1 : ws.length - l - j = (ws.length - (l + 1 + j)) + 1 := by omega
    have e2 : ws.length - l - (j + 1) = ws.length - (l + 1 + j) := by omega
    rw [e1, Nat.pow_succ] at this
    rw [e2]
    show wgt ws.length wt + 2 ^ (ws.length - (l + 1 + j)) + _ ≤ _
    omega
theorem Kid.no {wd : Int} {ws : List Int} {ns : List Nat} {l j : Nat} {wt0 wt : List (List Nat × Nat)} (K : Kid wd ws ns l j wt0 wt) (hf : ¬ ln ws l (l + 1 + j) ≤ wd) : Kid wd ws ns l (j + 1) wt0 wt := by
  refine ⟨K.old, K.g, fun h h1 h2 h3 => ?_, ?_⟩
  · by_cases e : h = l + 1 + j
    · subst e; exact absurd h3 hf
    · exact K.new h h1 (by omega) h3
  · have := K.le
    have : 2 ^ (ws.length - l - (j + 1)) ≤ 2 ^ (ws.length - l - j) := Nat.pow_le_pow_right (by decide) (by omega)
    omega
theorem Fnd.next {wd : Int} {ws : List Int} {fs fs' : List (List Nat)} {ns : List Nat} {l : Nat} {wt0 wt : List (List Nat × Nat)} (F : Fnd wd ws fs (wt0 ++ [(ns, l)])) (K : Kid wd ws ns l (ws.length - l) wt0 wt) (hf : (l = ws.length ∧ fs' = fs ++ [ns]) ∨ (l ≠ ws.length ∧ fs' = fs)) :
    Fnd wd ws fs' wt ∧ wgt ws.length wt < wgt ws.length (wt0 ++ [(ns, l)]) := by
  have hc := F.g (ns, l) (List.mem_append_right _ (List.mem_singleton.mpr rfl))
  have hle := K.le
  have e0 : ws.length - l - (ws.length - l) = 0 := by omega
  rw [e0, Nat.pow_zero] at hle
  have hw := wgt_snoc ws.length wt0 (ns, l)
  have hF := F.le
  simp only at hw
  have sub : ∀ x, x ∈ fs → x ∈ fs' := fun x hx => by
    rcases hf with ⟨_, rfl⟩ | ⟨_, rfl⟩
    · exact List.mem_append_left _ hx
    · exact hx
  refine ⟨⟨fun x hx => ?_, fun p hp => ?_, fun ms hm => ?_, ?_⟩, by rw [hw]; omega⟩
  · rcases hf with ⟨e, rfl⟩ | ⟨_, rfl⟩
    · rcases List.mem_append.mp hx with z | z
      · exact F.f x z
      · rw [List.mem_singleton.mp z, ← e]; exact hc.1
    · exact F.f x hx
  · rcases K.g p hp with z | z
    · exact F.g p (List.mem_append_left _ z)
    · exact z
  · rcases F.all ms hm with z | ⟨p, hp, z⟩
    · exact .inl (sub _ z)
    · rcases List.mem_append.mp hp with y | y
      · exact .inr ⟨p, K.old p y, z⟩
      · rw [List.mem_singleton.mp y] at z
        obtain ⟨r, hr⟩ := z
        cases r with
        | nil =>
          rw [List.append_nil] at hr
          subst hr
          have := hm.uniq hc.1
          rcases hf with ⟨_, rfl⟩ | ⟨e, _⟩
          · exact .inl (List.mem_append_right _ (List.mem_singleton.mpr rfl))
          · exact absurd this.symm e
        | cons h r =>
          rw [← hr] at hm
          obtain ⟨l', k1, k2, k3, k4⟩ := hm.pre
          have := k1.uniq hc.1
          subst this
          exact .inr ⟨_, K.new h k2 (by omega) k3, ⟨r, by rw [← hr]; simp⟩⟩
  · rcases hf with ⟨e, rfl⟩ | ⟨_, rfl⟩
    · rw [List.length_append, List.length_singleton]; omega
    · omega
end LM

/-! LQ: least of rows of data, sorted tuples, what is shown. -/
namespace LM
open PySem QL
theorem hasDict_map {α : Type} {f : α → PyData} (h : ∀ x, (f x).hasDict = false) : ∀ xs : List α, PyData.hasDictAll (xs.map f) = false
  | [] => rfl
  | x :: xs => by show ((f x).hasDict || PyData.hasDictAll (xs.map f)) = false; rw [h x, hasDict_map h xs]; rfl
theorem min_ints {ns : List Int} (h : ns ≠ []) : ∃ x xs m, ns.map PyData.int = x :: xs ∧ W.minD x xs = .int m ∧ m ∈ ns ∧ (∀ y ∈ ns, m ≤ y) ∧ PyData.hasDictAll (x :: xs) = false ∧ W.AlikeAll (x :: xs) ∧ PyData.depthAll (x :: xs) ≤ 60 := by
  cases ns with
  | nil => exact absurd rfl h
  | cons n ns =>
    have key : ∀ (ns : List Int) (a : Int), (ns.foldl min a) ∈ a :: ns ∧ ∀ y ∈ a :: ns, ns.foldl min a ≤ y := fun ns => by
      induction ns with
      | nil => intro a; exact ⟨List.mem_cons_self, fun y hy => by rw [List.mem_singleton.mp hy]; exact Int.le_refl _⟩
      | cons b ns ih =>
        intro a
        obtain ⟨h1, h2⟩ := ih (min a b)
        rw [List.foldl_cons]
        refine ⟨?_, fun y hy => ?_⟩
        · rcases List.mem_cons.mp h1 with e | e
          · rw [e]
            rcases Int.le_total a b with z | z
            · rw [Int.min_eq_left z]; exact List.mem_cons_self
            · rw [Int.min_eq_right z]; exact List.mem_cons_of_mem _ List.mem_cons_self
          · exact List.mem_cons_of_mem _ (List.mem_cons_of_mem _ e)
        · have h3 := h2 (min a b) List.mem_cons_self
          rcases List.mem_cons.mp hy with rfl | hy
          · omega
          · rcases List.mem_cons.mp hy with rfl | hy
            · omega
            · exact h2 y (List.mem_cons_of_mem _ hy)
    refine ⟨.int n, ns.map .int, ns.foldl min n, rfl, W.minD_ints n ns, (key ns n).1, (key ns n).2, ?_, ?_, ?_⟩
    · exact hasDict_map (f := PyData.int) (fun _ => rfl) (n :: ns)
    · rw [← List.map_cons (f := PyData.int)]
      refine ⟨fun x hx y hy => ?_, fun x hx => ?_⟩
      · obtain ⟨p, _, rfl⟩ := List.mem_map.mp hx
        obtain ⟨q, _, rfl⟩ := List.mem_map.mp hy
        rfl
      · obtain ⟨p, _, rfl⟩ := List.mem_map.mp hx
        exact fun z => nomatch z
    · rw [← List.map_cons (f := PyData.int)]
      refine Nat.le_trans (depthAll_map (k := 0) fun p _ => ?_) (by decide)
      simp [PyData.depth]
/-! ### sorted tuples -/
abbrev tI (xs : List Int) : PyData := .tuple (iDs xs)
theorem ne_self {x : Str} {Q : Prop} (h : (!decide (x = x)) = true) : Q := by simp at h
end LM

/-! LR: chains of lines, parts of texts, texts turned about. -/
namespace LM
open PySem
/-- lines from l to r -/
inductive Seg (wd : Int) (ws : List Int) : Nat → List Nat → Nat → Prop
  | nil {l : Nat} : Seg wd ws l [] l
  | cons {l h r : Nat} {ns : List Nat} : l < h → ln ws l h ≤ wd → Seg wd ws h ns r → Seg wd ws l (h :: ns) r
def sc (wd : Int) (ws : List Int) : Nat → List Nat → Int
  | _, [] => 0
  | l, h :: r => sq wd ws l h + sc wd ws h r
theorem Seg.app {wd : Int} {ws : List Int} {l m : Nat} {ns : List Nat} (a : Seg wd ws l ns m) : ∀ {ms : List Nat} {r : Nat}, Seg wd ws m ms r → Seg wd ws l (ns ++ ms) r := by
  induction a with
  | nil => exact fun h => h
  | cons h1 h2 _ ih => exact fun h => .cons h1 h2 (ih h)
theorem sc_app {wd : Int} {ws : List Int} : ∀ {ns : List Nat} {l : Nat} {ms : List Nat}, sc wd ws l (ns ++ ms) = sc wd ws l ns + sc wd ws (ns.getLastD l) ms
  | [], l, ms => by simp [sc]
  | h :: r, l, ms => by
    show sq wd ws l h + sc wd ws h (r ++ ms) = sq wd ws l h + sc wd ws h r + _
    rw [sc_app (ns := r) (l := h), List.getLastD_cons]
    omega
theorem Seg.last {wd : Int} {ws : List Int} {l r : Nat} {ns : List Nat} (a : Seg wd ws l ns r) : ns.getLastD l = r := by
  induction a with
  | nil => rfl
  | cons h1 h2 _ ih => rw [List.getLastD_cons]; exact ih
theorem Seg.le {wd : Int} {ws : List Int} {l r : Nat} {ns : List Nat} (a : Seg wd ws l ns r) : l ≤ r ∧ ns.length ≤ r - l := by
  induction a with
  | nil => exact ⟨Nat.le_refl _, Nat.zero_le _⟩
  | cons h1 h2 _ ih => exact ⟨by omega, by rw [List.length_cons]; omega⟩
theorem Seg.mem {wd : Int} {ws : List Int} {l r : Nat} {ns : List Nat} (a : Seg wd ws l ns r) : ∀ x ∈ ns, l < x ∧ x ≤ r := by
  induction a with
  | nil => intro x hx; cases hx
  | cons h1 h2 a ih =>
    intro x hx
    rcases List.mem_cons.mp hx with e | e
    · subst e; exact ⟨h1, a.le.1⟩
    · have := ih x e; omega
theorem Lay.seg {wd : Int} {ws : List Int} {ns : List Nat} {e : Nat} (c : Lay wd ws ns e) : Seg wd ws 0 ns e ∧ fc wd ws ns = sc wd ws 0 ns := by
  induction c with
  | nil => exact ⟨.nil, rfl⟩
  | @snoc ns l h c h1 h2 ih =>
    refine ⟨ih.1.app (.cons h1 h2 .nil), ?_⟩
    rw [fc_snoc, sc_app, ih.2, ih.1.last]
    simp [sc]
theorem Seg.inv {wd : Int} {ws : List Int} : ∀ {ns : List Nat} {l : Nat} {ms : List Nat} {r : Nat}, Seg wd ws l (ns ++ ms) r → Seg wd ws l ns (ns.getLastD l) ∧ Seg wd ws (ns.getLastD l) ms r
  | [], l, ms, r, a => ⟨.nil, a⟩
  | h :: t, l, ms, r, a => by
    have a' : Seg wd ws l (h :: (t ++ ms)) r := a
    cases a' with
    | cons h1 h2 b =>
      have := Seg.inv b
      rw [List.getLastD_cons]
      exact ⟨.cons h1 h2 this.1, this.2⟩
/-! ### lines of parts -/
theorem ln_sum (ws : List Int) {i j : Nat} (h : i ≤ j) (hj : j ≤ ws.length) : ln ws i j = ((ws.drop i).take (j - i)).sum + j - i - 1 := by
  unfold ln
  rw [sm_eq ws (j := i) (by omega), sm_eq ws hj]
  have e : ws.take j = ws.take i ++ (ws.drop i).take (j - i) := by
    have : j = i + (j - i) := by omega
    conv => lhs; rw [this, List.take_add]
  rw [e, List.sum_append]
  omega
theorem ln_rev {ws : List Int} {i j : Nat} (h : i ≤ j) (hj : j ≤ ws.length) : ln ws.reverse (ws.length - j) (ws.length - i) = ln ws i j := by
  rw [ln_sum ws h hj, ln_sum _ (by omega) (by rw [List.length_reverse]; omega)]
  have e : ((ws.reverse.drop (ws.length - j)).take (ws.length - i - (ws.length - j))).sum = ((ws.drop i).take (j - i)).sum := by
    rw [show ws.length - i - (ws.length - j) = j - i by omega]
    have e1 : ws.reverse.drop (ws.length - j) = (ws.take j).reverse := by
      rw [List.reverse_take]
    rw [e1, List.take_reverse, List.length_take, Nat.min_eq_left hj, show j - (j - i) = i by omega, List.drop_take, List.sum_reverse]
  rw [e]
  omega
theorem Wd.take {wd : Int} {ws : List Int} (W : Wd wd ws) (m : Nat) : Wd wd (ws.take m) := ⟨W.w1, W.w2, by rw [List.length_take]; have := W.len; omega, fun x hx => W.wrd x (List.mem_of_mem_take hx)⟩
theorem Wd.drop {wd : Int} {ws : List Int} (W : Wd wd ws) (m : Nat) : Wd wd (ws.drop m) := ⟨W.w1, W.w2, by rw [List.length_drop]; have := W.len; omega, fun x hx => W.wrd x (List.mem_of_mem_drop hx)⟩
theorem Wd.rev {wd : Int} {ws : List Int} (W : Wd wd ws) : Wd wd ws.reverse := ⟨W.w1, W.w2, by rw [List.length_reverse]; exact W.len, fun x hx => W.wrd x (List.mem_reverse.mp hx)⟩
theorem Wd.app {wd : Int} {ws vs : List Int} (W : Wd wd ws) (h : ws.length + vs.length ≤ 1000) (hv : ∀ x ∈ vs, 1 ≤ x ∧ x ≤ wd) : Wd wd (ws ++ vs) := ⟨W.w1, W.w2, by rw [List.length_append]; exact h, fun x hx => (List.mem_append.mp hx).elim (W.wrd x) (hv x)⟩
/-- the first ends of a way are a way -/
theorem way_pre {wd : Int} {ws : List Int} (W : Wd wd ws) : ∀ e, e ≤ ws.length → ∀ k x, (way wd ws e)[k]? = some x → (way wd ws e).take (k + 1) = way wd ws x := by
  intro e
  induction e using Nat.strongRecOn with
  | _ e ih =>
    intro he k x hx
    rcases Nat.eq_zero_or_pos e with h0 | h0
    · subst h0; rw [way0] at hx; cases hx
    · have s := way_step W h0 he
      have hb := (CB_at W h0 he).1
      rw [s] at hx ⊢
      by_cases hk : k < (way wd ws (B wd ws e)).length
      · rw [List.getElem?_append_left hk] at hx
        rw [List.take_append_of_le_length (by omega)]
        exact ih _ hb (by omega) k x hx
      · rw [List.getElem?_append_right (by omega)] at hx
        have hk2 : k = (way wd ws (B wd ws e)).length := by
          have := (List.getElem?_eq_some_iff.mp hx).1
          rw [List.length_singleton] at this
          omega
        rw [hk2, Nat.sub_self] at hx
        have ex : e = x := by simpa using hx
        subst ex
        rw [List.take_of_length_le (by rw [List.length_append, List.length_singleton]; omega)]
        exact s.symm
def rvs (n : Nat) : Nat → List Nat → List Nat
  | _, [] => []
  | l, h :: t => rvs n h t ++ [n - l]
theorem Seg.rev {wd : Int} {ws : List Int} {l r : Nat} {ns : List Nat} (a : Seg wd ws l ns r) : r ≤ ws.length → Seg wd ws.reverse (ws.length - r) (rvs ws.length l ns) (ws.length - l) ∧ sc wd ws.reverse (ws.length - r) (rvs ws.length l ns) = sc wd ws l ns := by
  induction a with
  | nil => exact fun _ => ⟨.nil, rfl⟩
  | @cons l h r ns h1 h2 a ih =>
    intro hr
    have hle := a.le.1
    have e := ln_rev (ws := ws) (i := l) (j := h) (by omega) (by omega)
    obtain ⟨i1, i2⟩ := ih hr
    show Seg wd ws.reverse _ (rvs ws.length h ns ++ [ws.length - l]) _ ∧ sc wd ws.reverse _ (rvs ws.length h ns ++ [ws.length - l]) = _
    refine ⟨i1.app (.cons (by omega) (by rw [e]; exact h2) .nil), ?_⟩
    rw [sc_app, i1.last, i2]
    show sc wd ws h ns + (sq wd ws.reverse (ws.length - h) (ws.length - l) + 0) = sq wd ws l h + sc wd ws h ns
    unfold sq
    rw [e]
    omega
end LM

/-! LS: words of the width; parts of best layouts. -/
namespace LM
open PySem
end LM

/-! LT: what is behind an end of a best layout; begins of a last line. -/
namespace LM
open PySem
theorem Seg.up {wd : Int} {ws vs : List Int} {d n : Nat} (hq : ∀ i j, i < j → j + d ≤ n → ln vs i j = ln ws (i + d) (j + d)) {l r : Nat} {ns : List Nat} (c : Seg wd vs l ns r) : r + d ≤ n → Seg wd ws (l + d) (ns.map (· + d)) (r + d) ∧ sc wd ws (l + d) (ns.map (· + d)) = sc wd vs l ns := by
  induction c with
  | nil => exact fun _ => ⟨.nil, rfl⟩
  | @cons l h e ns g1 g2 c ih =>
    intro he
    have hle := c.le.1
    have q := hq l h g1 (by omega)
    obtain ⟨i1, i2⟩ := ih he
    show Seg wd ws (l + d) ((h + d) :: ns.map (· + d)) (e + d) ∧ _
    refine ⟨.cons (by omega) (by rw [← q]; exact g2) i1, ?_⟩
    show sq wd ws (l + d) (h + d) + sc wd ws (h + d) (ns.map (· + d)) = sq wd vs l h + sc wd vs h ns
    rw [i2]
    unfold sq
    rw [q]
open L2 QL in
theorem cut_to {α : Type} (f : α → PyData) (xs : List α) (j : Nat) (hj : j ≤ xs.length) : cutD (xs.map f) none (some (j : Int)) = (xs.take j).map f := by
  rw [QL.cutD_map]
  have h1 : HT.sIx xs.length 0 none = 0 := rfl
  rw [h1, HT.sIx_nat, Nat.min_eq_left hj, List.drop_zero, Nat.sub_zero]
open L2 QL in
theorem cut_from {α : Type} (f : α → PyData) (xs : List α) (i : Nat) (hi : i ≤ xs.length) : cutD (xs.map f) (some (i : Int)) none = (xs.drop i).map f := by
  rw [QL.cutD_map]
  have h1 : HT.sIx xs.length xs.length none = xs.length := rfl
  rw [h1, HT.sIx_nat, Nat.min_eq_left hi, List.take_of_length_le (by rw [List.length_drop]; omega)]
end LM

/-! LU: rows of priced layouts in order; a table begun from the back of a line; the start of a future. -/
namespace LM
open PySem L2 QL
def leQ (x y : Int × List Nat) : Prop := x.1 < y.1 ∨ (x.1 = y.1 ∧ rv x.2 ≤ rv y.2)
instance (x y : Int × List Nat) : Decidable (leQ x y) := by unfold leQ; infer_instance
/-! ### from the back of a line -/
/-- what was found among the begins b .. e - 1 -/
def Sofar (f : Nat → Int) (b e : Nat) (l : PyData) (a : Nat) : Prop := (l = .none ∧ b = e ∧ a = 0) ∨ (l = .int (f a) ∧ b ≤ a ∧ a < e ∧ ∀ c, b ≤ c → c < e → f a < f c ∨ (f a = f c ∧ c ≤ a))
theorem Sofar.start {f : Nat → Int} {e : Nat} : Sofar f e e .none 0 := .inl ⟨rfl, rfl, rfl⟩
theorem Sofar.first {f : Nat → Int} {b : Nat} : Sofar f b (b + 1) (.int (f b)) b := .inr ⟨rfl, Nat.le_refl _, Nat.lt_succ_self _, fun c h1 h2 => .inr ⟨by rw [show c = b by omega], by omega⟩⟩
theorem Sofar.more {f : Nat → Int} {b e a : Nat} {l : PyData} (s : Sofar f (b + 1) e l a) (hl : l = .int (f a)) (h : ¬ f b < f a) : Sofar f b e l a := by
  rcases s with ⟨s, _⟩ | ⟨_, s1, s2, s3⟩
  · rw [s] at hl; cases hl
  · refine .inr ⟨hl, by omega, s2, fun c h1 h2 => ?_⟩
    by_cases z : c = b
    · subst z
      by_cases g : f a = f c
      · exact .inr ⟨g, by omega⟩
      · exact .inl (by omega)
    · exact s3 c (by omega) h2
theorem max_ints {ns : List Int} (h : ns ≠ []) : ∃ x xs m, ns.map PyData.int = x :: xs ∧ W.maxD x xs = .int m ∧ m ∈ ns ∧ (∀ y ∈ ns, y ≤ m) ∧ PyData.hasDictAll (x :: xs) = false ∧ W.AlikeAll (x :: xs) ∧ PyData.depthAll (x :: xs) ≤ 60 := by
  cases ns with
  | nil => exact absurd rfl h
  | cons n ns =>
    have key : ∀ (ns : List Int) (a : Int), (ns.foldl max a) ∈ a :: ns ∧ ∀ y ∈ a :: ns, y ≤ ns.foldl max a := fun ns => by
      induction ns with
      | nil => intro a; exact ⟨List.mem_cons_self, fun y hy => by rw [List.mem_singleton.mp hy]; exact Int.le_refl _⟩
      | cons b ns ih =>
        intro a
        obtain ⟨h1, h2⟩ := ih (max a b)
        rw [List.foldl_cons]
        refine ⟨?_, fun y hy => ?_⟩
        · rcases List.mem_cons.mp h1 with e | e
          · rw [e]
            rcases Int.le_total a b with z | z
            · rw [Int.max_eq_right z]; exact List.mem_cons_of_mem _ List.mem_cons_self
            · rw [Int.max_eq_left z]; exact List.mem_cons_self
          · exact List.mem_cons_of_mem _ (List.mem_cons_of_mem _ e)
        · have h3 := h2 (max a b) List.mem_cons_self
          rcases List.mem_cons.mp hy with rfl | hy
          · omega
          · rcases List.mem_cons.mp hy with rfl | hy
            · omega
            · exact h2 y (List.mem_cons_of_mem _ hy)
    obtain ⟨x, xs, m, e1, _, _, _, e5, e6, e7⟩ := min_ints (ns := n :: ns) (List.cons_ne_nil _ _)
    have ex : x = .int n ∧ xs = ns.map .int := by
      have : PyData.int n :: ns.map .int = x :: xs := e1
      injection this with a b
      exact ⟨a.symm, b.symm⟩
    obtain ⟨rfl, rfl⟩ := ex
    exact ⟨.int n, ns.map .int, ns.foldl max n, rfl, W.maxD_ints n ns, (key ns n).1, (key ns n).2, e5, e6, e7⟩
end LM

/-! LG: where the line that goes on begins. -/
namespace LM
open PySem
/-- the best one of a kind, the latest of several -/
def IsBest (f : Nat → Int) (S : Nat → Prop) (b : Nat) : Prop := S b ∧ ∀ c, S c → f b < f c ∨ (f b = f c ∧ c ≤ b)
theorem IsBest.uniq {f : Nat → Int} {S : Nat → Prop} {b c : Nat} (h : IsBest f S b) (g : IsBest f S c) : b = c := by
  have := h.2 c g.1
  have := g.2 b h.1
  omega
theorem best_is {f : Nat → Int} {bs : List Nat} (h : bs ≠ []) : ∃ b, best f bs = (f b, -(b : Int)) ∧ IsBest f (· ∈ bs) b := by
  obtain ⟨b, hb, e, hm⟩ := best_spec f h
  exact ⟨b, e, hb, hm⟩
/-- the length from a place to the end -/
def tl (ws : List Int) (p : Nat) : Int := ln ws p ws.length
theorem tl_end (ws : List Int) : tl ws ws.length = -1 := by unfold tl ln; omega
/-- the places whose lines fit with a word behind them -/
def fit (wd : Int) (ws : List Int) (u : Int) : List Nat := (List.range (ws.length + 1)).filter fun p => decide (tl ws p ≤ wd - 1 - u)
def Fits (wd : Int) (ws : List Int) (u : Int) (p : Nat) : Prop := p ≤ ws.length ∧ tl ws p ≤ wd - 1 - u
theorem fit_mem {wd : Int} {ws : List Int} {u : Int} {p : Nat} : p ∈ fit wd ws u ↔ Fits wd ws u p := by
  unfold fit Fits
  rw [List.mem_filter, List.mem_range, decide_eq_true_eq]
  omega
theorem fit_ne {wd : Int} {ws : List Int} {u : Int} (h : u ≤ wd) : fit wd ws u ≠ [] := List.ne_nil_of_mem (fit_mem.mpr ⟨Nat.le_refl _, by rw [tl_end]; omega⟩)
/-- the full cost if the line from p ends with a word -/
def cc (wd : Int) (ws : List Int) (u : Int) (p : Nat) : Int := C wd ws p + (wd - 1 - u - tl ws p) * (wd - 1 - u - tl ws p)
def opn (wd : Int) (ws : List Int) (u : Int) : Nat := (-(best (C wd ws) (fit wd ws u)).2).toNat
def cls (wd : Int) (ws : List Int) (u : Int) : Nat := (-(best (cc wd ws u) (fit wd ws u)).2).toNat
theorem opn_is {wd : Int} {ws : List Int} {u : Int} (h : u ≤ wd) : best (C wd ws) (fit wd ws u) = (C wd ws (opn wd ws u), -(opn wd ws u : Int)) ∧ IsBest (C wd ws) (Fits wd ws u) (opn wd ws u) := by
  obtain ⟨b, e, hb⟩ := best_is (f := C wd ws) (fit_ne (ws := ws) h)
  have eb : opn wd ws u = b := by unfold opn; rw [e]; simp
  rw [eb]
  exact ⟨e, fit_mem.mp hb.1, fun c hc => hb.2 c (fit_mem.mpr hc)⟩
theorem cls_is {wd : Int} {ws : List Int} {u : Int} (h : u ≤ wd) : best (cc wd ws u) (fit wd ws u) = (cc wd ws u (cls wd ws u), -(cls wd ws u : Int)) ∧ IsBest (cc wd ws u) (Fits wd ws u) (cls wd ws u) := by
  obtain ⟨b, e, hb⟩ := best_is (f := cc wd ws u) (fit_ne (ws := ws) h)
  have eb : cls wd ws u = b := by unfold cls; rw [e]; simp
  rw [eb]
  exact ⟨e, fit_mem.mp hb.1, fun c hc => hb.2 c (fit_mem.mpr hc)⟩
/-! ### the start of a future -/
section
variable {wd : Int} {ws vs : List Int} (W : Wd wd (ws ++ vs))
include W
end
end LM

/-! LH: ranges of words with one start. -/
namespace LM
open PySem
theorem sqd (r a : Int) : (r - a) * (r - a) = r * r - 2 * (r * a) + a * a := by
  rw [Int.sub_mul, Int.mul_sub, Int.mul_sub, Int.mul_comm a r]; omega
/-- what is won at a later place -/
def gain (wd : Int) (ws : List Int) (p q : Nat) : Int := C wd ws p - C wd ws q + tl ws p * tl ws p - tl ws q * tl ws q
theorem cc_diff (wd : Int) (ws : List Int) (u : Int) (p q : Nat) : cc wd ws u p - cc wd ws u q = gain wd ws p q - 2 * (tl ws p - tl ws q) * (wd - 1 - u) := by
  unfold cc gain
  generalize wd - 1 - u = r
  have h1 := sqd r (tl ws p)
  have h2 := sqd r (tl ws q)
  have h3 : 2 * (tl ws p - tl ws q) * r = 2 * (r * tl ws p) - 2 * (r * tl ws q) := by
    rw [Int.mul_assoc, Int.sub_mul, Int.mul_comm (tl ws p), Int.mul_comm (tl ws q)]; omega
  rw [h1, h2, h3]
  generalize r * tl ws p = x
  generalize r * tl ws q = y
  generalize r * r = z
  generalize tl ws p * tl ws p = s
  generalize tl ws q * tl ws q = t
  omega
theorem tl_lt {wd : Int} {ws : List Int} (W : Wd wd ws) {p q : Nat} (h : p < q) (hq : q ≤ ws.length) : tl ws q < tl ws p := by
  have := (sm_mono W (i := p) (j := q) (by omega) hq).1
  unfold tl ln
  omega
/-- p is cheaper than a later q as long as the word is short enough -/
theorem cheaper {wd : Int} {ws : List Int} (W : Wd wd ws) {p q : Nat} (h : p < q) (hq : q ≤ ws.length) (u : Int) : cc wd ws u p < cc wd ws u q ↔ u ≤ wd - 2 - gain wd ws p q / (2 * (tl ws p - tl ws q)) := by
  have d := cc_diff wd ws u p q
  have l := tl_lt W h hq
  have k : 0 < 2 * (tl ws p - tl ws q) := by omega
  have e : gain wd ws p q / (2 * (tl ws p - tl ws q)) < wd - 1 - u ↔ gain wd ws p q < (wd - 1 - u) * (2 * (tl ws p - tl ws q)) := Int.ediv_lt_iff_lt_mul k
  rw [Int.mul_comm (wd - 1 - u)] at e
  constructor
  · intro g
    have := e.mpr (by omega)
    omega
  · intro g
    have := e.mp (by omega)
    omega
/-- an earlier place that is no better gets no better with longer words -/
theorem no_better {wd : Int} {ws : List Int} (W : Wd wd ws) {p q : Nat} (h : q < p) (hp : p ≤ ws.length) {u v : Int} (huv : u ≤ v) (g : cc wd ws u p ≤ cc wd ws u q) : cc wd ws v p ≤ cc wd ws v q := by
  have d1 := cc_diff wd ws u q p
  have d2 := cc_diff wd ws v q p
  have l := tl_lt W h hp
  have m : 2 * (tl ws q - tl ws p) * (wd - 1 - v) ≤ 2 * (tl ws q - tl ws p) * (wd - 1 - u) := Int.mul_le_mul_of_nonneg_left (by omega) (by omega)
  omega
/-- the longest word with which the line from a place still fits -/
def lfit (wd : Int) (ws : List Int) (p : Nat) : Int := min wd (wd - 1 - tl ws p)
/-- the places kept -/
def rch (wd : Int) (ws : List Int) : List Nat := (List.range (ws.length + 1)).filter fun p => decide (p = ws.length ∨ tl ws p ≤ wd - 2)
theorem rch_mem {wd : Int} {ws : List Int} (W : Wd wd ws) {p : Nat} : p ∈ rch wd ws ↔ p ≤ ws.length ∧ tl ws p ≤ wd - 2 := by
  unfold rch
  rw [List.mem_filter, List.mem_range, decide_eq_true_eq]
  have := W.w1
  have := tl_end ws
  constructor
  · rintro ⟨a, b | b⟩
    · subst b; omega
    · omega
  · rintro ⟨a, b⟩
    exact ⟨by omega, .inr b⟩
def lcloF (wd : Int) (ws : List Int) (p : Nat) (f : Int) (q : Nat) : Int := if p < q then min f (wd - 2 - gain wd ws p q / (2 * (tl ws p - tl ws q))) else f
def lclo (wd : Int) (ws : List Int) (p : Nat) : Int := (rch wd ws).foldl (lcloF wd ws p) (lfit wd ws p)
theorem foldl_le {wd : Int} {ws : List Int} {p : Nat} {u : Int} : ∀ (qs : List Nat) (f : Int), u ≤ qs.foldl (lcloF wd ws p) f ↔ u ≤ f ∧ ∀ q ∈ qs, p < q → u ≤ wd - 2 - gain wd ws p q / (2 * (tl ws p - tl ws q))
  | [], f => by simp
  | q :: qs, f => by
    rw [List.foldl_cons, foldl_le qs]
    unfold lcloF
    by_cases h : p < q
    · rw [if_pos h]
      constructor
      · rintro ⟨a, b⟩
        refine ⟨by omega, fun x hx hl => ?_⟩
        rcases List.mem_cons.mp hx with rfl | z
        · omega
        · exact b x z hl
      · rintro ⟨a, b⟩
        have := b q List.mem_cons_self h
        exact ⟨by omega, fun x hx hl => b x (List.mem_cons_of_mem _ hx) hl⟩
    · rw [if_neg h]
      constructor
      · rintro ⟨a, b⟩
        refine ⟨a, fun x hx hl => ?_⟩
        rcases List.mem_cons.mp hx with rfl | z
        · exact absurd hl h
        · exact b x z hl
      · rintro ⟨a, b⟩
        exact ⟨a, fun x hx hl => b x (List.mem_cons_of_mem _ hx) hl⟩
theorem lclo_iff {wd : Int} {ws : List Int} (W : Wd wd ws) {p : Nat} {u : Int} (hp : p ∈ rch wd ws) : u ≤ lclo wd ws p ↔ u ≤ lfit wd ws p ∧ ∀ q, q ≤ ws.length → p < q → cc wd ws u p < cc wd ws u q := by
  unfold lclo
  rw [foldl_le]
  have hp := (rch_mem W).mp hp
  constructor
  · rintro ⟨a, b⟩
    exact ⟨a, fun q hq hl => (cheaper W hl hq u).mpr (b q ((rch_mem W).mpr ⟨hq, by have := tl_lt W hl hq; omega⟩) hl)⟩
  · rintro ⟨a, b⟩
    exact ⟨a, fun q hq hl => (cheaper W hl ((rch_mem W).mp hq).1 u).mp (b q ((rch_mem W).mp hq).1 hl)⟩
theorem fits_rch {wd : Int} {ws : List Int} (W : Wd wd ws) {u : Int} {p : Nat} (h1 : 1 ≤ u) (h : Fits wd ws u p) : p ∈ rch wd ws := (rch_mem W).mpr ⟨h.1, by have := h.2; omega⟩
/-- the range of a start: words that end their line -/
theorem cls_range {wd : Int} {ws : List Int} (W : Wd wd ws) {u : Int} (h1 : 1 ≤ u) (h2 : u ≤ wd) : u ≤ lclo wd ws (cls wd ws u) ∧ lclo wd ws (cls wd ws u) ≤ wd ∧ (∀ v, u ≤ v → v ≤ lclo wd ws (cls wd ws u) → cls wd ws v = cls wd ws u) ∧ (lclo wd ws (cls wd ws u) + 1 ≤ wd → cls wd ws u < cls wd ws (lclo wd ws (cls wd ws u) + 1)) := by
  obtain ⟨_, hs, hb⟩ := cls_is (ws := ws) h2
  generalize hp : cls wd ws u = p at hs hb
  have hr := fits_rch W h1 hs
  have lf : lclo wd ws p ≤ lfit wd ws p := ((lclo_iff W hr).mp (Int.le_refl _)).1
  have lw : lclo wd ws p ≤ wd := by unfold lfit at lf; omega
  -- u itself
  have uu : u ≤ lclo wd ws p := (lclo_iff W hr).mpr ⟨by unfold lfit; have := hs.2; omega, fun q hq hl => by
    have := hb q ⟨hq, by have := tl_lt W hl hq; have := hs.2; omega⟩; omega⟩
  have earlier : ∀ v, u ≤ v → ∀ q, q < p → Fits wd ws v q → cc wd ws v p ≤ cc wd ws v q := fun v hv q hq hf =>
    no_better W hq hs.1 hv (by have := hb q ⟨hf.1, by have := hf.2; omega⟩; omega)
  refine ⟨uu, lw, fun v v1 v2 => ?_, fun h => ?_⟩
  · obtain ⟨a, b⟩ := (lclo_iff W hr).mp v2
    refine (IsBest.uniq (f := cc wd ws v) (S := Fits wd ws v) (b := p) ⟨⟨hs.1, by unfold lfit at a; omega⟩, fun q hq => ?_⟩ (cls_is (by omega)).2).symm
    rcases Nat.lt_trichotomy q p with z | z | z
    · have := earlier v v1 q z hq; omega
    · subst z; exact .inr ⟨rfl, Nat.le_refl _⟩
    · have := b q hq.1 z; exact .inl this
  · obtain ⟨_, hs', hb'⟩ := cls_is (ws := ws) h
    generalize hq : cls wd ws (lclo wd ws p + 1) = q at hs' hb'
    rcases Nat.lt_trichotomy q p with z | z | z
    · -- an earlier one is no better
      have hpf : Fits wd ws (lclo wd ws p + 1) p := ⟨hs.1, by have := tl_lt W z hs.1; have := hs'.2; omega⟩
      have a := earlier _ (by omega) q z hs'
      have b := hb' p hpf
      omega
    · subst z
      have := (lclo_iff W hr (u := lclo wd ws q + 1)).mpr ⟨by unfold lfit; have := hs'.2; omega, fun x hx hl => by
        have := hb' x ⟨hx, by have := tl_lt W hl hx; have := hs'.2; omega⟩; omega⟩
      omega
    · exact z
/-- the range of a start: words in the last line -/
theorem opn_range {wd : Int} {ws : List Int} (W : Wd wd ws) {u : Int} (h1 : 1 ≤ u) (h2 : u ≤ wd) : u ≤ lfit wd ws (opn wd ws u) ∧ lfit wd ws (opn wd ws u) ≤ wd ∧ (∀ v, u ≤ v → v ≤ lfit wd ws (opn wd ws u) → opn wd ws v = opn wd ws u) ∧ (lfit wd ws (opn wd ws u) + 1 ≤ wd → opn wd ws u < opn wd ws (lfit wd ws (opn wd ws u) + 1)) := by
  obtain ⟨_, hs, hb⟩ := opn_is (ws := ws) h2
  generalize hp : opn wd ws u = p at hs hb
  have s2 := hs.2
  refine ⟨by unfold lfit; omega, by unfold lfit; omega, fun v v1 v2 => ?_, fun h => ?_⟩
  · unfold lfit at v2
    exact (IsBest.uniq (f := C wd ws) (S := Fits wd ws v) (b := p) ⟨⟨hs.1, by omega⟩, fun q hq => hb q ⟨hq.1, by have := hq.2; omega⟩⟩ (opn_is (by omega)).2).symm
  · obtain ⟨_, hs', hb'⟩ := opn_is (ws := ws) h
    generalize hq : opn wd ws (lfit wd ws p + 1) = q at hs' hb'
    have s3 := hs'.2
    have np : ¬ tl ws p ≤ wd - 1 - (lfit wd ws p + 1) := by unfold lfit at h ⊢; omega
    rcases Nat.lt_trichotomy q p with z | z | z
    · have := tl_lt W z hs.1; omega
    · subst z; exact absurd s3 np
    · exact z
end LM

/-! LI: what closing_starts, open_starts and starts return. -/
namespace LM
open PySem
theorem fit_rch {wd : Int} {ws : List Int} {u : Int} (h1 : 1 ≤ u) (h2 : u ≤ wd) : (rch wd ws).filter (fun p => decide (tl ws p ≤ wd - 1 - u)) = fit wd ws u := by
  unfold rch fit
  rw [List.filter_filter]
  congr 1
  funext p
  by_cases h : tl ws p ≤ wd - 1 - u
  · rw [decide_eq_true h, decide_eq_true (Or.inr (by omega))]; rfl
  · rw [decide_eq_false h]; rfl
/-- ranges so far, the next one begins at lo -/
inductive Rgs (wd : Int) (f : Int → Nat) : List (Int × Int × Nat) → Int → Prop
  | nil : Rgs wd f [] 1
  | snoc {rs : List (Int × Int × Nat)} {lo hi : Int} : Rgs wd f rs lo → lo ≤ hi → hi ≤ wd → (∀ u, lo ≤ u → u ≤ hi → f u = f lo) → (hi + 1 ≤ wd → f lo < f (hi + 1)) → Rgs wd f (rs ++ [(lo, hi, f lo)]) (hi + 1)
section
variable {wd : Int} {f : Int → Nat}
theorem Rgs.one {rs : List (Int × Int × Nat)} {lo : Int} (h : Rgs wd f rs lo) : 1 ≤ lo := by
  induction h with
  | nil => exact Int.le_refl _
  | snoc _ _ _ _ _ ih => omega
theorem Rgs.len {rs : List (Int × Int × Nat)} {lo : Int} (h : Rgs wd f rs lo) : lo ≤ wd → rs.length ≤ f lo := by
  induction h with
  | nil => intro _; exact Nat.zero_le _
  | snoc h1 h2 h3 h4 h5 ih =>
    intro h
    have a := ih (by omega)
    have b := h5 h
    rw [List.length_append, List.length_singleton]
    omega
theorem Rgs.mem {rs : List (Int × Int × Nat)} {lo : Int} (h : Rgs wd f rs lo) (p : Nat) : (∃ r ∈ rs, r.2.2 = p) ↔ ∃ u, 1 ≤ u ∧ u < lo ∧ f u = p := by
  induction h with
  | nil => exact ⟨fun ⟨r, h, _⟩ => (nomatch h), fun ⟨u, a, b, _⟩ => absurd b (by omega)⟩
  | @snoc rs lo hi h1 h2 h3 h4 h5 ih =>
    have o := h1.one
    constructor
    · rintro ⟨r, hr, e⟩
      rcases List.mem_append.mp hr with z | z
      · obtain ⟨u, a, b, c⟩ := ih.mp ⟨r, z, e⟩
        exact ⟨u, a, by omega, c⟩
      · rw [List.mem_singleton.mp z] at e
        exact ⟨lo, o, by omega, e⟩
    · rintro ⟨u, a, b, c⟩
      by_cases z : u < lo
      · obtain ⟨r, hr, e⟩ := ih.mpr ⟨u, a, z, c⟩
        exact ⟨r, List.mem_append_left _ hr, e⟩
      · exact ⟨(lo, hi, f lo), List.mem_append_right _ (List.mem_singleton.mpr rfl), by show f lo = p; rw [← c]; exact (h4 u (by omega) (by omega)).symm⟩
/-- each range: its ends, its start -/
theorem Rgs.each {rs : List (Int × Int × Nat)} {lo : Int} (h : Rgs wd f rs lo) : ∀ r ∈ rs, 1 ≤ r.1 ∧ r.1 ≤ r.2.1 ∧ r.2.1 ≤ wd ∧ r.2.1 < lo ∧ ∀ u, r.1 ≤ u → u ≤ r.2.1 → f u = r.2.2 := by
  induction h with
  | nil => intro r h; nomatch h
  | @snoc rs lo hi h1 h2 h3 h4 h5 ih =>
    intro r hr
    have o := h1.one
    rcases List.mem_append.mp hr with z | z
    · have := ih r z; exact ⟨this.1, this.2.1, this.2.2.1, by omega, this.2.2.2.2⟩
    · rw [List.mem_singleton.mp z]; exact ⟨o, h2, h3, by show hi < hi + 1; omega, h4⟩
/-- the runs of equal starts, word by word -/
def runs (f : Int → Nat) : Nat → List (Int × Int × Nat)
  | 0 => []
  | k + 1 => match (runs f k).getLast? with
    | some r => if r.2.2 = f ((k : Int) + 1) then (runs f k).dropLast ++ [(r.1, (k : Int) + 1, r.2.2)] else runs f k ++ [((k : Int) + 1, (k : Int) + 1, f ((k : Int) + 1))]
    | none => runs f k ++ [((k : Int) + 1, (k : Int) + 1, f ((k : Int) + 1))]
theorem runs_snoc (k : Nat) (rs : List (Int × Int × Nat)) (r : Int × Int × Nat) (h : runs f k = rs ++ [r]) : runs f (k + 1) = if r.2.2 = f ((k : Int) + 1) then rs ++ [(r.1, (k : Int) + 1, r.2.2)] else (rs ++ [r]) ++ [((k : Int) + 1, (k : Int) + 1, f ((k : Int) + 1))] := by
  show (match (runs f k).getLast? with
    | some r => if r.2.2 = f ((k : Int) + 1) then (runs f k).dropLast ++ [(r.1, (k : Int) + 1, r.2.2)] else runs f k ++ [((k : Int) + 1, (k : Int) + 1, f ((k : Int) + 1))]
    | none => runs f k ++ [((k : Int) + 1, (k : Int) + 1, f ((k : Int) + 1))]) = _
  rw [h, List.getLast?_concat]
  simp only [List.dropLast_concat]
theorem Rgs.last {rs : List (Int × Int × Nat)} {lo : Int} (h : Rgs wd f rs lo) : rs = [] ∨ ∃ rs0 r, rs = rs0 ++ [r] ∧ (lo ≤ wd → r.2.2 < f lo) := by
  cases h with
  | nil => exact .inl rfl
  | snoc h1 h2 h3 h4 h5 => exact .inr ⟨_, _, rfl, h5⟩
theorem Rgs.runs {rs : List (Int × Int × Nat)} {lo : Int} (h : Rgs wd f rs lo) : rs = LM.runs f (lo - 1).toNat := by
  induction h with
  | nil => rfl
  | @snoc rs lo hi h1 h2 h3 h4 h5 ih =>
    have o := h1.one
    have key : ∀ j : Nat, lo + j ≤ hi → LM.runs f (lo - 1 + j + 1).toNat = rs ++ [(lo, lo + j, f lo)] := fun j => by
      induction j with
      | zero =>
        intro _
        have e1 : (lo - 1 + ((0 : Nat) : Int) + 1).toNat = (lo - 1).toNat + 1 := by omega
        have e2 : (((lo - 1).toNat : Nat) : Int) + 1 = lo := by omega
        rw [e1]
        have e3 : lo + ((0 : Nat) : Int) = lo := by omega
        rw [e3]
        rcases h1.last with z | ⟨rs0, r, z, lt⟩
        · subst z
          show (match (LM.runs f (lo - 1).toNat).getLast? with
            | some r => if r.2.2 = f (((lo - 1).toNat : Int) + 1) then (LM.runs f (lo - 1).toNat).dropLast ++ [(r.1, ((lo - 1).toNat : Int) + 1, r.2.2)] else LM.runs f (lo - 1).toNat ++ [(((lo - 1).toNat : Int) + 1, ((lo - 1).toNat : Int) + 1, f (((lo - 1).toNat : Int) + 1))]
            | none => LM.runs f (lo - 1).toNat ++ [(((lo - 1).toNat : Int) + 1, ((lo - 1).toNat : Int) + 1, f (((lo - 1).toNat : Int) + 1))]) = _
          rw [← ih, e2]
          rfl
        · have lt := lt (by omega)
          rw [runs_snoc _ rs0 r (by rw [← ih, z]), e2, if_neg (by omega), ← z]
      | succ j ihj =>
        intro hj
        have e0 := ihj (by omega)
        have e1 : (lo - 1 + ((j + 1 : Nat) : Int) + 1).toNat = (lo - 1 + (j : Int) + 1).toNat + 1 := by omega
        have e2 : (((lo - 1 + (j : Int) + 1).toNat : Nat) : Int) + 1 = lo + ((j + 1 : Nat) : Int) := by omega
        rw [e1, runs_snoc _ rs _ e0, e2]
        rw [if_pos (h4 _ (by omega) (by omega)).symm]
    have q := key (hi - lo).toNat (by omega)
    have e1 : lo - 1 + ((hi - lo).toNat : Int) + 1 = hi + 1 - 1 := by omega
    have e2 : lo + ((hi - lo).toNat : Int) = hi := by omega
    rw [e1, e2] at q
    exact q.symm
end
/-! ### the starts of all futures -/
def IsStart (wd : Int) (ws : List Int) (p : Nat) : Prop := ∃ u, 1 ≤ u ∧ u ≤ wd ∧ (cls wd ws u = p ∨ opn wd ws u = p)
noncomputable instance (wd : Int) (ws : List Int) (p : Nat) : Decidable (IsStart wd ws p) := Classical.propDecidable _
noncomputable def stL (wd : Int) (ws : List Int) : List Nat := (List.range (ws.length + 1)).filter fun p => decide (IsStart wd ws p)
theorem cls_le {wd : Int} {ws : List Int} {u : Int} (h : u ≤ wd) : cls wd ws u ≤ ws.length := (cls_is h).2.1.1
theorem opn_le {wd : Int} {ws : List Int} {u : Int} (h : u ≤ wd) : opn wd ws u ≤ ws.length := (opn_is h).2.1.1
theorem IsStart.le {wd : Int} {ws : List Int} {p : Nat} (h : IsStart wd ws p) : p ≤ ws.length := by
  obtain ⟨u, _, h2, h3 | h3⟩ := h
  · rw [← h3]; exact cls_le h2
  · rw [← h3]; exact opn_le h2
theorem stL_mem {wd : Int} {ws : List Int} {p : Nat} : p ∈ stL wd ws ↔ IsStart wd ws p := by
  unfold stL
  rw [List.mem_filter, List.mem_range, decide_eq_true_eq]
  exact ⟨fun h => h.2, fun h => ⟨by have := h.le; omega, h⟩⟩
theorem stL_lt (wd : Int) (ws : List Int) : (stL wd ws).Pairwise (· < ·) := List.Pairwise.filter _ List.pairwise_lt_range
theorem sorted_uniq : ∀ {xs ys : List Int}, xs.Pairwise (· < ·) → ys.Pairwise (· < ·) → (∀ c, c ∈ xs ↔ c ∈ ys) → xs = ys
  | [], [], _, _, _ => rfl
  | [], y :: ys, _, _, h => nomatch (h y).mpr List.mem_cons_self
  | x :: xs, [], _, _, h => nomatch (h x).mp List.mem_cons_self
  | x :: xs, y :: ys, h1, h2, h => by
    obtain ⟨a1, a2⟩ := List.pairwise_cons.mp h1
    obtain ⟨b1, b2⟩ := List.pairwise_cons.mp h2
    have e : x = y := by
      rcases List.mem_cons.mp ((h x).mp List.mem_cons_self) with z | z
      · exact z
      · rcases List.mem_cons.mp ((h y).mpr List.mem_cons_self) with z2 | z2
        · exact z2.symm
        · have := a1 y z2; have := b1 x z; omega
    subst e
    congr 1
    refine sorted_uniq a2 b2 fun c => ⟨fun hc => ?_, fun hc => ?_⟩
    · rcases List.mem_cons.mp ((h c).mp (List.mem_cons_of_mem _ hc)) with z | z
      · have := a1 c hc; omega
      · exact z
    · rcases List.mem_cons.mp ((h c).mpr (List.mem_cons_of_mem _ hc)) with z | z
      · have := b1 c hc; omega
      · exact z
theorem stL_uniq {wd : Int} {ws : List Int} {ns : List Int} (pw : ns.Pairwise (· < ·)) (mem : ∀ c, c ∈ ns ↔ ∃ p : Nat, c = p ∧ IsStart wd ws p) : ns = (stL wd ws).map fun (n : Nat) => (n : Int) := by
  refine sorted_uniq pw ?_ fun c => ?_
  · rw [List.pairwise_map]
    exact (stL_lt wd ws).imp fun h => by omega
  · rw [mem, List.mem_map]
    exact ⟨fun ⟨p, e, h⟩ => ⟨p, stL_mem.mpr h, e.symm⟩, fun ⟨p, h, e⟩ => ⟨p, e.symm, stL_mem.mp h⟩⟩
theorem stL_len (wd : Int) (ws : List Int) : (stL wd ws).length ≤ ws.length + 1 := by
  unfold stL
  exact Nat.le_trans (List.length_filter_le _ _) (by rw [List.length_range]; omega)
/-- both rows of ranges together have just the starts -/
theorem Rgs.starts {wd : Int} {ws : List Int} {rs qs : List (Int × Int × Nat)} (h : Rgs wd (cls wd ws) rs (wd + 1)) (g : Rgs wd (opn wd ws) qs (wd + 1)) (p : Nat) : (∃ r ∈ rs ++ qs, r.2.2 = p) ↔ IsStart wd ws p := by
  constructor
  · rintro ⟨r, hr, e⟩
    rcases List.mem_append.mp hr with z | z
    · obtain ⟨u, a, b, c⟩ := (h.mem p).mp ⟨r, z, e⟩
      exact ⟨u, a, by omega, .inl c⟩
    · obtain ⟨u, a, b, c⟩ := (g.mem p).mp ⟨r, z, e⟩
      exact ⟨u, a, by omega, .inr c⟩
  · rintro ⟨u, a, b, c | c⟩
    · obtain ⟨r, hr, e⟩ := (h.mem p).mpr ⟨u, a, by omega, c⟩
      exact ⟨r, List.mem_append_left _ hr, e⟩
    · obtain ⟨r, hr, e⟩ := (g.mem p).mpr ⟨u, a, by omega, c⟩
      exact ⟨r, List.mem_append_right _ hr, e⟩
end LM

namespace K92
open PySem PySem.Spec PyProof.Rows L2 QL
open LM
/-- what is known of the class -/
structure Txt_Goers (K : PySem.W.Frag) (a : Addr) : Prop where
  cl : Cls K a
  n_most : NoAttr K a "most"
  n_table : NoAttr K a "table"
  n_reaches : NoAttr K a "reaches"
/-- the places kept, with their lengths -/
def rchK (wd : Int) (ws : List Int) : List (Key × D) := (rch wd ws).map fun (p : Nat) => (.inl (p : Int), .int (tl ws p))
theorem valT_map {g : Nat → D} {p : Nat} : ∀ {ps : List Nat}, p ∈ ps → valT (ps.map fun (p : Nat) => ((.inl (p : Int) : Key), g p)) (.inl (p : Int)) = some (g p)
  | [], h => nomatch h
  | q :: ps, h => by
    unfold valT
    rw [List.map_cons, List.find?_cons]
    by_cases e : q = p
    · subst e; simp
    · have h2 : p ∈ ps := (List.mem_cons.mp h).resolve_left fun z => e z.symm
      have ne : ¬ ((.inl (q : Int) : Key) = .inl (p : Int)) := fun z => e (by have : (q : Int) = p := Sum.inl.inj z; omega)
      simp only [ne, decide_false]
      exact valT_map h2
theorem rchK_at {wd : Int} {ws : List Int} {p : Nat} (h : p ∈ rch wd ws) : valT (rchK wd ws) (.inl (p : Int)) = some (.int (tl ws p)) := valT_map (g := fun p => .int (tl ws p)) h
abbrev enP1 (ws : List Int) (p : Nat) : D := .tuple [.int (p : Int), .int (tl ws p)]
theorem items_eq (wd : Int) (ws : List Int) : (rchK wd ws).map (fun p => PyData.tuple [kD p.1, p.2]) = (rch wd ws).map (enP1 ws) := by
  unfold rchK
  rw [List.map_map]; rfl
theorem rch_le {wd : Int} {ws : List Int} {p : Nat} (h : p ∈ rch wd ws) : p ≤ ws.length := by
  unfold rch at h
  have := List.mem_range.mp (List.mem_filter.mp h).1
  omega
theorem rch_len (wd : Int) (ws : List Int) : (rch wd ws).length ≤ ws.length + 1 := by
  unfold rch
  exact Nat.le_trans (List.length_filter_le _ _) (by rw [List.length_range]; omega)
theorem fit_len (wd : Int) (ws : List Int) (u : Int) : (fit wd ws u).length ≤ ws.length + 1 := by
  unfold fit
  exact Nat.le_trans (List.length_filter_le _ _) (by rw [List.length_range]; omega)
theorem tl_bd {wd : Int} {ws : List Int} (W : Wd wd ws) {p : Nat} (h : p ≤ ws.length) : -1000000001001 ≤ tl ws p ∧ tl ws p ≤ 1000000001000 := ln_bd W h (Nat.le_refl _)
/-- the fields of such an instance: its table at a, its dict at d -/
abbrev goF (aT : Addr) (wd : Int) (ws : List Int) (a pc pb d : Addr) : List (Str × T) := [("most", .va (.int wd)), ("table", .ins a aT (tabF wd ws ws.length pc pb)), ("reaches", .fdc d (rchK wd ws))]
def spGInit (aG aT : Addr) : Spc := fun ts QT _ => ∃ (g : Addr) (wd : Int) (ws : List Int), ts = [.ins g aG [], .va (.int wd), .va (.tuple (iDs ws))] ∧ Wd wd ws ∧ ∀ a pc pb d, QT (.va .none) [some (.ins g aG (goF aT wd ws a pc pb d)), none, none]
def spRoom (aG aT : Addr) : Spc := fun ts QT _ => ∃ (g : Addr) (wd : Int) (ws : List Int) (a pc pb d : Addr) (u : Int), ts = [.ins g aG (goF aT wd ws a pc pb d), .va (.int u)] ∧ QT (.va (.int (wd - 1 - u))) [some (.ins g aG (goF aT wd ws a pc pb d)), none]
def spFitting (aG aT : Addr) : Spc := fun ts QT _ => ∃ (g : Addr) (wd : Int) (ws : List Int) (a pc pb d : Addr) (u : Int), ts = [.ins g aG (goF aT wd ws a pc pb d), .va (.int u)] ∧ Wd wd ws ∧ 1 ≤ u ∧ u ≤ wd ∧ ∀ p, QT (.lst p (nDs (fit wd ws u))) [some (.ins g aG (goF aT wd ws a pc pb d)), none]
def spCca (aG aT : Addr) : Spc := fun ts QT _ => ∃ (g : Addr) (wd : Int) (ws : List Int) (a pc pb d : Addr) (u : Int) (q : Nat), ts = [.ins g aG (goF aT wd ws a pc pb d), .va (.int (q : Int)), .va (.int u)] ∧ Wd wd ws ∧ 1 ≤ u ∧ u ≤ wd ∧ Fits wd ws u q ∧ QT (.va (.int (cc wd ws u q))) [some (.ins g aG (goF aT wd ws a pc pb d)), none, none]
def spGStart (f : Int → List Int → Int → Nat) (aG aT : Addr) : Spc := fun ts QT _ => ∃ (g : Addr) (wd : Int) (ws : List Int) (a pc pb d : Addr) (u : Int), ts = [.ins g aG (goF aT wd ws a pc pb d), .va (.int u)] ∧ Wd wd ws ∧ 1 ≤ u ∧ u ≤ wd ∧ QT (.va (.int (f wd ws u : Int))) [some (.ins g aG (goF aT wd ws a pc pb d)), none]
def spGLast (f : Int → List Int → Nat → Int) (aG aT : Addr) : Spc := fun ts QT _ => ∃ (g : Addr) (wd : Int) (ws : List Int) (a pc pb d : Addr) (q : Nat), ts = [.ins g aG (goF aT wd ws a pc pb d), .va (.int (q : Int))] ∧ Wd wd ws ∧ q ∈ rch wd ws ∧ QT (.va (.int (f wd ws q))) [some (.ins g aG (goF aT wd ws a pc pb d)), none]
abbrev enR (r : Int × Int × Nat) : D := .tuple [.int r.1, .int r.2.1, .int (r.2.2 : Int)]
/-- the start of a word, by the kind -/
noncomputable def stF (b : Bool) (wd : Int) (ws : List Int) (u : Int) : Nat := if b = true then cls wd ws u else opn wd ws u
def spRanges (aG aT : Addr) : Spc := fun ts QT _ => ∃ (g : Addr) (wd : Int) (ws : List Int) (a pc pb d : Addr) (b : Bool), ts = [.ins g aG (goF aT wd ws a pc pb d), .va (.bool b)] ∧ Wd wd ws ∧ ∀ rs, Rgs wd (stF b wd ws) rs (wd + 1) → QT (.va (.tuple (rs.map enR))) [some (.ins g aG (goF aT wd ws a pc pb d)), none]
def spRgs (f : Int → List Int → Int → Nat) : Spc := fun ts QT _ => ∃ (wd : Int) (ws : List Int), ts = [.va (.int wd), .va (.tuple (iDs ws))] ∧ Wd wd ws ∧ ∀ rs, Rgs wd (f wd ws) rs (wd + 1) → rs.length ≤ ws.length + 1 → QT (.va (.tuple (rs.map enR))) [none, none]
def spStarts : Spc := fun ts QT _ => ∃ (wd : Int) (ws : List Int), ts = [.va (.int wd), .va (.tuple (iDs ws))] ∧ Wd wd ws ∧ QT (.va (.tuple (nDs (stL wd ws)))) [none, none]
theorem rgs_len {wd : Int} {f : Int → Nat} {rs : List (Int × Int × Nat)} {n : Nat} (h : Rgs wd f rs (wd + 1)) (hf : ∀ u, u ≤ wd → f u ≤ n) : rs.length ≤ n + 1 := by
  rcases h.last with e | ⟨rs0, r, e, _⟩
  · rw [e]; exact Nat.zero_le _
  · have : ∀ {lo : Int} {rs}, Rgs wd f rs lo → rs.length ≤ n + 1 := fun {lo rs} h => by
      cases h with
      | nil => exact Nat.zero_le _
      | @snoc rs lo hi h1 h2 h3 h4 h5 =>
        have a := h1.len (by omega)
        have b := hf lo (by omega)
        rw [List.length_append, List.length_singleton]; omega
    exact this h
theorem range_nat (n : Nat) : rangeD 0 (((n : Int) + 1)).toNat = (List.range (n + 1)).map fun (p : Nat) => PyData.int (p : Int) := by
  unfold rangeD
  rw [show ((n : Int) + 1).toNat = n + 1 by omega]
  refine List.map_congr_left fun x _ => ?_
  rw [Int.zero_add]
section
variable {P : Program} {w : World} {K : PySem.W.Frag} {mg : Str → Option Value} {base : Heap} {Tq : List (Addr × Str)}
abbrev N_Goers_room : List Str := ["self", "word"]
theorem sc_Goers_room : FnScope N_Goers_room ["self", "word"] (defScope (inClass (topS 24) 1)) := ⟨rfl, rfl, rfl, by decide +kernel, rfl, by decide +kernel, by decide +kernel⟩
theorem g_Goers_room {f : Addr} {fd : FuncData} {k : Nat} {aGoers : Addr} {aTable : Addr} (Fn : Fun K "room" "Goers.room" (inClass (topS 24) 1) f fd) (TX : Txt_Goers K aGoers) : FnG P w K mg base Tq (k + 1) f fd ["self", "word"] (spRoom aGoers aTable) := by
  refine fn_g Fn sc_Goers_room (fun ts Q E h => ?_) fun cdv A outer s H E Z ts QT ET hr hgd hp tk h => ?_
  · obtain ⟨g, wd, ws, a, pc, pb, d, u, rfl, q⟩ := h; rfl
  · obtain ⟨g, wd, ws, a, pc, pb, d, u, rfl, q⟩ := h
    -- line 107
    refine wss_one (ws_ret (w_bin dop_sub (w_bin dop_sub (w_fld (w_var 0 ⟨rfl, ⟨TX.cl, TX.n_most⟩, (w_int ⟨rfl, rfl, (w_var 1 ⟨rfl, rfl, ?_⟩)⟩)⟩)))))
    exact ⟨rfl, q⟩
abbrev N_Goers_fitting : List Str := ["self", "word", "place", "length"]
theorem sc_Goers_fitting : FnScope N_Goers_fitting ["self", "word"] (defScope (inClass (topS 24) 2)) := ⟨rfl, rfl, rfl, by decide +kernel, rfl, by decide +kernel, by decide +kernel⟩
theorem g_Goers_fitting {f : Addr} {fd : FuncData} {k : Nat} {aGoers : Addr} {aTable : Addr} (Fn : Fun K "fitting" "Goers.fitting" (inClass (topS 24) 2) f fd) (TX : Txt_Goers K aGoers) (M_room : Mf P w K mg base Tq k aGoers "room" ["self", "word"] (spRoom aGoers aTable)) : FnG P w K mg base Tq (k + 1) f fd ["self", "word"] (spFitting aGoers aTable) := by
  refine fn_g Fn sc_Goers_fitting (fun ts Q E h => ?_) fun cdv A outer s H E Z ts QT ET hr hgd hp tk h => ?_
  · obtain ⟨g, wd, ws, a, pc, pb, d, u, rfl, W, h1, h2, q⟩ := h; rfl
  · obtain ⟨g, wd, ws, a, pc, pb, d, u, rfl, W, h1, h2, q⟩ := h
    have hlen := W.len
    have hrl := rch_len wd ws
    -- line 110
    refine wss_one (ws_ret (w_lcIf (own := [("place", 2), ("length", 3)]) rfl sc_Goers_fitting.nd (blkOk_by (N := N_Goers_fitting) (sc := defScope (inClass (topS 24) 2)) (by decide +kernel)) (fun _ _ _ _ _ => pg_tup (by rfl) (pgs_cons (pg_name (i := 2) sc_Goers_fitting.nd rfl (by first | exact Or.inl rfl | exact Or.inr rfl)) (pgs_cons (pg_name (i := 3) sc_Goers_fitting.nd rfl (by first | exact Or.inl rfl | exact Or.inr rfl)) (pgs_nil)))) (gok_tup (gsok_cons (gok_name 2) (gsok_cons (gok_name 3) (gsok_nil)))) (by decide) (wi_items (w_fld (w_var 0 ⟨rfl, ⟨TX.cl, TX.n_reaches⟩, ⟨rfl, (lc_filt fm_tup2 (enP1 ws) (rch wd ws) (fun p => decide (tl ws p ≤ wd - 1 - u)) (fun (p : Nat) => PyData.int (p : Int)) _ rfl (items_eq wd ws) (by simp only [sizeLine_eq]; omega) (fun k2 x hx => by skip; exact ⟨rfl, ⟨Nat.lt_of_sub_eq_succ rfl, ⟨Nat.lt_of_sub_eq_succ rfl, ⟨rfl, fun s2 H2 C2 cl2 fp2 => (wt_cmp dop_le (w_var 3 (w_meth M_room hr hgd (w_var 0 ⟨⟨rfl, rfl, rfl⟩, ⟨rfl, (w_var 1 ⟨rfl, ⟨g, wd, ws, a, pc, pb, d, u, rfl, ⟨rfl, rfl, ⟨rfl, rfl, _, rfl, ⟨rfl, fun ht s3 H3 C3 cl3 fp3 => (w_var 2 ⟨rfl, rfl⟩), fun ht => rfl⟩⟩⟩⟩⟩)⟩⟩))))⟩⟩⟩⟩) (fun p1 => ?_))⟩⟩)))))
    have e := fit_rch (ws := ws) h1 h2
    rw [e]; exact ⟨rfl, q _⟩
abbrev N_Goers_closed_cost_at : List Str := ["self", "place", "word", "rest"]
theorem sc_Goers_closed_cost_at : FnScope N_Goers_closed_cost_at ["self", "place", "word"] (defScope (inClass (topS 24) 3)) := ⟨rfl, rfl, rfl, by decide +kernel, rfl, by decide +kernel, by decide +kernel⟩
theorem g_Goers_closed_cost_at {f : Addr} {fd : FuncData} {k : Nat} {aGoers : Addr} {aTable : Addr} (Fn : Fun K "closed_cost_at" "Goers.closed_cost_at" (inClass (topS 24) 3) f fd) (TX_Table : Txt_Table K aTable) (TX : Txt_Goers K aGoers) (M_room : Mf P w K mg base Tq k aGoers "room" ["self", "word"] (spRoom aGoers aTable)) : FnG P w K mg base Tq (k + 1) f fd ["self", "place", "word"] (spCca aGoers aTable) := by
  refine fn_g Fn sc_Goers_closed_cost_at (fun ts Q E h => ?_) fun cdv A outer s H E Z ts QT ET hr hgd hp tk h => ?_
  · obtain ⟨g, wd, ws, a, pc, pb, d, u, p, rfl, W, h1, h2, hf, q⟩ := h; rfl
  · obtain ⟨g, wd, ws, a, pc, pb, d, u, p, rfl, W, h1, h2, hf, q⟩ := h
    have hr2 := rchK_at (fits_rch W h1 hf)
    have tb := tl_bd W hf.1
    have w1 := W.w1
    have w2 := W.w2
    -- line 113
    refine wss_cons (ws_set 3 (w_bin dop_sub (w_meth M_room hr hgd (w_var 0 ⟨⟨rfl, rfl, rfl⟩, ⟨rfl, (w_var 2 ⟨rfl, ⟨g, wd, ws, a, pc, pb, d, u, rfl, ⟨rfl, rfl, (w_dix (by first | exact lt1 (room64 hr) | (have := room64 hr; omega)) (w_fld (w_var 0 ⟨rfl, ⟨TX.cl, TX.n_reaches⟩, (w_var 1 ⟨rfl, rfl, _, .inl _, _, rfl, rfl, hr2, ⟨rfl, rfl, ⟨Nat.lt_of_sub_eq_succ rfl, ?_⟩⟩⟩)⟩)))⟩⟩⟩)⟩⟩))) sc_Goers_closed_cost_at.nd)
    -- line 114
    refine wss_one (ws_ret (w_bin dop_add (w_ix (w_fld (w_fld (w_var 0 ⟨rfl, ⟨TX.cl, TX.n_table⟩, ⟨rfl, ⟨TX_Table.cl, TX_Table.n_costs⟩, (w_var 1 ⟨rfl, rfl, _, (csL_at hf.1), (w_bin dop_mul (w_var 3 (w_var 3 ⟨rfl, rfl, (by first | exact cmul_l (by omega) (by omega) | exact cmul_r (by omega) (by omega)), ⟨rfl, rfl, ?_⟩⟩)))⟩)⟩⟩))))))
    exact ⟨rfl, q⟩
abbrev N_Goers_closing_start : List Str := ["self", "word", "place"]
theorem sc_Goers_closing_start : FnScope N_Goers_closing_start ["self", "word"] (defScope (inClass (topS 24) 4)) := ⟨rfl, rfl, rfl, by decide +kernel, rfl, by decide +kernel, by decide +kernel⟩
theorem g_Goers_closing_start {f : Addr} {fd : FuncData} {k : Nat} {aGoers : Addr} {aTable : Addr} (Fn : Fun K "closing_start" "Goers.closing_start" (inClass (topS 24) 4) f fd) (M_closed_cost_at : Mf P w K mg base Tq k aGoers "closed_cost_at" ["self", "place", "word"] (spCca aGoers aTable)) (M_fitting : Mf P w K mg base Tq k aGoers "fitting" ["self", "word"] (spFitting aGoers aTable)) (m_min : mg "min" = none) : FnG P w K mg base Tq (k + 1) f fd ["self", "word"] (spGStart cls aGoers aTable) := by
  refine fn_g Fn sc_Goers_closing_start (fun ts Q E h => ?_) fun cdv A outer s H E Z ts QT ET hr hgd hp tk h => ?_
  · obtain ⟨g, wd, ws, a, pc, pb, d, u, rfl, W, h1, h2, q⟩ := h; rfl
  · obtain ⟨g, wd, ws, a, pc, pb, d, u, rfl, W, h1, h2, q⟩ := h
    have hu := room110 hr
    have hlen := W.len
    have hfl := fit_len wd ws u
    obtain ⟨x, xs, m1, m2, m3, m4, m5⟩ := min_pairs (f := cc wd ws u) (fit_ne (wd := wd) (ws := ws) (u := u) h2)
    have e2 := (cls_is (ws := ws) h2).1
    -- line 117
    refine wss_one (ws_ret (w_bin dop_mul (w_ix (w_callB (dc_minL rfl hu) m_min rfl ⟨rfl, (w_lc (own := [("place", 2)]) rfl sc_Goers_closing_start.nd (blkOk_by (N := N_Goers_closing_start) (sc := defScope (inClass (topS 24) 4)) (by decide +kernel)) (fun _ _ _ _ _ => pg_name (i := 2) sc_Goers_closing_start.nd rfl (by first | exact Or.inl rfl | exact Or.inr rfl)) (gok_name 2) (by decide) (wi_list (w_meth M_fitting hr hgd (w_var 0 ⟨⟨rfl, rfl, rfl⟩, ⟨rfl, (w_var 1 ⟨rfl, ⟨g, wd, ws, a, pc, pb, d, u, rfl, W, h1, h2, fun p_1 => ⟨rfl, rfl, (lc_map fm_name (fun (b : Nat) => PyData.int b) (fit wd ws u) (fun (b : Nat) => PyData.tuple [.int (cc wd ws u b), .int (-(b : Int))]) _ rfl (rfl) (by simp only [sizeLine_eq]; omega) (fun k2 b hx => by have hm := fit_mem.mp (List.mem_of_getElem? hx); exact ⟨Nat.lt_of_sub_eq_succ rfl, fun s2 H2 C2 cl2 fp2 => (w_tup ⟨rfl, (w_meth M_closed_cost_at hr hgd (w_var 0 ⟨⟨rfl, rfl, rfl⟩, ⟨rfl, (w_var 2 ⟨rfl, (w_var 1 ⟨rfl, ⟨g, wd, ws, a, pc, pb, d, u, b, rfl, W, h1, h2, hm, ⟨rfl, rfl, ⟨rfl, (w_bin dop_sub (w_int (w_var 2 ⟨rfl, rfl, ⟨(by first | decide | (simp only [List.length_append, List.length_map, List.length_cons, List.length_nil, List.length_singleton, List.length_replicate, List.length_range, List.length_take, List.length_drop, List.length_dropLast, List.length_reverse, Bool.false_eq_true, eq_self, reduceIte, sizeLine_eq]; omega)), ⟨by rw [Int.zero_sub], rfl⟩⟩⟩)))⟩⟩⟩⟩)⟩)⟩⟩))⟩)⟩) (fun p1 => ⟨rfl, ⟨_, _, _, (.inl (congrArg (fun z => [PyData.list z]) m1)), m3, m4, m5, (m2.trans (congrArg pD e2)), (w_int ⟨rfl, rfl, _, rfl, (w_neg (w_int ⟨rfl, ⟨rfl, rfl, (by first | exact cmul_l (by omega) (by omega) | exact cmul_r (by omega) (by omega)), ?_⟩⟩))⟩)⟩⟩))⟩⟩⟩)⟩⟩))))⟩))))
    refine ⟨rfl, ?_⟩
    show QT (.va (.int (-(cls wd ws u : Int) * -1))) _
    rw [show -(cls wd ws u : Int) * -1 = (cls wd ws u : Int) by omega]; exact q
abbrev N_Goers_open_start : List Str := ["self", "word", "place"]
theorem sc_Goers_open_start : FnScope N_Goers_open_start ["self", "word"] (defScope (inClass (topS 24) 5)) := ⟨rfl, rfl, rfl, by decide +kernel, rfl, by decide +kernel, by decide +kernel⟩
theorem g_Goers_open_start {f : Addr} {fd : FuncData} {k : Nat} {aGoers : Addr} {aTable : Addr} (Fn : Fun K "open_start" "Goers.open_start" (inClass (topS 24) 5) f fd) (TX_Table : Txt_Table K aTable) (TX : Txt_Goers K aGoers) (M_fitting : Mf P w K mg base Tq k aGoers "fitting" ["self", "word"] (spFitting aGoers aTable)) (m_min : mg "min" = none) : FnG P w K mg base Tq (k + 1) f fd ["self", "word"] (spGStart opn aGoers aTable) := by
  refine fn_g Fn sc_Goers_open_start (fun ts Q E h => ?_) fun cdv A outer s H E Z ts QT ET hr hgd hp tk h => ?_
  · obtain ⟨g, wd, ws, a, pc, pb, d, u, rfl, W, h1, h2, q⟩ := h; rfl
  · obtain ⟨g, wd, ws, a, pc, pb, d, u, rfl, W, h1, h2, q⟩ := h
    have hu := room110 hr
    have hlen := W.len
    have hfl := fit_len wd ws u
    obtain ⟨x, xs, m1, m2, m3, m4, m5⟩ := min_pairs (f := C wd ws) (fit_ne (wd := wd) (ws := ws) (u := u) h2)
    have e2 := (opn_is (ws := ws) h2).1
    -- line 120
    refine wss_one (ws_ret (w_bin dop_mul (w_ix (w_callB (dc_minL rfl hu) m_min rfl ⟨rfl, (w_lc (own := [("place", 2)]) rfl sc_Goers_open_start.nd (blkOk_by (N := N_Goers_open_start) (sc := defScope (inClass (topS 24) 5)) (by decide +kernel)) (fun _ _ _ _ _ => pg_name (i := 2) sc_Goers_open_start.nd rfl (by first | exact Or.inl rfl | exact Or.inr rfl)) (gok_name 2) (by decide) (wi_list (w_meth M_fitting hr hgd (w_var 0 ⟨⟨rfl, rfl, rfl⟩, ⟨rfl, (w_var 1 ⟨rfl, ⟨g, wd, ws, a, pc, pb, d, u, rfl, W, h1, h2, fun p_1 => ⟨rfl, rfl, (lc_map fm_name (fun (b : Nat) => PyData.int b) (fit wd ws u) (fun (b : Nat) => PyData.tuple [.int (C wd ws b), .int (-(b : Int))]) _ rfl (rfl) (by simp only [sizeLine_eq]; omega) (fun k2 b hx => by have hm := fit_mem.mp (List.mem_of_getElem? hx); exact ⟨Nat.lt_of_sub_eq_succ rfl, fun s2 H2 C2 cl2 fp2 => (w_tup ⟨rfl, (w_ix (w_fld (w_fld (w_var 0 ⟨rfl, ⟨TX.cl, TX.n_table⟩, ⟨rfl, ⟨TX_Table.cl, TX_Table.n_costs⟩, (w_var 2 ⟨rfl, rfl, _, (csL_at hm.1), ⟨rfl, (w_bin dop_sub (w_int (w_var 2 ⟨rfl, rfl, ⟨(by first | decide | (simp only [List.length_append, List.length_map, List.length_cons, List.length_nil, List.length_singleton, List.length_replicate, List.length_range, List.length_take, List.length_drop, List.length_dropLast, List.length_reverse, Bool.false_eq_true, eq_self, reduceIte, sizeLine_eq]; omega)), ⟨by rw [Int.zero_sub], rfl⟩⟩⟩)))⟩⟩)⟩⟩))))⟩)⟩) (fun p1 => ⟨rfl, ⟨_, _, _, (.inl (congrArg (fun z => [PyData.list z]) m1)), m3, m4, m5, (m2.trans (congrArg pD e2)), (w_int ⟨rfl, rfl, _, rfl, (w_neg (w_int ⟨rfl, ⟨rfl, rfl, (cmul_r (by decide) (by decide)), ?_⟩⟩))⟩)⟩⟩))⟩⟩⟩)⟩⟩))))⟩))))
    refine ⟨rfl, ?_⟩
    show QT (.va (.int (-(opn wd ws u : Int) * -1))) _
    rw [show -(opn wd ws u : Int) * -1 = (opn wd ws u : Int) by omega]; exact q
abbrev N_Goers_last_fitting : List Str := ["self", "place"]
theorem sc_Goers_last_fitting : FnScope N_Goers_last_fitting ["self", "place"] (defScope (inClass (topS 24) 6)) := ⟨rfl, rfl, rfl, by decide +kernel, rfl, by decide +kernel, by decide +kernel⟩
theorem g_Goers_last_fitting {f : Addr} {fd : FuncData} {k : Nat} {aGoers : Addr} {aTable : Addr} (Fn : Fun K "last_fitting" "Goers.last_fitting" (inClass (topS 24) 6) f fd) (TX : Txt_Goers K aGoers) (m_min : mg "min" = none) : FnG P w K mg base Tq (k + 1) f fd ["self", "place"] (spGLast lfit aGoers aTable) := by
  refine fn_g Fn sc_Goers_last_fitting (fun ts Q E h => ?_) fun cdv A outer s H E Z ts QT ET hr hgd hp tk h => ?_
  · obtain ⟨g, wd, ws, a, pc, pb, d, p, rfl, W, hpr, q⟩ := h; rfl
  · obtain ⟨g, wd, ws, a, pc, pb, d, p, rfl, W, hpr, q⟩ := h
    have hr2 := rchK_at hpr
    -- line 123
    refine wss_one (ws_ret (w_callB (dc_min2 rfl) m_min rfl ⟨rfl, (w_fld (w_var 0 ⟨rfl, ⟨TX.cl, TX.n_most⟩, ⟨rfl, (w_bin dop_sub (w_bin dop_sub (w_fld (w_var 0 ⟨rfl, ⟨TX.cl, TX.n_most⟩, (w_int ⟨rfl, rfl, (w_dix (by first | exact lt1 (room64 hr) | (have := room64 hr; omega)) (w_fld (w_var 0 ⟨rfl, ⟨TX.cl, TX.n_reaches⟩, (w_var 1 ⟨rfl, rfl, _, .inl _, _, rfl, rfl, hr2, ⟨rfl, rfl, ⟨rfl, ⟨rfl, ?_⟩⟩⟩⟩)⟩)))⟩)⟩))))⟩⟩))⟩))
    exact ⟨rfl, q⟩
abbrev N_Goers_last_closing : List Str := ["self", "place", "own", "paid", "found", "other", "length", "gain"]
theorem sc_Goers_last_closing : FnScope N_Goers_last_closing ["self", "place"] (defScope (inClass (topS 24) 7)) := ⟨rfl, rfl, rfl, by decide +kernel, rfl, by decide +kernel, by decide +kernel⟩
theorem g_Goers_last_closing {f : Addr} {fd : FuncData} {k : Nat} {aGoers : Addr} {aTable : Addr} (Fn : Fun K "last_closing" "Goers.last_closing" (inClass (topS 24) 7) f fd) (TX_Table : Txt_Table K aTable) (TX : Txt_Goers K aGoers) (M_last_fitting : Mf P w K mg base Tq k aGoers "last_fitting" ["self", "place"] (spGLast LM.lfit aGoers aTable)) (m_min : mg "min" = none) : FnG P w K mg base Tq (k + 1) f fd ["self", "place"] (spGLast lclo aGoers aTable) := by
  refine fn_g Fn sc_Goers_last_closing (fun ts Q E h => ?_) fun cdv A outer s H E Z ts QT ET hr hgd hp tk h => ?_
  · obtain ⟨g, wd, ws, a, pc, pb, d, p, rfl, W, hpr, q⟩ := h; rfl
  · obtain ⟨g, wd, ws, a, pc, pb, d, p, rfl, W, hpr, q⟩ := h
    have hr2 := rchK_at hpr
    have hpl := rch_le hpr
    have tb := tl_bd W hpl
    -- line 126
    refine wss_cons (ws_par3 2 3 4 rfl sc_Goers_last_closing.nd ⟨rfl, (w_dix (by first | exact lt1 (room64 hr) | (have := room64 hr; omega)) (w_fld (w_var 0 ⟨rfl, ⟨TX.cl, TX.n_reaches⟩, (w_var 1 ⟨rfl, rfl, _, .inl _, _, rfl, rfl, hr2, ⟨rfl, (w_ix (w_fld (w_fld (w_var 0 ⟨rfl, ⟨TX.cl, TX.n_table⟩, ⟨rfl, ⟨TX_Table.cl, TX_Table.n_costs⟩, (w_var 1 ⟨rfl, rfl, _, (csL_at hpl), ⟨rfl, (w_meth M_last_fitting hr hgd (w_var 0 ⟨⟨rfl, rfl, rfl⟩, ⟨rfl, (w_var 1 ⟨rfl, ⟨g, wd, ws, a, pc, pb, d, p, rfl, W, hpr, ⟨rfl, rfl, ⟨_, _, _, rfl, Nat.lt_of_sub_eq_succ rfl, Nat.lt_of_sub_eq_succ rfl, Nat.lt_of_sub_eq_succ rfl, ?_⟩⟩⟩⟩)⟩⟩))⟩⟩)⟩⟩))))⟩⟩)⟩)))⟩)
    -- line 127
    refine wss_cons (ws_for hp rfl (pg_tup (by rfl) (pgs_cons (pg_name (i := 5) sc_Goers_last_closing.nd rfl (by first | exact Or.inl rfl | exact Or.inr rfl)) (pgs_cons (pg_name (i := 6) sc_Goers_last_closing.nd rfl (by first | exact Or.inl rfl | exact Or.inr rfl)) (pgs_nil)))) (gok_tup (gsok_cons (gok_name 5) (gsok_cons (gok_name 6) (gsok_nil)))) (wi_items (w_fld (w_var 0 ⟨rfl, ⟨TX.cl, TX.n_reaches⟩, ⟨rfl, ?_⟩⟩))))
    rw [items_eq]
    refine ⟨fun k e => ∃ o5 o6 o7, e = [some (.ins g aGoers (goF aTable wd ws a pc pb d)), some (.va (.int (p : Int))), some (.va (.int (tl ws p))), some (.va (.int (C wd ws p))), some (.va (.int (((rch wd ws).take k).foldl (lcloF wd ws p) (lfit wd ws p)))), o5, o6, o7], ⟨none, none, none, rfl⟩, ?_, ?_⟩
    · rintro k dd e hd ⟨o5, o6, o7, rfl⟩
      rw [List.getElem?_map, Option.map_eq_some_iff] at hd
      obtain ⟨x, hx, rfl⟩ := hd
      have hxr := List.mem_of_getElem? hx
      have hxl := rch_le hxr
      have tx := tl_bd W hxl
      have tk : (rch wd ws).take (k + 1) = (rch wd ws).take k ++ [x] := by rw [List.take_add_one, hx]; rfl
      refine ⟨rfl, Nat.lt_of_sub_eq_succ rfl, Nat.lt_of_sub_eq_succ rfl, rfl, ?_⟩
      -- line 128
      refine wss_one (ws_if (wt_cmp dop_gt (w_var 5 (w_var 1 ⟨rfl, rfl, _, rfl, ⟨fun h => ?_, fun h => ?_⟩⟩))))
      · have hlt : p < x := by have := of_decide_eq_true h; omega
        have tlt := tl_lt W hlt hxl
        -- line 129
        refine wss_cons (ws_set 7 (w_bin dop_sub (w_bin dop_add (w_bin dop_sub (w_var 3 (w_ix (w_fld (w_fld (w_var 0 ⟨rfl, ⟨TX.cl, TX.n_table⟩, ⟨rfl, ⟨TX_Table.cl, TX_Table.n_costs⟩, (w_var 5 ⟨rfl, rfl, _, (csL_at hxl), ⟨rfl, rfl, (w_bin dop_mul (w_var 2 (w_var 2 ⟨rfl, rfl, (by first | exact cmul_l (by omega) (by omega) | exact cmul_r (by omega) (by omega)), ⟨rfl, rfl, (w_bin dop_mul (w_var 6 (w_var 6 ⟨rfl, rfl, (by first | exact cmul_l (by omega) (by omega) | exact cmul_r (by omega) (by omega)), ⟨rfl, rfl, ⟨Nat.lt_of_sub_eq_succ rfl, ?_⟩⟩⟩)))⟩⟩)))⟩⟩)⟩⟩)))))))) sc_Goers_last_closing.nd)
        -- line 130
        refine wss_one (ws_set 4 (w_callB (dc_min2 rfl) m_min rfl ⟨rfl, (w_var 4 ⟨rfl, (w_bin dop_sub (w_bin dop_sub (w_fld (w_var 0 ⟨rfl, ⟨TX.cl, TX.n_most⟩, (w_int ⟨rfl, rfl, (w_bin dop_fdiv (w_var 7 (w_bin dop_mul (w_int (w_bin dop_sub (w_var 2 (w_var 6 ⟨rfl, rfl, ⟨rfl, rfl, (by first | exact cmul_l (by omega) (by omega) | exact cmul_r (by omega) (by omega)), ⟨rfl, rfl, ⟨by omega, by omega⟩, ⟨rfl, rfl, ⟨rfl, ⟨rfl, ⟨Nat.lt_of_sub_eq_succ rfl, ?_⟩⟩⟩⟩⟩⟩⟩)))))))⟩)⟩))))⟩)⟩) sc_Goers_last_closing.nd)
        refine ⟨some (.va (.int (x : Int))), some (.va (.int (tl ws x))), some (.va (.int (gain wd ws p x))), ?_⟩
        rw [tk, List.foldl_append, List.foldl_cons, List.foldl_nil]
        rw [show lcloF wd ws p (((rch wd ws).take k).foldl (lcloF wd ws p) (lfit wd ws p)) x = min (((rch wd ws).take k).foldl (lcloF wd ws p) (lfit wd ws p)) (wd - 2 - gain wd ws p x / (2 * (tl ws p - tl ws x))) from if_pos hlt]
        rfl
      · have hlt : ¬ p < x := by have := of_decide_eq_false h; omega
        refine wss_nil ⟨some (.va (.int (x : Int))), some (.va (.int (tl ws x))), o7, ?_⟩
        rw [tk, List.foldl_append, List.foldl_cons, List.foldl_nil, show lcloF wd ws p (((rch wd ws).take k).foldl (lcloF wd ws p) (lfit wd ws p)) x = ((rch wd ws).take k).foldl (lcloF wd ws p) (lfit wd ws p) from if_neg hlt]
        rfl
    · rintro e ⟨o5, o6, o7, rfl⟩
      rw [List.length_map, List.take_length]
      -- line 131
      refine wss_one (ws_ret (w_var 4 ?_))
      exact ⟨rfl, q⟩
end
end K92

namespace K92
open PySem PySem.Spec PyProof.Rows L2 QL
open LM
section
variable {P : Program} {w : World} {K : PySem.W.Frag} {mg : Str → Option Value} {base : Heap} {Tq : List (Addr × Str)}
abbrev N_Goers___init__ : List Str := ["self", "width", "text", "sums", "count", "lengths", "place", "length"]
theorem sc_Goers___init__ : FnScope N_Goers___init__ ["self", "width", "text"] (defScope (inClass (topS 24) 0)) := ⟨rfl, rfl, rfl, by decide +kernel, rfl, by decide +kernel, by decide +kernel⟩
theorem g_Goers___init__ {f : Addr} {fd : FuncData} {k : Nat} {aGoers : Addr} {aTable : Addr} (Fn : Fun K "__init__" "Goers.__init__" (inClass (topS 24) 0) f fd) (TX : Txt_Goers K aGoers) (G_length_by : Df P w K mg base Tq k "length_by" ["sums", "begin", "end"] spLenBy) (G_sums_of : Df P w K mg base Tq k "sums_of" ["text"] spSums) (C_Table : Ck P w K mg base Tq k "Table" aTable ["self", "width", "text"] (spInit aTable)) (m_len : mg "len" = none) (m_range : mg "range" = none) : FnG P w K mg base Tq (k + 2) f fd ["self", "width", "text"] (spGInit aGoers aTable) := by
  have G_length_by := G_length_by.mono (Nat.le_succ k)
  have G_sums_of := G_sums_of.mono (Nat.le_succ k)
  refine fn_g Fn sc_Goers___init__ (fun ts Q E h => ?_) fun cdv A outer s H E Z ts QT ET hr hgd hp tk h => ?_
  · obtain ⟨g, wd, ws, rfl, W, q⟩ := h; rfl
  · obtain ⟨g, wd, ws, rfl, W, q⟩ := h
    have hlen := W.len
    have hnl : (iDs ws).length = ws.length := List.length_map _
    -- line 100
    refine wss_cons (ws_fld 0 (w_var 1 ⟨⟨TX.cl, TX.n_most, Nat.lt_of_sub_eq_succ rfl⟩, ?_⟩))
    -- line 101
    refine wss_cons (ws_fld 0 (w_make C_Table hr hgd ⟨rfl, (w_var 1 ⟨rfl, (w_var 2 fun pN1 => ⟨_, wd, ws, rfl, W, fun pc_1 pb_1 => ⟨rfl, rfl, ⟨⟨TX.cl, TX.n_table, Nat.lt_of_sub_eq_succ rfl⟩, ?_⟩⟩⟩)⟩)⟩))
    -- line 102
    refine wss_cons (ws_asg (pg_tup (by rfl) (pgs_cons (pg_name (i := 3) sc_Goers___init__.nd rfl (by first | exact Or.inl rfl | exact Or.inr rfl)) (pgs_cons (pg_name (i := 4) sc_Goers___init__.nd rfl (by first | exact Or.inl rfl | exact Or.inr rfl)) (pgs_nil)))) (gok_tup (gsok_cons (gok_name 3) (gsok_cons (gok_name 4) (gsok_nil)))) (w_tup ⟨rfl, (w_fn G_sums_of hr hgd ⟨rfl, (w_var 2 ⟨_, rfl, (by first | assumption | omega | decide), ⟨rfl, (w_callB dc_len m_len rfl ⟨rfl, (w_var 2 ⟨rfl, ⟨(by first | decide | (simp only [List.length_append, List.length_map, List.length_cons, List.length_nil, List.length_singleton, List.length_replicate, List.length_range, List.length_take, List.length_drop, List.length_dropLast, List.length_reverse, Bool.false_eq_true, eq_self, reduceIte, sizeLine_eq]; omega)), ⟨_, rfl, rfl, ⟨Nat.lt_of_sub_eq_succ rfl, ⟨Nat.lt_of_sub_eq_succ rfl, ⟨rfl, ?_⟩⟩⟩⟩⟩⟩)⟩)⟩⟩)⟩)⟩))
    -- line 103
    refine wss_cons (ws_setLc 5 (own := [("place", 6)]) rfl sc_Goers___init__.nd (blkOk_by (N := N_Goers___init__) (sc := defScope (inClass (topS 24) 0)) (by decide +kernel)) (fun _ _ _ _ _ => pg_name (i := 6) sc_Goers___init__.nd rfl (by first | exact Or.inl rfl | exact Or.inr rfl)) (gok_name 6) (by decide) (wi_range1 m_range ⟨rfl, (w_bin dop_add (w_var 4 (w_int ⟨rfl, rfl, ⟨rfl, ⟨by omega, by omega⟩, ?lc⟩⟩)))⟩))
    case lc =>
      refine lc_map fm_name (fun (p : Nat) => PyData.int (p : Int)) (List.range (ws.length + 1)) (fun p => enP1 ws p) _ rfl ?hd (by rw [List.length_range, sizeLine_eq]; omega) (fun k2 x hx => ?el) (fun pL => ?fin)
      case hd => rw [hnl]; exact range_nat ws.length
      case el =>
        have hxl : x ≤ ws.length := by have := List.mem_range.mp (List.mem_of_getElem? hx); omega
        refine ⟨Nat.lt_of_sub_eq_succ rfl, fun s2 H2 C2 cl2 fp2 => (w_tup ⟨rfl, (w_var 6 ⟨rfl, (w_fn G_length_by hr hgd ⟨rfl, (w_var 3 ⟨rfl, (w_var 6 ⟨rfl, (w_var 4 ⟨ws, x, ws.length, (by rw [hnl]), hxl, (Nat.le_refl _), ⟨(by first | decide | (simp only [List.length_append, List.length_map, List.length_cons, List.length_nil, List.length_singleton, List.length_replicate, List.length_range, List.length_take, List.length_drop, List.length_dropLast, List.length_reverse, Bool.false_eq_true, eq_self, reduceIte, sizeLine_eq]; omega)), ⟨rfl, rfl⟩⟩⟩)⟩)⟩)⟩)⟩)⟩)⟩
      case fin =>
        refine ⟨Nat.lt_of_sub_eq_succ rfl, ?_⟩
        -- line 104
        refine wss_one (ws_fld 0 (w_dcIf (own := [("place", 6), ("length", 7)]) rfl sc_Goers___init__.nd (blkOk_by (N := N_Goers___init__) (sc := defScope (inClass (topS 24) 0)) (by decide +kernel)) (fun _ _ _ _ _ => pg_tup (n := 2) (by rfl) (pgs_cons (pg_name (i := 6) sc_Goers___init__.nd rfl (by first | exact Or.inl rfl | exact Or.inr rfl)) (pgs_cons (pg_name (i := 7) sc_Goers___init__.nd rfl (by first | exact Or.inl rfl | exact Or.inr rfl)) (pgs_nil)))) (gok_tup (gsok_cons (gok_name 6) (gsok_cons (gok_name 7) (gsok_nil)))) (by decide) (wi_list (w_var 5 ⟨rfl, ?dc⟩))))
        case dc =>
          refine dc_filt fm_tup2 (enP1 ws) (List.range (ws.length + 1)) (fun p => decide (p = ws.length ∨ tl ws p ≤ wd - 2)) (fun p => .inl (p : Int)) (fun p => .int (tl ws p)) _ rfl rfl (by rw [List.length_range, sizeLine_eq]; omega) ?nd (fun k2 x hx => ?st) (fun pD => ?fn)
          case nd =>
            rw [List.nodup_iff_pairwise_ne, List.pairwise_map]
            exact (List.pairwise_lt_range).imp fun {a b} h z => by have : (a : Int) = b := Sum.inl.inj z; omega
          case st =>
            refine ⟨rfl, ⟨Nat.lt_of_sub_eq_succ rfl, ⟨Nat.lt_of_sub_eq_succ rfl, ⟨rfl, fun s2 H2 C2 cl2 fp2 => (WW.t (ww_or (wt_cmp (dop_eq (room64 hr)) (w_var 6 (w_var 4 ⟨rfl, rfl, _, rfl, ⟨fun h => (ww_or1 (wt_cmp dop_le (w_var 7 (w_bin dop_sub (w_var 1 (w_int ⟨rfl, rfl, ⟨rfl, rfl, _, rfl, ⟨?t2, fun ht s3 H3 C3 cl3 fp3 => (w_var 6 ⟨rfl, fun s4 H4 C4 cl4 fp4 => (w_var 7 ⟨rfl, rfl⟩)⟩), fun ht => rfl⟩⟩⟩)))))), fun h => ⟨?t1, fun ht s3 H3 C3 cl3 fp3 => (w_var 6 ⟨rfl, fun s4 H4 C4 cl4 fp4 => (w_var 7 ⟨rfl, rfl⟩)⟩), fun ht => rfl⟩⟩⟩)))))⟩⟩⟩⟩
            case t1 =>
              have h := of_decide_eq_true h
              rw [hnl] at h
              exact (decide_eq_true (.inl (by omega))).symm
            case t2 =>
              have h := of_decide_eq_false h
              rw [hnl] at h
              show decide (tl ws x ≤ wd - 2) = decide (x = ws.length ∨ tl ws x ≤ wd - 2)
              by_cases z : tl ws x ≤ wd - 2
              · rw [decide_eq_true z, decide_eq_true (.inr z)]
              · rw [decide_eq_false z, decide_eq_false (by omega)]
          case fn => exact ⟨⟨TX.cl, TX.n_reaches, Nat.lt_of_sub_eq_succ rfl⟩, rfl, q _ _ _ pD⟩
abbrev N_Goers_ranges : List Str := ["self", "is_closing", "found", "low", "start", "high"]
theorem sc_Goers_ranges : FnScope N_Goers_ranges ["self", "is_closing"] (defScope (inClass (topS 24) 8)) := ⟨rfl, rfl, rfl, by decide +kernel, rfl, by decide +kernel, by decide +kernel⟩
theorem g_Goers_ranges {f : Addr} {fd : FuncData} {k : Nat} {aGoers : Addr} {aTable : Addr} (Fn : Fun K "ranges" "Goers.ranges" (inClass (topS 24) 8) f fd) (TX : Txt_Goers K aGoers) (M_closing_start : Mf P w K mg base Tq k aGoers "closing_start" ["self", "word"] (spGStart LM.cls aGoers aTable)) (M_last_closing : Mf P w K mg base Tq k aGoers "last_closing" ["self", "place"] (spGLast LM.lclo aGoers aTable)) (M_last_fitting : Mf P w K mg base Tq k aGoers "last_fitting" ["self", "place"] (spGLast LM.lfit aGoers aTable)) (M_open_start : Mf P w K mg base Tq k aGoers "open_start" ["self", "word"] (spGStart LM.opn aGoers aTable)) (m_tuple : mg "tuple" = none) : FnG P w K mg base Tq (k + 1) f fd ["self", "is_closing"] (spRanges aGoers aTable) := by
  refine fn_g Fn sc_Goers_ranges (fun ts Q E h => ?_) fun cdv A outer s H E Z ts QT ET hr hgd hp tk h => ?_
  · obtain ⟨g, wd, ws, a, pc, pb, d, b, rfl, W, q⟩ := h; rfl
  · obtain ⟨g, wd, ws, a, pc, pb, d, b, rfl, W, q⟩ := h
    have hlen := W.len
    have w1 := W.w1
    have hn : ∀ u, u ≤ wd → stF b wd ws u ≤ ws.length := fun u h => by unfold stF; split; exact cls_le h; exact opn_le h
    -- line 134
    refine wss_cons (ws_par 2 3 rfl sc_Goers_ranges.nd (w_lst ⟨(by first | decide | (simp only [List.length_append, List.length_map, List.length_cons, List.length_nil, List.length_singleton, List.length_replicate, List.length_range, List.length_take, List.length_drop, List.length_dropLast, List.length_reverse, Bool.false_eq_true, eq_self, reduceIte, sizeLine_eq]; omega)), fun p1 => ⟨_, rfl, (w_int ⟨_, rfl, Nat.lt_of_sub_eq_succ rfl, Nat.lt_of_sub_eq_succ rfl, ?_⟩)⟩⟩))
    let Iv : Nat → QL.Env → Prop := fun m en => ∃ (lo : Int) (rs : List (Int × Int × Nat)) (o4 o5 : Option T), m = (wd + 1 - lo).toNat ∧ lo ≤ wd + 1 ∧ Rgs wd (stF b wd ws) rs lo ∧ en = [some (.ins g aGoers (goF aTable wd ws a pc pb d)), some (.va (.bool b)), some (.lst p1 (rs.map enR)), some (.va (.int lo)), o4, o5]
    -- line 135
    refine wss_cons (ws_while Iv (wd + 1 - 1).toNat ⟨1, [], none, none, rfl, by omega, .nil, rfl⟩ ?step hp)
    case step =>
      rintro m en ⟨lo, rs, o4, o5, rfl, hlo, hrg, rfl⟩
      refine (wt_cmp dop_le (w_var 3 (w_fld (w_var 0 ⟨rfl, ⟨TX.cl, TX.n_most⟩, ⟨rfl, rfl, _, rfl, ⟨fun h => ?_, fun h => ?_⟩⟩⟩))))
      · have hle : lo ≤ wd := of_decide_eq_true h
        have h1 := hrg.one
        have hrl := hrg.len hle
        have hfl := hn lo hle
        have rg : lo ≤ (if b = true then lclo wd ws (stF b wd ws lo) else lfit wd ws (stF b wd ws lo)) ∧ (if b = true then lclo wd ws (stF b wd ws lo) else lfit wd ws (stF b wd ws lo)) ≤ wd ∧ (∀ v, lo ≤ v → v ≤ (if b = true then lclo wd ws (stF b wd ws lo) else lfit wd ws (stF b wd ws lo)) → stF b wd ws v = stF b wd ws lo) ∧ ((if b = true then lclo wd ws (stF b wd ws lo) else lfit wd ws (stF b wd ws lo)) + 1 ≤ wd → stF b wd ws lo < stF b wd ws ((if b = true then lclo wd ws (stF b wd ws lo) else lfit wd ws (stF b wd ws lo)) + 1)) := by
          cases b with
          | true => exact cls_range W h1 hle
          | false => exact opn_range W h1 hle
        have hst : stF b wd ws lo ∈ rch wd ws := by
          cases b with
          | true => exact fits_rch W h1 (cls_is hle).2.1
          | false => exact fits_rch W h1 (opn_is hle).2.1
        generalize hhi : (if b = true then lclo wd ws (stF b wd ws lo) else lfit wd ws (stF b wd ws lo)) = hi at rg
        obtain ⟨r1, r2, r3, r4⟩ := rg
        -- line 136
        refine wss_cons (ws_set 4 (WE.to (r0 := .t (.va (.int (stF b wd ws lo : Int)))) (e1 := [some (.ins g aGoers (goF aTable wd ws a pc pb d)), some (.va (.bool b)), some (.lst p1 (rs.map enR)), some (.va (.int lo)), o4, o5]) (w_ifExp (wt_val (w_var 1 ⟨_, rfl, ⟨fun h => (w_meth M_closing_start hr hgd (w_var 0 ⟨⟨rfl, rfl, rfl⟩, ⟨rfl, (w_var 3 ⟨rfl, ⟨g, wd, ws, a, pc, pb, d, lo, rfl, W, h1, hle, ⟨rfl, rfl, ⟨?i1, rfl⟩⟩⟩⟩)⟩⟩)), fun h => (w_meth M_open_start hr hgd (w_var 0 ⟨⟨rfl, rfl, rfl⟩, ⟨rfl, (w_var 3 ⟨rfl, ⟨g, wd, ws, a, pc, pb, d, lo, rfl, W, h1, hle, ⟨rfl, rfl, ⟨?i2, rfl⟩⟩⟩⟩)⟩⟩))⟩⟩))) ⟨Nat.lt_of_sub_eq_succ rfl, ?_⟩) sc_Goers_ranges.nd)
        case i1 => have h : b = true := h; subst h; rfl
        case i2 => have h : b = false := h; subst h; rfl
        -- line 137
        refine wss_cons (ws_set 5 (WE.to (r0 := .t (.va (.int hi))) (e1 := [some (.ins g aGoers (goF aTable wd ws a pc pb d)), some (.va (.bool b)), some (.lst p1 (rs.map enR)), some (.va (.int lo)), some (.va (.int (stF b wd ws lo : Int))), o5]) (w_ifExp (wt_val (w_var 1 ⟨_, rfl, ⟨fun h => (w_meth M_last_closing hr hgd (w_var 0 ⟨⟨rfl, rfl, rfl⟩, ⟨rfl, (w_var 4 ⟨rfl, ⟨g, wd, ws, a, pc, pb, d, stF b wd ws lo, rfl, W, hst, ⟨rfl, rfl, ⟨?i3, rfl⟩⟩⟩⟩)⟩⟩)), fun h => (w_meth M_last_fitting hr hgd (w_var 0 ⟨⟨rfl, rfl, rfl⟩, ⟨rfl, (w_var 4 ⟨rfl, ⟨g, wd, ws, a, pc, pb, d, stF b wd ws lo, rfl, W, hst, ⟨rfl, rfl, ⟨?i4, rfl⟩⟩⟩⟩)⟩⟩))⟩⟩))) ⟨Nat.lt_of_sub_eq_succ rfl, ?_⟩) sc_Goers_ranges.nd)
        case i3 => have h : b = true := h; rw [← hhi, if_pos h]
        case i4 => have h : b = false := h; subst h; rw [← hhi]; rfl
        -- line 138
        refine wss_cons (ws_expr (w_append (w_var 2 ⟨_, _, _, _, rfl, rfl, (w_tup ⟨rfl, (w_var 3 ⟨rfl, (w_var 5 ⟨rfl, (w_var 4 ⟨(by first | decide | (simp only [List.length_append, List.length_map, List.length_cons, List.length_nil, List.length_singleton, List.length_replicate, List.length_range, List.length_take, List.length_drop, List.length_dropLast, List.length_reverse, Bool.false_eq_true, eq_self, reduceIte, sizeLine_eq]; omega)), ⟨_, _, rfl, rfl, (by simp only [List.length_append, List.length_map, List.length_cons, List.length_nil, List.length_singleton, List.length_replicate, List.length_range, List.length_take, List.length_drop, List.length_dropLast, List.length_reverse, Bool.false_eq_true, eq_self, reduceIte, sizeLine_eq]; omega), ?_⟩⟩)⟩)⟩)⟩)⟩)))
        -- line 139
        refine wss_one (ws_set 3 (w_bin dop_add (w_var 5 (w_int ⟨rfl, rfl, ⟨Nat.lt_of_sub_eq_succ rfl, ?_⟩⟩))) sc_Goers_ranges.nd)
        refine ⟨(wd + 1 - (hi + 1)).toNat, by omega, hi + 1, rs ++ [(lo, hi, stF b wd ws lo)], some (.va (.int (stF b wd ws lo : Int))), some (.va (.int hi)), rfl, by omega, .snoc hrg r1 r2 r3 r4, ?_⟩
        rw [List.map_append]; rfl
      · have hle : lo = wd + 1 := by have := of_decide_eq_false h; omega
        subst hle
        show WSs _ _ _ _ _
        -- line 140
        refine wss_one (ws_ret (w_callTy dc_tuple m_tuple rfl ⟨rfl, (w_var 2 ⟨rfl, ?_⟩)⟩))
        exact ⟨rfl, q _ hrg⟩
abbrev N_closing_starts : List Str := ["width", "text"]
theorem sc_closing_starts : FnScope N_closing_starts ["width", "text"] (defScope (topS 25)) := ⟨rfl, rfl, rfl, by decide +kernel, rfl, by decide +kernel, by decide +kernel⟩
theorem g_closing_starts {f : Addr} {fd : FuncData} {k : Nat} {aGoers : Addr} {aTable : Addr} (Fn : Fun K "closing_starts" "closing_starts" (topS 25) f fd) (M_ranges : Mf P w K mg base Tq k aGoers "ranges" ["self", "is_closing"] (spRanges aGoers aTable)) (C_Goers : Ck P w K mg base Tq k "Goers" aGoers ["self", "width", "text"] (spGInit aGoers aTable)) : FnG P w K mg base Tq (k + 2) f fd ["width", "text"] (spRgs cls) := by
  have M_ranges := M_ranges.mono (Nat.le_succ k)
  refine fn_g Fn sc_closing_starts (fun ts Q E h => ?_) fun cdv A outer s H E Z ts QT ET hr hgd hp tk h => ?_
  · obtain ⟨wd, ws, rfl, W, q⟩ := h; rfl
  · obtain ⟨wd, ws, rfl, W, q⟩ := h
    -- line 142
    refine wss_one (ws_ret (w_methT M_ranges hr hgd (w_make C_Goers hr hgd ⟨rfl, (w_var 0 ⟨rfl, (w_var 1 fun pN1 => ⟨_, wd, ws, rfl, W, fun a_1 pc_1 pb_1 d_1 => ⟨rfl, rfl, ⟨⟨rfl, rfl⟩, ⟨rfl, (w_bl ⟨_, wd, ws, _, _, _, _, true, rfl, W, fun rs_2 hrs_2 => ?_⟩)⟩⟩⟩⟩)⟩)⟩)))
    exact q _ hrs_2 (rgs_len hrs_2 fun u h => cls_le h)
abbrev N_open_starts : List Str := ["width", "text"]
theorem sc_open_starts : FnScope N_open_starts ["width", "text"] (defScope (topS 26)) := ⟨rfl, rfl, rfl, by decide +kernel, rfl, by decide +kernel, by decide +kernel⟩
theorem g_open_starts {f : Addr} {fd : FuncData} {k : Nat} {aGoers : Addr} {aTable : Addr} (Fn : Fun K "open_starts" "open_starts" (topS 26) f fd) (M_ranges : Mf P w K mg base Tq k aGoers "ranges" ["self", "is_closing"] (spRanges aGoers aTable)) (C_Goers : Ck P w K mg base Tq k "Goers" aGoers ["self", "width", "text"] (spGInit aGoers aTable)) : FnG P w K mg base Tq (k + 2) f fd ["width", "text"] (spRgs opn) := by
  have M_ranges := M_ranges.mono (Nat.le_succ k)
  refine fn_g Fn sc_open_starts (fun ts Q E h => ?_) fun cdv A outer s H E Z ts QT ET hr hgd hp tk h => ?_
  · obtain ⟨wd, ws, rfl, W, q⟩ := h; rfl
  · obtain ⟨wd, ws, rfl, W, q⟩ := h
    -- line 144
    refine wss_one (ws_ret (w_methT M_ranges hr hgd (w_make C_Goers hr hgd ⟨rfl, (w_var 0 ⟨rfl, (w_var 1 fun pN1 => ⟨_, wd, ws, rfl, W, fun a_1 pc_1 pb_1 d_1 => ⟨rfl, rfl, ⟨⟨rfl, rfl⟩, ⟨rfl, (w_bl ⟨_, wd, ws, _, _, _, _, false, rfl, W, fun rs_2 hrs_2 => ?_⟩)⟩⟩⟩⟩)⟩)⟩)))
    exact q _ hrs_2 (rgs_len hrs_2 fun u h => opn_le h)
abbrev N_starts : List Str := ["width", "text", "both", "low", "high", "start"]
theorem sc_starts : FnScope N_starts ["width", "text"] (defScope (topS 27)) := ⟨rfl, rfl, rfl, by decide +kernel, rfl, by decide +kernel, by decide +kernel⟩
theorem g_starts {f : Addr} {fd : FuncData} {k : Nat} (Fn : Fun K "starts" "starts" (topS 27) f fd) (G_closing_starts : Df P w K mg base Tq k "closing_starts" ["width", "text"] (spRgs LM.cls)) (G_open_starts : Df P w K mg base Tq k "open_starts" ["width", "text"] (spRgs LM.opn)) (m_sorted : mg "sorted" = none) (m_tuple : mg "tuple" = none) : FnG P w K mg base Tq (k + 1) f fd ["width", "text"] spStarts := by
  refine fn_g Fn sc_starts (fun ts Q E h => ?_) fun cdv A outer s H E Z ts QT ET hr hgd hp tk h => ?_
  · obtain ⟨wd, ws, rfl, W, q⟩ := h; rfl
  · obtain ⟨wd, ws, rfl, W, q⟩ := h
    have hu := room110 hr
    have hlen := W.len
    -- line 146
    refine wss_cons (ws_set 2 (w_bin dop_add (w_fn G_closing_starts hr hgd ⟨rfl, (w_var 0 ⟨rfl, (w_var 1 ⟨wd, ws, rfl, W, fun rs_1 hrs_1 hrl_1 => (w_fn G_open_starts hr hgd ⟨rfl, (w_var 0 ⟨rfl, (w_var 1 ⟨wd, ws, rfl, W, fun rs_2 hrs_2 hrl_2 => ⟨rfl, rfl, (by first | decide | (simp only [List.length_append, List.length_map, List.length_cons, List.length_nil, List.length_singleton, List.length_replicate, List.length_range, List.length_take, List.length_drop, List.length_dropLast, List.length_reverse, Bool.false_eq_true, eq_self, reduceIte, sizeLine_eq]; omega)), ⟨Nat.lt_of_sub_eq_succ rfl, ?_⟩⟩⟩)⟩)⟩)⟩)⟩)⟩)) sc_starts.nd)
    -- line 147
    refine wss_one (ws_ret (w_callTy dc_tuple m_tuple rfl ⟨rfl, (w_sortSc (own := [("low", 3), ("high", 4), ("start", 5)]) hu m_sorted rfl sc_starts.nd (blkOk_by (N := N_starts) (sc := defScope (topS 27)) (by decide +kernel)) (fun _ _ _ _ _ => pg_tup (n := 3) (by rfl) (pgs_cons (pg_name (i := 3) sc_starts.nd rfl (by first | exact Or.inl rfl | exact Or.inr rfl)) (pgs_cons (pg_name (i := 4) sc_starts.nd rfl (by first | exact Or.inl rfl | exact Or.inr rfl)) (pgs_cons (pg_name (i := 5) sc_starts.nd rfl (by first | exact Or.inl rfl | exact Or.inr rfl)) (pgs_nil))))) (gok_tup (gsok_cons (gok_name 3) (gsok_cons (gok_name 4) (gsok_cons (gok_name 5) (gsok_nil))))) (by decide) (wi_tup (w_var 2 ?sc)))⟩))
    case sc =>
      rw [← List.map_append]
      refine ⟨by rw [List.length_map, List.length_append]; omega, fun k acc e => e = [some (.va (.int wd)), some (.va (.tuple (iDs ws))), some (.va (.tuple ((rs_1 ++ rs_2).map enR))), none, none, none] ∧ acc = ((rs_1 ++ rs_2).take k).map fun r => (r.2.2 : Int), ⟨rfl, rfl⟩, ?_, ?_⟩
      · rintro k dd acc e hd ⟨rfl, rfl⟩
        rw [List.getElem?_map, Option.map_eq_some_iff] at hd
        obtain ⟨x, hx, rfl⟩ := hd
        have tk : (rs_1 ++ rs_2).take (k + 1) = (rs_1 ++ rs_2).take k ++ [x] := by rw [List.take_add_one, hx]; rfl
        refine ⟨rfl, Nat.lt_of_sub_eq_succ rfl, Nat.lt_of_sub_eq_succ rfl, Nat.lt_of_sub_eq_succ rfl, rfl, fun s2 H2 C2 cl2 fp2 => (w_var 5 ⟨_, rfl, rfl, ?_⟩)⟩
        rw [tk, List.map_append]; rfl
      · rintro acc e ⟨rfl, rfl⟩ ns pS pw mem
        rw [List.length_map, List.take_length] at mem
        have e1 : ns = (stL wd ws).map fun (n : Nat) => (n : Int) := stL_uniq pw fun c => by
          rw [mem, List.mem_map]
          exact ⟨fun ⟨r, hr, e⟩ => ⟨r.2.2, e.symm, (Rgs.starts hrs_1 hrs_2 _).mp ⟨r, hr, rfl⟩⟩, fun ⟨p, e, h⟩ => by obtain ⟨r, hr, e2⟩ := (Rgs.starts hrs_1 hrs_2 p).mpr h; exact ⟨r, hr, by rw [e, e2]⟩⟩
        have e2 : ns.map PyData.int = nDs (stL wd ws) := by rw [e1, List.map_map]; rfl
        rw [e2]
        exact ⟨rfl, q⟩
end
end K92

/-! LJ: starts behind words as long as the width, or single ones. -/
namespace LM
open PySem
theorem Rgs.uniq {wd : Int} {f : Int → Nat} {rs qs : List (Int × Int × Nat)} {lo : Int} (h : Rgs wd f rs lo) (g : Rgs wd f qs lo) : rs = qs := h.runs.trans g.runs.symm
section
variable {wd w : Int} (W : Wd wd [w])
include W
end
end LM

/-! LK: rows of ranges, range by range. -/
namespace LM
open PySem
section
variable {wd : Int} {f : Int → Nat}
/-- the first j ranges, and where the next one begins -/
theorem Rgs.cut {rs : List (Int × Int × Nat)} {hi : Int} (h : Rgs wd f rs hi) : ∀ j, j ≤ rs.length → ∃ lo, Rgs wd f (rs.take j) lo ∧ (∀ r, rs[j]? = some r → r.1 = lo) ∧ (j = rs.length → lo = hi) := by
  induction h with
  | nil => intro j hj; exact ⟨1, by rw [List.take_nil]; exact .nil, fun r h => by simp at h, fun _ => rfl⟩
  | @snoc rs lo hi h1 h2 h3 h4 h5 ih =>
    intro j hj
    rw [List.length_append, List.length_singleton] at hj
    by_cases z : j ≤ rs.length
    · obtain ⟨l, a, b, c⟩ := ih j z
      refine ⟨l, by rw [List.take_append_of_le_length z]; exact a, fun r hr => ?_, fun e => by rw [List.length_append, List.length_singleton] at e; omega⟩
      by_cases y : j < rs.length
      · rw [List.getElem?_append_left y] at hr; exact b r hr
      · have e : j = rs.length := by omega
        rw [List.getElem?_append_right (by omega), e, Nat.sub_self] at hr
        simp at hr
        rw [← hr]
        exact (c e).symm
    · have e : j = (rs ++ [(lo, hi, f lo)]).length := by rw [List.length_append, List.length_singleton]; omega
      refine ⟨hi + 1, ?_, fun r hr => ?_, fun _ => rfl⟩
      · rw [e, List.take_length]
        exact .snoc h1 h2 h3 h4 h5
      · rw [List.getElem?_eq_none (by omega)] at hr
        cases hr
/-- neighbouring ranges: the next one begins behind, with a later start -/
theorem Rgs.next {rs : List (Int × Int × Nat)} {hi : Int} (h : Rgs wd f rs hi) (hh : hi ≤ wd + 1) : ∀ j r q, rs[j]? = some r → rs[j + 1]? = some q → r.2.1 + 1 = q.1 ∧ r.2.2 < q.2.2 := by
  induction h with
  | nil => intro j r q h; simp at h
  | @snoc rs lo hi h1 h2 h3 h4 h5 ih =>
    intro j r q hr hq
    have hj := (List.getElem?_eq_some_iff.mp hq).1
    rw [List.length_append, List.length_singleton] at hj
    rw [List.getElem?_append_left (by omega)] at hr
    by_cases z : j + 1 < rs.length
    · rw [List.getElem?_append_left z] at hq
      exact ih (by omega) j r q hr hq
    · have e : j + 1 = rs.length := by omega
      rw [List.getElem?_append_right (by omega), e, Nat.sub_self] at hq
      simp at hq
      subst hq
      -- the last of rs
      cases h1 with
      | nil => simp at hr
      | @snoc rs0 lo0 hi0 g1 g2 g3 g4 g5 =>
        rw [List.length_append, List.length_singleton] at e
        rw [List.getElem?_append_right (by omega), show j - rs0.length = 0 by omega] at hr
        simp at hr
        subst hr
        exact ⟨rfl, g5 (by omega)⟩
theorem Rgs.ne {rs : List (Int × Int × Nat)} (w1 : 1 ≤ wd) (h : Rgs wd f rs (wd + 1)) : rs ≠ [] := fun e => by
  have k : ∀ {rs : List (Int × Int × Nat)} {hi : Int}, Rgs wd f rs hi → rs = [] → hi = 1 := fun {rs hi} h e => by
    cases h with
    | nil => rfl
    | snoc => simp at e
  have := k h e
  omega
end
end LM

/-! LO: which places the best layouts with all futures have. -/
namespace LM
open PySem
/-- the rows of ends that all futures have, one for each start, and the text's own -/
noncomputable def allE (wd : Int) (ws : List Int) : List (List Nat) := (stL wd ws).map (way wd ws) ++ [bestLay wd ws]
noncomputable def cntE (wd : Int) (ws : List Int) (q : Nat) : Nat := (allE wd ws).countP fun ns => decide (q ∈ ns)
theorem allE_len {wd : Int} {ws : List Int} : (allE wd ws).length = (stL wd ws).length + 1 := by
  unfold allE
  rw [List.length_append, List.length_map, List.length_singleton]
theorem cntE_all {wd : Int} {ws : List Int} {q : Nat} : cntE wd ws q = (allE wd ws).length ↔ (∀ p ∈ stL wd ws, q ∈ way wd ws p) ∧ q ∈ bestLay wd ws := by
  unfold cntE
  rw [List.countP_eq_length]
  unfold allE
  constructor
  · intro h
    refine ⟨fun p hp => ?_, ?_⟩
    · simpa using h (way wd ws p) (List.mem_append_left _ (List.mem_map.mpr ⟨p, hp, rfl⟩))
    · simpa using h (bestLay wd ws) (List.mem_append_right _ (List.mem_singleton.mpr rfl))
  · rintro ⟨a, b⟩ ns hn
    rcases List.mem_append.mp hn with z | z
    · obtain ⟨p, hp, rfl⟩ := List.mem_map.mp z
      simpa using a p hp
    · rw [List.mem_singleton.mp z]; simpa using b
/-- what a number of rows out of all tells -/
def tells (c m : Nat) : Nat := if c = 0 then 0 else if c = m then 2 else 1
theorem Lay.nodup {wd : Int} {ws : List Int} {ns : List Nat} {e : Nat} (c : Lay wd ws ns e) : ns.Nodup := by
  induction c with
  | nil => exact List.nodup_nil
  | snoc c h1 h2 ih =>
    refine List.nodup_append.mpr ⟨ih, List.nodup_cons.mpr ⟨fun z => (nomatch z), List.nodup_nil⟩, fun a ha b hb z => ?_⟩
    rw [List.mem_singleton.mp hb] at z
    have := (c.mem a ha).2
    omega
theorem allE_lay {wd : Int} {ws : List Int} (W : Wd wd ws) : ∀ ns ∈ allE wd ws, ∃ e, Lay wd ws ns e ∧ e ≤ ws.length := fun ns hn => by
  rcases List.mem_append.mp hn with z | z
  · obtain ⟨p, hp, rfl⟩ := List.mem_map.mp z
    have := (stL_mem.mp hp).le
    exact ⟨p, (way_lay W p this).1, this⟩
  · rw [List.mem_singleton.mp z]
    exact ⟨_, (best_lay W).1, Nat.le_refl _⟩
end LM

/-! QTx: a op b op c as a test. -/
namespace QL
open PySem PySem.Spec PyProof.Rows L2
section
variable {Tq : List (Addr × Str)} {Z : Zb Tq} {X : Cx} {env : Env} {a b c : Expr} {pos : Pos}
theorem wt_chain {op op' : CmpOp} {g g' : D → D → (T → Prop) → Prop} {P : Bool → Env → Prop} (ho : DOp X (compareOp op) g) (ho' : DOp X (compareOp op') g')
    (h : WA Z X a env fun a1 e1 => WA Z X b e1 fun a2 e2 => View a1 e2 fun d1 => View a2 e2 fun d2 => g d1 d2 fun t => ∃ k, t = .va (.bool k) ∧ (k = true → WA Z X c e2 fun a3 e3 => View a2 e3 fun d2' => View a3 e3 fun d3 => g' d2' d3 fun t => ∃ k, t = .va (.bool k) ∧ P k e3) ∧ (k = false → P false e2))
    (hm : lastMarks [op, op'] [b, c] = false := by with_unfolding_all rfl) : WT Z X (.Compare a [op, op'] [b, c] pos) env P :=
  wt_of (pt_chain ho.r ho'.r (pe_A (Z := Z)) (pe_A (Z := Z)) (pe_A (Z := Z)) hm) fun σ H F O b0 o => by
    refine ⟨env, F, O, _, b0, o, h, fun v1 H1 ⟨F1, O1, a1, e1, b1, o1, st1, fr1, h1⟩ => ?_⟩
    refine ⟨e1, F1, O1, _, b1, o1, h1, fun v2 H2 ⟨F2, O2, a2, e2, b2, o2, st2, fr2, h2⟩ => ?_⟩
    obtain ⟨d1, w1, h3⟩ := View.vw h2 o2 (st1.mono fr2.fz)
    obtain ⟨d2, w2, h4⟩ := View.vw h3 o2 st2
    refine ⟨F2, d1, d2, _, b2.sub, w1, w2, h4, fun v H3 n => ?_⟩
    obtain ⟨F3, O3, r3, e3, b3, st3, fr3, ee, k, er, hT, hF⟩ := n.post b2 o2 (P := fun r e => e = e2 ∧ ∃ k, r = .t (.va (.bool k)) ∧ (k = true → WA Z X c e2 fun a3 e3 => View a2 e3 fun d2' => View a3 e3 fun d3 => g' d2' d3 fun t => ∃ k, t = .va (.bool k) ∧ P k e3) ∧ (k = false → P false e2))
      fun t ⟨k, e, q⟩ => ⟨rfl, k, by rw [e], q⟩
    subst er ee
    obtain ⟨Oa, Ob, rfl, o3, w3⟩ := st3
    cases w3 with
    | va r =>
      cases r with
      | bl k =>
        rw [List.append_nil] at b3 fr3
        refine ⟨k, rfl, ?_⟩
        cases k with
        | false => exact iteF ⟨false, rfl, F3, Oa, e3, b3, o3, (fr1.trans fr2).trans fr3, hF rfl⟩
        | true =>
          refine iteT ⟨e3, F3, Oa, _, b3, o3, hT rfl, fun v4 H4 ⟨F4, O4, a3, e4, b4, o4, st4, fr4, h5⟩ => ?_⟩
          obtain ⟨d2', w5, h6⟩ := View.vw h5 o4 (st2.mono (fr3.fz.trans fr4.fz))
          obtain ⟨d3, w6, h7⟩ := View.vw h6 o4 st4
          refine ⟨F4, d2', d3, _, b4.sub, w5, w6, h7, fun v H' n => ?_⟩
          obtain ⟨k, F5, O5, e5, rfl, b5, o5, fr5, p⟩ := post_bool (K := P) (n.post b4 o4 (P := fun r e1 => ∃ k, r = .t (.va (.bool k)) ∧ P k e1) fun t ⟨k, e, q⟩ => ⟨k, by rw [e], q⟩)
          exact ⟨k, rfl, F5, O5, e5, b5, o5, (((fr1.trans fr2).trans fr3).trans fr4).trans fr5, p⟩
end
end QL

namespace K92
open PySem PySem.Spec PyProof.Rows L2 QL
open LM
/-- the words for a place -/
def wordS (t : Nat) : Str := if t = 0 then "never" else if t = 2 then "always" else "sometimes"
noncomputable def stS (wd : Int) (ws : List Int) (q : Nat) : Str := wordS (tells (cntE wd ws q) (allE wd ws).length)
noncomputable def cntD (wd : Int) (ws : List Int) : List D := (List.range (ws.length + 1)).map fun (q : Nat) => .int (cntE wd ws q : Int)
noncomputable def stsD (wd : Int) (ws : List Int) : List D := ((List.range (ws.length + 1)).drop 1).map fun (q : Nat) => .str (stS wd ws q)
def spAllEnds : Spc := fun ts QT _ => ∃ (wd : Int) (ws : List Int), ts = [.va (.int wd), .va (.tuple (iDs ws))] ∧ Wd wd ws ∧ ∀ p, QT (.lst p ((allE wd ws).map tN)) [none, none]
def spCounted : Spc := fun ts QT _ => ∃ (wd : Int) (ws : List Int), ts = [.va (.int wd), .va (.tuple (iDs ws))] ∧ Wd wd ws ∧ QT (.va (.tuple [.list (cntD wd ws), .int ((allE wd ws).length : Int)])) [none, none]
def spStates : Spc := fun ts QT _ => ∃ (wd : Int) (ws : List Int), ts = [.va (.int wd), .va (.tuple (iDs ws))] ∧ Wd wd ws ∧ QT (.va (.tuple (stsD wd ws))) [none, none]
theorem ixN_nat {n j : Nat} (h : j < n) : ixN n (j : Int) = some j := by
  unfold ixN
  rw [if_pos (by omega), if_pos (by omega), Int.toNat_natCast]
theorem zeros (k : Nat) : (List.replicate k [PyData.int 0]).flatten = (List.range k).map fun (_ : Nat) => PyData.int ((0 : Nat) : Int) := by
  induction k with
  | zero => rfl
  | succ k ih =>
    rw [List.replicate_succ', List.flatten_append, ih, List.range_succ, List.map_append]
    rfl
theorem set_range {k x : Nat} (hx : x < k) (f : Nat → D) (v : D) : ((List.range k).map f).set x v = (List.range k).map fun q => if q = x then v else f q := by
  refine List.ext_getElem? fun i => ?_
  rw [List.getElem?_set, List.getElem?_map]
  by_cases h : x = i
  · subst h
    simp [hx]
  · rw [if_neg h]
    by_cases hi : i < k
    · simp [List.getElem?_range hi, show ¬ i = x from fun z => h z.symm]
    · rw [List.getElem?_map]
      simp [show ¬ i < k from hi]
theorem word_at {c m : Nat} (hm : m ≠ 0) : (valT [((.inl 0 : Key), PyData.str "never"), (.inl (m : Int), PyData.str "always")] (.inl (c : Int))).getD (.str "sometimes") = PyData.str (wordS (tells c m)) := by
  unfold valT tells wordS
  rw [List.find?_cons, List.find?_cons, List.find?_nil]
  by_cases h0 : c = 0
  · subst h0
    simp
  · have n0 : ¬ ((.inl 0 : Key) = .inl (c : Int)) := fun z => h0 (by have := Sum.inl.inj z; omega)
    simp only [n0, decide_false]
    by_cases h1 : c = m
    · subst h1
      simp [h0]
    · have n1 : ¬ ((.inl (m : Int) : Key) = .inl (c : Int)) := fun z => h1 (by have := Sum.inl.inj z; omega)
      simp [n1, h0, h1]
section
variable {P : Program} {w : World} {K : PySem.W.Frag} {mg : Str → Option Value} {base : Heap} {Tq : List (Addr × Str)}
abbrev N_all_ends : List Str := ["width", "text", "table", "start"]
theorem sc_all_ends : FnScope N_all_ends ["width", "text"] (defScope (topS 32)) := ⟨rfl, rfl, rfl, by decide +kernel, rfl, by decide +kernel, by decide +kernel⟩
theorem g_all_ends {f : Addr} {fd : FuncData} {k : Nat} {aTable : Addr} (Fn : Fun K "all_ends" "all_ends" (topS 32) f fd) (G_best_layout : Df P w K mg base Tq k "best_layout" ["width", "text"] spBest) (G_starts : Df P w K mg base Tq k "starts" ["width", "text"] spStarts) (M_way : Mf P w K mg base Tq k aTable "way" ["self", "place"] (spWay aTable)) (C_Table : Ck P w K mg base Tq k "Table" aTable ["self", "width", "text"] (spInit aTable)) : FnG P w K mg base Tq (k + 2) f fd ["width", "text"] spAllEnds := by
  have G_best_layout := G_best_layout.mono (Nat.le_succ k)
  have G_starts := G_starts.mono (Nat.le_succ k)
  have M_way := M_way.mono (Nat.le_succ k)
  refine fn_g Fn sc_all_ends (fun ts Q E h => ?_) fun cdv A outer s H E Z ts QT ET hr hgd hp tk h => ?_
  · obtain ⟨wd, ws, rfl, W, q⟩ := h; rfl
  · obtain ⟨wd, ws, rfl, W, q⟩ := h
    have hlen := W.len
    have hsl := stL_len wd ws
    -- line 153
    refine wss_cons (ws_set 2 (w_make C_Table hr hgd ⟨rfl, (w_var 0 ⟨rfl, (w_var 1 fun pN1 => ⟨_, wd, ws, rfl, W, fun pc_1 pb_1 => ⟨rfl, rfl, ⟨Nat.lt_of_sub_eq_succ rfl, ?_⟩⟩⟩)⟩)⟩) sc_all_ends.nd)
    -- line 154
    refine wss_one (ws_ret (w_bin dop_add (w_lc (own := [("start", 3)]) rfl sc_all_ends.nd (blkOk_by (N := N_all_ends) (sc := defScope (topS 32)) (by decide +kernel)) (fun _ _ _ _ _ => pg_name (i := 3) sc_all_ends.nd rfl (by first | exact Or.inl rfl | exact Or.inr rfl)) (gok_name 3) (by decide) (wi_tup (w_fn G_starts hr hgd ⟨rfl, (w_var 0 ⟨rfl, (w_var 1 ⟨wd, ws, rfl, W, (lc_map fm_name (fun (p : Nat) => PyData.int (p : Int)) (stL wd ws) (fun p => tN (way wd ws p)) _ rfl (rfl) (by rw [sizeLine_eq]; omega) (fun k2 x hx => by have hs := (stL_mem.mp (List.mem_of_getElem? hx)).le; exact ⟨Nat.lt_of_sub_eq_succ rfl, fun s2 H2 C2 cl2 fp2 => (w_meth M_way hr hgd (w_var 2 ⟨⟨rfl, rfl, rfl⟩, ⟨rfl, (w_var 3 ⟨rfl, ⟨_, wd, ws, _, _, x, rfl, W, hs, ⟨rfl, rfl, ⟨rfl, rfl⟩⟩⟩⟩)⟩⟩))⟩) (fun p1 => (w_lst ⟨rfl, (w_fn G_best_layout hr hgd ⟨rfl, (w_var 0 ⟨rfl, (w_var 1 ⟨wd, ws, rfl, W, ⟨(by first | decide | (simp only [List.length_append, List.length_map, List.length_cons, List.length_nil, List.length_singleton, List.length_replicate, List.length_range, List.length_take, List.length_drop, List.length_dropLast, List.length_reverse, Bool.false_eq_true, eq_self, reduceIte, sizeLine_eq]; omega)), fun p2 => ⟨rfl, rfl, (by simp only [List.length_append, List.length_map, List.length_cons, List.length_nil, List.length_singleton, List.length_replicate, List.length_range, List.length_take, List.length_drop, List.length_dropLast, List.length_reverse, Bool.false_eq_true, eq_self, reduceIte, sizeLine_eq]; omega), fun p3 => ?_⟩⟩⟩)⟩)⟩)⟩)))⟩)⟩)⟩)))))
    have e1 : (stL wd ws).map (fun p => tN (way wd ws p)) ++ [tN (bestLay wd ws)] = (allE wd ws).map tN := by unfold allE; rw [List.map_append, List.map_map]; rfl
    rw [e1]; exact q _
abbrev N_counted_states : List Str := ["width", "text", "ends", "found", "some", "place"]
theorem sc_counted_states : FnScope N_counted_states ["width", "text"] (defScope (topS 33)) := ⟨rfl, rfl, rfl, by decide +kernel, rfl, by decide +kernel, by decide +kernel⟩
theorem g_counted_states {f : Addr} {fd : FuncData} {k : Nat} (Fn : Fun K "counted_states" "counted_states" (topS 33) f fd) (G_all_ends : Df P w K mg base Tq k "all_ends" ["width", "text"] spAllEnds) (m_len : mg "len" = none) : FnG P w K mg base Tq (k + 1) f fd ["width", "text"] spCounted := by
  refine fn_g Fn sc_counted_states (fun ts Q E h => ?_) fun cdv A outer s H E Z ts QT ET hr hgd hp tk h => ?_
  · obtain ⟨wd, ws, rfl, W, q⟩ := h; rfl
  · obtain ⟨wd, ws, rfl, W, q⟩ := h
    have hlen := W.len
    have hsl := stL_len wd ws
    have hal := allE_len (wd := wd) (ws := ws)
    have hnl : (iDs ws).length = ws.length := List.length_map _
    -- line 156
    refine wss_cons (ws_set 2 (w_fn G_all_ends hr hgd ⟨rfl, (w_var 0 ⟨rfl, (w_var 1 ⟨wd, ws, rfl, W, fun pE_1 => ⟨Nat.lt_of_sub_eq_succ rfl, ?_⟩⟩)⟩)⟩) sc_counted_states.nd)
    -- line 157
    refine wss_cons (ws_set 3 (w_bin dop_mul (w_lst ⟨rfl, (w_int ⟨(by first | decide | (simp only [List.length_append, List.length_map, List.length_cons, List.length_nil, List.length_singleton, List.length_replicate, List.length_range, List.length_take, List.length_drop, List.length_dropLast, List.length_reverse, Bool.false_eq_true, eq_self, reduceIte, sizeLine_eq]; omega)), fun p1 => (w_bin dop_add (w_callB dc_len m_len rfl ⟨rfl, (w_var 1 ⟨rfl, (w_int ⟨rfl, rfl, ⟨rfl, rfl, ⟨by omega, by omega, by simp only [List.length_append, List.length_map, List.length_cons, List.length_nil, List.length_singleton, List.length_replicate, List.length_range, List.length_take, List.length_drop, List.length_dropLast, List.length_reverse, Bool.false_eq_true, eq_self, reduceIte, sizeLine_eq]; omega⟩, fun p2 => ⟨Nat.lt_of_sub_eq_succ rfl, ?_⟩⟩⟩)⟩)⟩))⟩)⟩)) sc_counted_states.nd)
    rw [show (((iDs ws).length : Int) + 1).toNat = ws.length + 1 by rw [hnl]; omega, zeros]
    -- line 158
    refine wss_cons (ws_for hp rfl (pg_name (i := 4) sc_counted_states.nd rfl (by first | exact Or.inl rfl | exact Or.inr rfl)) (gok_name 4) (wi_list (w_var 2 ⟨rfl, ?_⟩)))
    refine ⟨fun j e => ∃ o4 o5, e = [some (.va (.int wd)), some (.va (.tuple (iDs ws))), some (.va (.list ((allE wd ws).map tN))), some (.lst p2 ((List.range (ws.length + 1)).map (fun (q : Nat) => PyData.int ((((allE wd ws).take j).countP fun ns => decide (q ∈ ns) : Nat) : Int)))), o4, o5], ⟨none, none, ?i0⟩, ?_, ?_⟩
    case i0 => simp only [List.take_zero, List.countP_nil]; rfl
    · rintro j dd e hd ⟨o4, o5, rfl⟩
      rw [List.getElem?_map, Option.map_eq_some_iff] at hd
      obtain ⟨ns, hx, rfl⟩ := hd
      obtain ⟨e, hlay, hle⟩ := allE_lay W ns (List.mem_of_getElem? hx)
      have hnd := Lay.nodup hlay
      have tk : (allE wd ws).take (j + 1) = (allE wd ws).take j ++ [ns] := by rw [List.take_add_one, hx]; rfl
      refine ⟨Nat.lt_of_sub_eq_succ rfl, ?_⟩
      -- line 159
      refine wss_one (ws_for hp rfl (pg_name (i := 5) sc_counted_states.nd rfl (by first | exact Or.inl rfl | exact Or.inr rfl)) (gok_name 5) (wi_tup (w_var 4 ?_)))
      refine ⟨fun i e => ∃ o5, e = [some (.va (.int wd)), some (.va (.tuple (iDs ws))), some (.va (.list ((allE wd ws).map tN))), some (.lst p2 ((List.range (ws.length + 1)).map (fun (q : Nat) => PyData.int (((((allE wd ws).take j).countP fun ns => decide (q ∈ ns)) + (if q ∈ ns.take i then 1 else 0) : Nat) : Int)))), some (.va (tN ns)), o5], ⟨o5, ?i1⟩, ?_, ?_⟩
      case i1 => simp only [List.take_zero, List.not_mem_nil, if_false, Nat.add_zero]; rfl
      · rintro i dd e hd ⟨o5, rfl⟩
        rw [List.getElem?_map, Option.map_eq_some_iff] at hd
        obtain ⟨x, hxx, rfl⟩ := hd
        have hxe := (hlay.mem x (List.mem_of_getElem? hxx)).2
        have tx : ns.take (i + 1) = ns.take i ++ [x] := by rw [List.take_add_one, hxx]; rfl
        have nx : x ∉ ns.take i := fun z => by
          have h2 : (ns.take (i + 1)).Nodup := List.Sublist.nodup (List.take_sublist _ _) hnd
          rw [tx, List.nodup_append] at h2
          exact h2.2.2 x z x (by simp) rfl
        refine ⟨Nat.lt_of_sub_eq_succ rfl, ?_⟩
        -- line 160
        refine wss_one (ws_augix (w_var 3 ⟨_, _, _, rfl, (w_var 5 ⟨_, _, _, rfl, rfl, (by rw [List.length_map, List.length_range]; omega), (by rw [List.getElem?_map, List.getElem?_range (show x < ws.length + 1 by omega)]; rfl), (w_int ⟨_, _, rfl, rfl, (ixN_nat (by rw [List.length_map, List.length_range]; omega)), ?_⟩)⟩)⟩))
        refine ⟨some (.va (.int (x : Int))), ?_⟩
        rw [set_range (show x < ws.length + 1 by omega)]
        have e5 : ((List.range (ws.length + 1)).map fun q => if q = x then PyData.int ((((((allE wd ws).take j).countP fun ns => decide (x ∈ ns)) + (if x ∈ ns.take i then 1 else 0) : Nat) : Int) + 1) else (fun (q : Nat) => PyData.int (((((allE wd ws).take j).countP fun ns => decide (q ∈ ns)) + (if q ∈ ns.take i then 1 else 0) : Nat) : Int)) q) = (List.range (ws.length + 1)).map (fun (q : Nat) => PyData.int (((((allE wd ws).take j).countP fun ns => decide (q ∈ ns)) + (if q ∈ ns.take (i + 1) then 1 else 0) : Nat) : Int)) := by
          refine List.map_congr_left fun q _ => ?_
          by_cases h : q = x
          · subst h
            rw [if_pos rfl, if_neg nx, tx, if_pos (List.mem_append_right _ (List.mem_singleton.mpr rfl))]
            rfl
          · rw [if_neg h, tx]
            have e6 : (q ∈ ns.take i ++ [x]) ↔ q ∈ ns.take i := by rw [List.mem_append, List.mem_singleton]; exact ⟨fun z => z.elim id fun z => absurd z h, .inl⟩
            simp only [e6]
        rw [e5]
        rfl
      · rintro e ⟨o5, rfl⟩
        rw [List.length_map, List.take_length]
        refine ⟨some (.va (tN ns)), o5, ?_⟩
        rw [tk]
        have e7 : ((List.range (ws.length + 1)).map fun (q : Nat) => PyData.int (((((allE wd ws).take j).countP fun ns => decide (q ∈ ns)) + (if q ∈ ns then 1 else 0) : Nat) : Int)) = (List.range (ws.length + 1)).map fun (q : Nat) => PyData.int ((((allE wd ws).take j ++ [ns]).countP fun ns => decide (q ∈ ns) : Nat) : Int) := by
          refine List.map_congr_left fun q _ => ?_
          rw [List.countP_append]
          by_cases h : q ∈ ns <;> simp [h]
        rw [e7]
    · rintro e ⟨o4, o5, rfl⟩
      rw [List.length_map, List.take_length]
      -- line 161
      refine wss_one (ws_ret (w_tup ⟨rfl, (w_var 3 ⟨rfl, (w_callB dc_len m_len rfl ⟨rfl, (w_var 2 ⟨rfl, ⟨rfl, ⟨(by first | decide | (simp only [List.length_append, List.length_map, List.length_cons, List.length_nil, List.length_singleton, List.length_replicate, List.length_range, List.length_take, List.length_drop, List.length_dropLast, List.length_reverse, Bool.false_eq_true, eq_self, reduceIte, sizeLine_eq]; omega)), ?_⟩⟩⟩)⟩)⟩)⟩))
      rw [show ((allE wd ws).map tN).length = (allE wd ws).length from List.length_map _]
      exact q
abbrev N_states : List Str := ["width", "text", "counts", "most", "words", "count"]
theorem sc_states : FnScope N_states ["width", "text"] (defScope (topS 34)) := ⟨rfl, rfl, rfl, by decide +kernel, rfl, by decide +kernel, by decide +kernel⟩
theorem g_states {f : Addr} {fd : FuncData} {k : Nat} (Fn : Fun K "states" "states" (topS 34) f fd) (G_counted_states : Df P w K mg base Tq k "counted_states" ["width", "text"] spCounted) {tALWAYS : Tok} (m_ALWAYS : mg "ALWAYS" = some (.str "always" tALWAYS)) {tNEVER : Tok} (m_NEVER : mg "NEVER" = some (.str "never" tNEVER)) {tSOMETIMES : Tok} (m_SOMETIMES : mg "SOMETIMES" = some (.str "sometimes" tSOMETIMES)) (m_tuple : mg "tuple" = none) : FnG P w K mg base Tq (k + 1) f fd ["width", "text"] spStates := by
  refine fn_g Fn sc_states (fun ts Q E h => ?_) fun cdv A outer s H E Z ts QT ET hr hgd hp tk h => ?_
  · obtain ⟨wd, ws, rfl, W, q⟩ := h; rfl
  · obtain ⟨wd, ws, rfl, W, q⟩ := h
    have hlen := W.len
    have w1 := W.w1
    have hm : (allE wd ws).length ≠ 0 := by rw [allE_len]; omega
    -- line 163
    refine wss_cons (ws_asg (pg_tup (by rfl) (pgs_cons (pg_name (i := 2) sc_states.nd rfl (by first | exact Or.inl rfl | exact Or.inr rfl)) (pgs_cons (pg_name (i := 3) sc_states.nd rfl (by first | exact Or.inl rfl | exact Or.inr rfl)) (pgs_nil)))) (gok_tup (gsok_cons (gok_name 2) (gsok_cons (gok_name 3) (gsok_nil)))) (w_fn G_counted_states hr hgd ⟨rfl, (w_var 0 ⟨rfl, (w_var 1 ⟨wd, ws, rfl, W, ⟨_, rfl, rfl, ⟨Nat.lt_of_sub_eq_succ rfl, ⟨Nat.lt_of_sub_eq_succ rfl, ⟨rfl, ?_⟩⟩⟩⟩⟩)⟩)⟩))
    -- line 164
    refine wss_cons (ws_set 4 (w_dict2 (w_int ⟨.inl _, rfl, (w_glob (v := .str "never") (d := .str "never") m_NEVER ⟨_, rfl⟩ (fun _ => .str _) ⟨_, rfl, (w_var 3 ⟨.inl _, rfl, (w_glob (v := .str "always") (d := .str "always") m_ALWAYS ⟨_, rfl⟩ (fun _ => .str _) ⟨_, rfl, (fun z => hm (by have := Sum.inl.inj z; omega)), fun p1 => ⟨Nat.lt_of_sub_eq_succ rfl, ?_⟩⟩)⟩)⟩)⟩)) sc_states.nd)
    -- line 165
    refine wss_one (ws_ret (w_callTy dc_tuple m_tuple rfl ⟨rfl, (w_lc (own := [("count", 5)]) rfl sc_states.nd (blkOk_by (N := N_states) (sc := defScope (topS 34)) (by decide +kernel)) (fun _ _ _ _ _ => pg_name (i := 5) sc_states.nd rfl (by first | exact Or.inl rfl | exact Or.inr rfl)) (gok_name 5) (by decide) (wi_list (w_sl (w_var 2 (w_int ⟨_, rfl, ⟨rfl, fun p2 => (lc_map fm_name (fun (q : Nat) => PyData.int (cntE wd ws q : Int)) ((List.range (ws.length + 1)).drop 1) (fun (q : Nat) => PyData.str (stS wd ws q)) _ rfl (cut_from (fun (q : Nat) => PyData.int (cntE wd ws q : Int)) (List.range (ws.length + 1)) 1 (by rw [List.length_range]; omega)) (by rw [List.length_drop, List.length_range, sizeLine_eq]; omega) (fun k2 x hx => by skip; exact ⟨Nat.lt_of_sub_eq_succ rfl, fun s2 H2 C2 cl2 fp2 => (w_dget2 (lt1 (room64 hr)) (w_var 4 ⟨_, _, _, _, rfl, rfl, (w_var 5 (w_glob (v := .str "sometimes") (d := .str "sometimes") m_SOMETIMES ⟨_, rfl⟩ (fun _ => .str _) ⟨.inl _, _, _, rfl, rfl, rfl, ⟨by rw [word_at hm]; rfl, rfl⟩⟩))⟩))⟩) (fun p3 => ⟨rfl, ?_⟩))⟩⟩)))))⟩))
    exact q
end
end K92

/-! LY: the settled lines: what all futures have in common. -/
namespace LM
open PySem
/-- the places that are always ends -/
noncomputable def sureL (wd : Int) (ws : List Int) : List Nat := ((List.range ws.length).filter fun k => decide (cntE wd ws (k + 1) = (allE wd ws).length)).map (· + 1)
/-- those that are ends of settled lines -/
noncomputable def sureR (wd : Int) (ws : List Int) : List Nat := if ws.length ∈ sureL wd ws ∧ B wd ws ws.length ≠ LS wd ws then (sureL wd ws).dropLast else sureL wd ws
/-- the number of the settled words -/
noncomputable def stM (wd : Int) (ws : List Int) : Nat := (sureR wd ws).getLastD 0
noncomputable def stE (wd : Int) (ws : List Int) : List Nat := way wd ws (stM wd ws)
theorem sureL_mem {wd : Int} {ws : List Int} {q : Nat} : q ∈ sureL wd ws ↔ 1 ≤ q ∧ q ≤ ws.length ∧ (∀ p ∈ stL wd ws, q ∈ way wd ws p) ∧ q ∈ bestLay wd ws := by
  unfold sureL
  rw [List.mem_map, ← cntE_all]
  constructor
  · rintro ⟨k, hk, rfl⟩
    obtain ⟨h1, h2⟩ := List.mem_filter.mp hk
    have := List.mem_range.mp h1
    exact ⟨by omega, by omega, of_decide_eq_true h2⟩
  · rintro ⟨h1, h2, h3⟩
    refine ⟨q - 1, List.mem_filter.mpr ⟨List.mem_range.mpr (by omega), ?_⟩, by omega⟩
    rw [show q - 1 + 1 = q by omega]
    exact decide_eq_true h3
theorem sureL_lt (wd : Int) (ws : List Int) : (sureL wd ws).Pairwise (· < ·) := by
  unfold sureL
  rw [List.pairwise_map]
  exact (List.Pairwise.filter _ List.pairwise_lt_range).imp fun h => by omega
theorem last_of {xs : List Nat} {n : Nat} (pw : xs.Pairwise (· < ·)) (hn : n ∈ xs) (hle : ∀ x ∈ xs, x ≤ n) : ∃ r, xs = r ++ [n] ∧ ∀ x ∈ r, x < n := by
  rcases List.eq_nil_or_concat xs with e | ⟨r, z, e⟩
  · rw [e] at hn; cases hn
  · rw [List.concat_eq_append] at e
    subst e
    have hz := hle z (by simp)
    have hp := List.pairwise_append.mp pw
    rcases List.mem_append.mp hn with h | h
    · have := hp.2.2 n h z (by simp)
      omega
    · rw [List.mem_singleton.mp h]
      exact ⟨r, rfl, fun x hx => hp.2.2 x hx z (by simp)⟩
theorem sureL_last {wd : Int} {ws : List Int} (h : ws.length ∈ sureL wd ws) : ∃ r, sureL wd ws = r ++ [ws.length] ∧ ∀ x ∈ r, x < ws.length :=
  last_of (sureL_lt wd ws) h fun x hx => (sureL_mem.mp hx).2.1
theorem sureR_mem {wd : Int} {ws : List Int} {q : Nat} : q ∈ sureR wd ws ↔ q ∈ sureL wd ws ∧ (q = ws.length → B wd ws ws.length = LS wd ws) := by
  unfold sureR
  split
  · rename_i h
    obtain ⟨r, e, hr⟩ := sureL_last h.1
    rw [e, List.dropLast_concat, List.mem_append, List.mem_singleton]
    constructor
    · intro hq
      have := hr q hq
      exact ⟨.inl hq, fun z => by omega⟩
    · rintro ⟨z | z, g⟩
      · exact z
      · exact absurd (g z) h.2
  · rename_i h
    constructor
    · intro hq
      refine ⟨hq, fun z => ?_⟩
      subst z
      exact Classical.byContradiction fun g => h ⟨hq, g⟩
    · exact fun z => z.1
theorem sureR_lt (wd : Int) (ws : List Int) : (sureR wd ws).Pairwise (· < ·) := by
  unfold sureR
  split
  · exact List.Pairwise.sublist (List.dropLast_sublist _) (sureL_lt wd ws)
  · exact sureL_lt wd ws
theorem stM_is (wd : Int) (ws : List Int) : (stM wd ws = 0 ∧ sureR wd ws = [] ∨ stM wd ws ∈ sureR wd ws) ∧ stM wd ws ≤ ws.length ∧ ∀ q ∈ sureR wd ws, q ≤ stM wd ws := by
  unfold stM
  have pw := sureR_lt wd ws
  have hle : ∀ q ∈ sureR wd ws, q ≤ ws.length := fun q hq => (sureL_mem.mp (sureR_mem.mp hq).1).2.1
  rcases List.eq_nil_or_concat (sureR wd ws) with e | ⟨r, z, e⟩
  · rw [e]
    exact ⟨.inl ⟨rfl, rfl⟩, Nat.zero_le _, fun q hq => nomatch hq⟩
  · rw [List.concat_eq_append] at e
    rw [e] at pw hle ⊢
    rw [List.getLastD_concat]
    have hp := List.pairwise_append.mp pw
    refine ⟨.inr (by simp), hle z (by simp), fun q hq => ?_⟩
    rcases List.mem_append.mp hq with h | h
    · have := hp.2.2 q h z (by simp); omega
    · rw [List.mem_singleton.mp h]; exact Nat.le_refl _
/-! ### what lies ahead of a place -/
theorem way_ahead {wd : Int} {ws : List Int} (W : Wd wd ws) {e q : Nat} (he : e ≤ ws.length) (hq : q ∈ way wd ws e) : ∃ r, way wd ws e = way wd ws q ++ r := by
  obtain ⟨k, hk⟩ := List.getElem?_of_mem hq
  exact ⟨(way wd ws e).drop (k + 1), by rw [← way_pre W e he k q hk, List.take_append_drop]⟩
theorem best_snoc {wd : Int} {ws : List Int} (h : 0 < ws.length) : bestLay wd ws = way wd ws (LS wd ws) ++ [ws.length] := by unfold bestLay; rw [if_neg (by omega)]
/-- a settled place has its way in the best layout of the text -/
theorem sure_best {wd : Int} {ws : List Int} (W : Wd wd ws) {q : Nat} (hq : q ∈ sureR wd ws) : ∃ r, bestLay wd ws = way wd ws q ++ r := by
  obtain ⟨h1, h2⟩ := sureR_mem.mp hq
  obtain ⟨q1, q2, _, q4⟩ := sureL_mem.mp h1
  have hb := best_snoc (wd := wd) (ws := ws) (by omega)
  by_cases e : q = ws.length
  · rw [e, way_step W (by omega) (Nat.le_refl _), h2 e, ← hb]
    exact ⟨[], (List.append_nil _).symm⟩
  · rw [hb, List.mem_append, List.mem_singleton] at q4
    obtain ⟨r, hr⟩ := way_ahead W (LS_le W) (q4.resolve_right e)
    exact ⟨r ++ [ws.length], by rw [hb, ← List.append_assoc, ← hr]⟩
/-- the settled ends are the first ones of every layout -/
theorem stE_best {wd : Int} {ws : List Int} (W : Wd wd ws) : ∃ r, bestLay wd ws = stE wd ws ++ r := by
  unfold stE
  rcases (stM_is wd ws).1 with ⟨z, _⟩ | z
  · rw [z, way0]; exact ⟨_, rfl⟩
  · exact sure_best W z
/-! ### lines -/
theorem prsN_app (a b : List Nat) : ∃ c, prsN (a ++ b) = prsN a ++ c ∧ c.length = b.length ∧ ∀ l ∈ c, l.2 ∈ b := by
  induction b generalizing a with
  | nil => exact ⟨[], by simp, rfl, fun l h => nomatch h⟩
  | cons h b ih =>
    obtain ⟨c, e, hl, hc⟩ := ih (a ++ [h])
    rw [List.append_assoc, prsN_snoc, List.append_assoc] at e
    refine ⟨_, e, by rw [List.length_append, hl]; simp [Nat.add_comm], fun l hl => ?_⟩
    rcases List.mem_append.mp hl with z | z
    · rw [List.mem_singleton.mp z]; exact List.mem_cons_self
    · exact List.mem_cons_of_mem _ (hc l z)
theorem prsN_len (ns : List Nat) : (prsN ns).length = ns.length := by
  obtain ⟨c, e, hl, _⟩ := prsN_app [] ns
  rw [List.nil_append] at e
  rw [e, List.length_append, hl]
  exact Nat.zero_add _
end LM

namespace K92
open PySem PySem.Spec PyProof.Rows L2 QL
open LM
abbrev enP (p : Nat × Nat) : D := .tuple [.int (p.1 : Int), .int (p.2 : Int)]
theorem cut_last (ns : List Nat) : QL.cutD (nDs ns) none (some (-1)) = nDs ns.dropLast := QL.cut_dropLast _ ns
theorem zip_lines (ns : List Nat) : zipD ([PyData.int 0] ++ QL.cutD (nDs ns) none (some (-1))) (nDs ns) = (prsN ns).map enP := by
  rw [cut_last]
  unfold zipD prsN
  have e : [PyData.int 0] ++ nDs ns.dropLast = nDs (0 :: ns.dropLast) := rfl
  rw [e, List.zip_map, List.map_map]
  rfl
def spLines : Spc := fun ts QT _ => ∃ ns : List Nat, ts = [.va (tN ns)] ∧ ns.length ≤ 1000 ∧ QT (.va (.tuple ((prsN ns).map enP))) [none]
def spSetE : Spc := fun ts QT _ => ∃ (wd : Int) (ws : List Int), ts = [.va (.int wd), .va (.tuple (iDs ws))] ∧ Wd wd ws ∧ QT (.va (tN (stE wd ws))) [none, none]
def spSetL : Spc := fun ts QT _ => ∃ (wd : Int) (ws : List Int), ts = [.va (.int wd), .va (.tuple (iDs ws))] ∧ Wd wd ws ∧ QT (.va (.tuple ((prsN (stE wd ws)).map enP))) [none, none]
/-- the states with their numbers from k on -/
theorem enum_sts (wd : Int) (ws : List Int) (k : Int) : enumD k (stsD wd ws) = (List.range ws.length).map fun (i : Nat) => PyData.tuple [.int (k + (i : Int)), .str (stS wd ws (i + 1))] := by
  refine List.ext_getElem? fun i => ?_
  rw [enumD_get]
  unfold stsD
  rw [List.getElem?_map, List.getElem?_map, List.getElem?_drop]
  by_cases h : i < ws.length
  · rw [List.getElem?_range h, List.getElem?_range (by omega), show 1 + i = i + 1 by omega]; rfl
  · rw [List.getElem?_eq_none (by rw [List.length_range]; omega), List.getElem?_eq_none (by rw [List.length_range]; omega)]; rfl
theorem word_always {wd : Int} {ws : List Int} {q : Nat} (w1 : 1 ≤ wd) : decide (stS wd ws q = "always") = decide (cntE wd ws q = (allE wd ws).length) := by
  have hm : (allE wd ws).length ≠ 0 := by rw [allE_len]; omega
  unfold stS wordS tells
  by_cases h0 : cntE wd ws q = 0
  · rw [if_pos h0, if_pos rfl, h0, decide_eq_false (show ¬ (("never" : Str) = "always") by decide), decide_eq_false (show ¬ (0 = (allE wd ws).length) from fun z => hm z.symm)]
  · rw [if_neg h0]
    by_cases h1 : cntE wd ws q = (allE wd ws).length
    · rw [if_pos h1, if_neg (by decide), if_pos rfl, decide_eq_true rfl, decide_eq_true h1]
    · rw [if_neg h1, if_neg (by decide), if_neg (by decide), decide_eq_false h1]; decide
theorem nDs_ints (ns : List Nat) : nDs ns = (ns.map fun (n : Nat) => (n : Int)).map PyData.int := by simp [nDs]
theorem in_nats {q : Nat} {ns : List Nat} : decide ((q : Int) ∈ ns.map fun (n : Nat) => (n : Int)) = decide (q ∈ ns) := by
  rw [decide_eq_decide, List.mem_map]
  exact ⟨fun ⟨a, h, e⟩ => by have : a = q := by omega
                             rwa [← this], fun h => ⟨q, h, rfl⟩⟩
theorem max_nats {ns : List Nat} (pw : ns.Pairwise (· < ·)) (h : ns ≠ []) : ∃ x xs, nDs ns = x :: xs ∧ W.maxD x xs = .int (ns.getLastD 0 : Int) ∧ PyData.hasDictAll (x :: xs) = false ∧ W.AlikeAll (x :: xs) ∧ PyData.depthAll (x :: xs) ≤ 60 := by
  obtain ⟨x, xs, m, e, e2, h1, h2, h3, h4, h5⟩ := LM.max_ints (ns := ns.map fun (n : Nat) => (n : Int)) (by simpa using h)
  refine ⟨x, xs, by rw [nDs_ints, e], ?_, h3, h4, h5⟩
  rw [e2]
  obtain ⟨a, ha, rfl⟩ := List.mem_map.mp h1
  obtain ⟨r, er, hr⟩ : ∃ r z, ns = r ++ [z] ∧ ∀ y ∈ r, y < z := by
    rcases List.eq_nil_or_concat ns with z | ⟨r, z, e⟩
    · exact absurd z h
    · rw [List.concat_eq_append] at e
      rw [e] at pw
      exact ⟨r, z, e, fun y hy => (List.pairwise_append.mp pw).2.2 y hy z (by simp)⟩
  obtain ⟨e3, hr⟩ := hr
  have hz := h2 (er : Int) (List.mem_map.mpr ⟨er, by rw [e3]; simp, rfl⟩)
  have ha2 : a ≤ er := by
    rw [e3] at ha
    rcases List.mem_append.mp ha with z | z
    · exact Nat.le_of_lt (hr a z)
    · rw [List.mem_singleton.mp z]; exact Nat.le_refl _
  rw [e3, List.getLastD_concat]
  congr 1
  omega
abbrev nI (ns : List Nat) : List Int := ns.map fun (n : Nat) => (n : Int)
theorem sureL_D (wd : Int) (ws : List Int) : ((List.range ws.length).filter fun i => decide (cntE wd ws (i + 1) = (allE wd ws).length)).map (fun (i : Nat) => PyData.int ((i + 1 : Nat) : Int)) = iDs (nI (sureL wd ws)) := by
  unfold sureL
  rw [nI, iDs, List.map_map, List.map_map]
  rfl
theorem nI_sh {ns : List Nat} (hn : ∀ q ∈ ns, q ≤ 1000) : SeqAt.shaped (.list (iDs (nI ns))) = true := by
  refine shaped_sm ?_ ?_
  · simp only [smallD]
    refine iDs_small fun x hx => ?_
    obtain ⟨q, hq, rfl⟩ := List.mem_map.mp hx
    have := hn q hq
    have b : (1000 : Nat) < 2 ^ 200 := by decide
    omega
  · simp only [PyData.depth, iDs_depth]; omega
theorem nI_nil (ns : List Nat) : PyData.eqv (.list (iDs (nI ns))) (.list []) = decide (ns = []) := by
  cases ns with
  | nil => rfl
  | cons x xs => rfl
section
variable {P : Program} {w : World} {K : PySem.W.Frag} {mg : Str → Option Value} {base : Heap} {Tq : List (Addr × Str)}
abbrev N_lines_of : List Str := ["layout"]
theorem sc_lines_of : FnScope N_lines_of ["layout"] (defScope (topS 20)) := ⟨rfl, rfl, rfl, by decide +kernel, rfl, by decide +kernel, by decide +kernel⟩
theorem g_lines_of {f : Addr} {fd : FuncData} {k : Nat} (Fn : Fun K "lines_of" "lines_of" (topS 20) f fd) (m_tuple : mg "tuple" = none) (m_zip : mg "zip" = none) : FnG P w K mg base Tq (k + 1) f fd ["layout"] spLines := by
  refine fn_g Fn sc_lines_of (fun ts Q E h => ?_) fun cdv A outer s H E Z ts QT ET hr hgd hp tk h => ?_
  · obtain ⟨ns, rfl, hn, q⟩ := h; rfl
  · obtain ⟨ns, rfl, hn, q⟩ := h
    -- line 87
    refine wss_one (ws_ret (w_zipT rfl m_tuple m_zip ⟨rfl, (w_tupX ⟨rfl, (w_int ⟨rfl, (w_sl (w_var 0 (w_neg (w_int ⟨rfl, ⟨_, rfl, ⟨rfl, ⟨(by rw [cut_last]; simp only [nDs, List.length_append, List.length_map, List.length_cons, List.length_nil, List.length_singleton, List.length_replicate, List.length_range, List.length_take, List.length_drop, List.length_dropLast, List.length_reverse, Bool.false_eq_true, eq_self, reduceIte, sizeLine_eq]; omega), ⟨rfl, (w_var 0 ?_)⟩⟩⟩⟩⟩))))⟩)⟩)⟩))
    have e1 : zipD ([PyData.int 0] ++ QL.cutD (nDs ns) none (some (-1))) (nDs ns) = (prsN ns).map enP := zip_lines ns
    show QT (.va (.tuple (zipD (PyData.int 0 :: (QL.cutD (nDs ns) none (some (-1)) ++ [])) (nDs ns)))) [none]
    rw [List.append_nil, show PyData.int 0 :: QL.cutD (nDs ns) none (some (-1)) = [PyData.int 0] ++ QL.cutD (nDs ns) none (some (-1)) from rfl, e1]; exact q
abbrev N_settled_ends : List Str := ["width", "text", "count", "table", "sure", "place", "state"]
theorem sc_settled_ends : FnScope N_settled_ends ["width", "text"] (defScope (topS 35)) := ⟨rfl, rfl, rfl, by decide +kernel, rfl, by decide +kernel, by decide +kernel⟩
theorem g_settled_ends {f : Addr} {fd : FuncData} {k : Nat} {aTable : Addr} (Fn : Fun K "settled_ends" "settled_ends" (topS 35) f fd) (TX : Txt_Table K aTable) (G_states : Df P w K mg base Tq k "states" ["width", "text"] spStates) (M_last_start : Mf P w K mg base Tq k aTable "last_start" ["self"] (spLast aTable)) (M_way : Mf P w K mg base Tq k aTable "way" ["self", "place"] (spWay aTable)) (C_Table : Ck P w K mg base Tq k "Table" aTable ["self", "width", "text"] (spInit aTable)) {tALWAYS : Tok} (m_ALWAYS : mg "ALWAYS" = some (.str "always" tALWAYS)) (m_enumerate : mg "enumerate" = none) (m_len : mg "len" = none) (m_max : mg "max" = none) : FnG P w K mg base Tq (k + 2) f fd ["width", "text"] spSetE := by
  have G_states := G_states.mono (Nat.le_succ k)
  have M_last_start := M_last_start.mono (Nat.le_succ k)
  have M_way := M_way.mono (Nat.le_succ k)
  refine fn_g Fn sc_settled_ends (fun ts Q E h => ?_) fun cdv A outer s H E Z ts QT ET hr hgd hp tk h => ?_
  · obtain ⟨wd, ws, rfl, W, q⟩ := h; rfl
  · obtain ⟨wd, ws, rfl, W, q⟩ := h
    have hu := room110 hr
    have hlen := W.len
    have w1 := W.w1
    have hnl : (iDs ws).length = ws.length := List.length_map _
    -- line 167
    refine wss_cons (ws_par 2 3 rfl sc_settled_ends.nd (w_callB dc_len m_len rfl ⟨rfl, (w_var 1 ⟨rfl, ⟨_, rfl, (w_make C_Table hr hgd ⟨rfl, (w_var 0 ⟨rfl, (w_var 1 fun pN1 => ⟨_, wd, ws, rfl, W, fun pc pb => ⟨rfl, rfl, ⟨_, rfl, Nat.lt_of_sub_eq_succ rfl, Nat.lt_of_sub_eq_succ rfl, ?_⟩⟩⟩)⟩)⟩)⟩⟩)⟩))
    -- line 168
    refine wss_cons (ws_setLcIf 4 (own := [("place", 5), ("state", 6)]) rfl sc_settled_ends.nd (blkOk_by (N := N_settled_ends) (sc := defScope (topS 35)) (by decide +kernel)) (fun _ _ _ _ _ => pg_tup (by rfl) (pgs_cons (pg_name (i := 5) sc_settled_ends.nd rfl (by first | exact Or.inl rfl | exact Or.inr rfl)) (pgs_cons (pg_name (i := 6) sc_settled_ends.nd rfl (by first | exact Or.inl rfl | exact Or.inr rfl)) (pgs_nil)))) (gok_tup (gsok_cons (gok_name 5) (gsok_cons (gok_name 6) (gsok_nil)))) (by decide) (wi_enum m_enumerate ⟨rfl, (w_fn G_states hr hgd ⟨rfl, (w_var 0 ⟨rfl, (w_var 1 ⟨wd, ws, rfl, W, (lc_filt fm_tup2 (fun (i : Nat) => PyData.tuple [.int ((0 : Int) + (i : Int)), .str (stS wd ws (i + 1))]) (List.range ws.length) (fun (i : Nat) => decide (cntE wd ws (i + 1) = (allE wd ws).length)) (fun (i : Nat) => PyData.int ((i + 1 : Nat) : Int)) _ rfl ((enum_sts wd ws 0)) (by rw [List.length_range, sizeLine_eq]; omega) (fun k2 x hx => by skip; exact ⟨rfl, ⟨Nat.lt_of_sub_eq_succ rfl, ⟨Nat.lt_of_sub_eq_succ rfl, ⟨rfl, fun s2 H2 C2 cl2 fp2 => (wt_cmp (dop_eq (room64 hr)) (w_var 6 (w_glob (v := .str "always") (d := .str "always") m_ALWAYS ⟨_, rfl⟩ (fun _ => .str _) ⟨rfl, rfl, _, rfl, ⟨(word_always w1), fun ht s3 H3 C3 cl3 fp3 => (w_bin dop_add (w_var 5 (w_int ⟨rfl, rfl, ⟨congrArg (fun z => [PyData.int z]) (by omega), rfl⟩⟩))), fun ht => rfl⟩⟩)))⟩⟩⟩⟩) (fun p1 => ⟨Nat.lt_of_sub_eq_succ rfl, ?_⟩))⟩)⟩)⟩)⟩))
    rw [sureL_D]
    have hq9 : ∀ q ∈ sureL wd ws, q ≤ 1000 := fun q hq => by have := (sureL_mem.mp hq).2.1; omega
    have hqR : ∀ q ∈ sureR wd ws, q ≤ 1000 := fun q hq => hq9 q (sureR_mem.mp hq).1
    have hat : atI (nDs (bsL wd ws ws.length)) ((iDs ws).length : Int) = some (.int (B wd ws ws.length)) := by
      rw [hnl]
      refine atI_nat ?_
      unfold bsL
      simp [nDs, List.getElem?_range (show ws.length < ws.length + 1 by omega)]
    have hin : decide (((iDs ws).length : Int) ∈ nI (sureL wd ws)) = decide (ws.length ∈ sureL wd ws) := by rw [hnl]; exact in_nats
    have kno : ¬ (ws.length ∈ sureL wd ws ∧ B wd ws ws.length ≠ LS wd ws) → nI (sureL wd ws) = nI (sureR wd ws) := fun z => by unfold sureR; rw [if_neg z]
    -- line 169
    refine wss_cons (WS.imp (P := fun o => o = .nx [some (.va (.int wd)), some (.va (.tuple (iDs ws))), some (.va (.int ((iDs ws).length : Int))), some (.ins pN1 aTable (tabF wd ws ws.length pc pb)), some (.lst p1 (iDs (nI (sureR wd ws)))), none, none]) (ws_if (WW.t (ww_and (wt_cmp dop_in (w_var 2 (w_var 4 ⟨rfl, rfl, _, (nI (sureL wd ws)), rfl, .inl rfl, _, rfl, ⟨fun h => (ww_and1 (wt_cmp (dop_ne (room64 hr)) (w_ix (w_fld (w_var 3 ⟨rfl, ⟨TX.cl, TX.n_befores⟩, (w_var 2 ⟨rfl, rfl, _, hat, (w_meth0 M_last_start hr hgd (w_var 3 ⟨⟨rfl, rfl, rfl⟩, ⟨rfl, ⟨_, wd, ws, _, _, rfl, W, ⟨rfl, rfl, ⟨rfl, rfl, _, rfl, ⟨fun h => ?_, fun h => ?_⟩⟩⟩⟩⟩⟩))⟩)⟩))))), fun h => ?s1⟩⟩)) (by with_unfolding_all rfl))))) ?join169)
    · have h1 : decide (((iDs ws).length : Int) ∈ nI (sureL wd ws)) = true := by assumption
      rw [hin] at h1
      have h1 := of_decide_eq_true h1
      have h2 : B wd ws ws.length ≠ LS wd ws := fun z => by
        have h : (!decide (((B wd ws ws.length : Nat) : Int) = ((LS wd ws : Nat) : Int))) = true := h
        rw [z] at h
        exact absurd h (by simp)
      obtain ⟨r, er, hr⟩ := sureL_last h1
      have hR : (nI (sureL wd ws)).eraseIdx r.length = nI (sureR wd ws) := by
        unfold sureR
        rw [if_pos ⟨h1, h2⟩, er, List.dropLast_concat, nI, List.map_append]
        have e9 : ∀ (r : List Int) (x : Int), (r ++ [x]).eraseIdx r.length = r := fun r x => by
          induction r with
          | nil => rfl
          | cons y r ih => show y :: (r ++ [x]).eraseIdx r.length = _; rw [ih]
        have e8 := e9 (r.map fun (n : Nat) => (n : Int)) (ws.length : Int)
        rw [List.length_map] at e8
        exact e8
      -- line 170
      refine wss_one (ws_expr (w_remove (w_var 4 ⟨_, _, _, _, rfl, rfl, (w_var 2 ⟨_, (nI (sureL wd ws)), r.length, rfl, rfl, ?r1, ?r2, ?_⟩)⟩)))
      case r1 => rw [er, nI, List.map_append, List.getElem?_append_right (by rw [List.length_map]; exact Nat.le_refl _), List.length_map, Nat.sub_self, hnl]; rfl
      case r2 =>
        intro m hmr
        rw [er, nI, List.map_append, List.getElem?_append_left (by rw [List.length_map]; exact hmr), List.getElem?_map, hnl]
        intro z
        obtain ⟨y, hy, ey⟩ := Option.map_eq_some_iff.mp z
        have := hr y (List.mem_of_getElem? hy)
        omega
      rw [hR]; rfl
    · refine wss_nil ?_
      have h : (!decide (((B wd ws ws.length : Nat) : Int) = ((LS wd ws : Nat) : Int))) = false := h
      have h3 : B wd ws ws.length = LS wd ws := by have h4 : decide (((B wd ws ws.length : Nat) : Int) = ((LS wd ws : Nat) : Int)) = true := by simpa using h
                                                   have := of_decide_eq_true h4
                                                   omega
      rw [kno fun z => z.2 h3]
      rfl
    case s1 =>
      refine ⟨(fun z => nomatch z), fun _ => wss_nil ?_⟩
      have h : decide (((iDs ws).length : Int) ∈ nI (sureL wd ws)) = false := h
      rw [hin] at h
      rw [kno fun z => of_decide_eq_false h z.1]
      rfl
    case join169 =>
      rintro o rfl
      show WSs _ _ _ [some (.va (.int wd)), some (.va (.tuple (iDs ws))), some (.va (.int ((iDs ws).length : Int))), some (.ins pN1 aTable (tabF wd ws ws.length pc pb)), some (.lst p1 (iDs (nI (sureR wd ws)))), none, none] _
      have hsi := stM_is wd ws
      have hne : (!PyData.eqv (.list (iDs (nI (sureR wd ws)))) (.list [])) = !decide (sureR wd ws = []) := by rw [nI_nil]
      by_cases hR : sureR wd ws = []
      · have e0 : stM wd ws = 0 := by unfold LM.stM; rw [hR]; rfl
        have e1 : stE wd ws = [] := by unfold stE; rw [e0]; rfl
        have hf : ∀ Q : Prop, (!PyData.eqv (.list (iDs (nI (sureR wd ws)))) (.list [])) = true → Q := fun Q h => by rw [hne, decide_eq_true hR] at h; exact absurd h (by decide)
        -- line 171
        refine wss_one (ws_ret (w_ifExp (wt_cmp (dop_ne (room64 hr)) (w_var 4 (w_lst ⟨(by first | decide | (simp only [List.length_append, List.length_map, List.length_cons, List.length_nil, List.length_singleton, List.length_replicate, List.length_range, List.length_take, List.length_drop, List.length_dropLast, List.length_reverse, Bool.false_eq_true, eq_self, reduceIte, sizeLine_eq]; omega)), fun p2 => ⟨rfl, rfl, (nI_sh hqR), rfl, _, rfl, ⟨fun h => (hf _ h), fun h => (w_tup ⟨(by first | decide | (simp only [List.length_append, List.length_map, List.length_cons, List.length_nil, List.length_singleton, List.length_replicate, List.length_range, List.length_take, List.length_drop, List.length_dropLast, List.length_reverse, Bool.false_eq_true, eq_self, reduceIte, sizeLine_eq]; omega)), ?_⟩)⟩⟩⟩)))))
        rw [e1] at q; exact q
      · obtain ⟨x, xs, m1, m2, m3, m4, m5⟩ := max_nats (sureR_lt wd ws) hR
        have hf : ∀ Q : Prop, (!PyData.eqv (.list (iDs (nI (sureR wd ws)))) (.list [])) = false → Q := fun Q h => by rw [hne, decide_eq_false hR] at h; exact absurd h (by decide)
        rw [nDs_ints] at m1
        -- line 171
        refine wss_one (ws_ret (w_ifExp (wt_cmp (dop_ne (room64 hr)) (w_var 4 (w_lst ⟨(by first | decide | (simp only [List.length_append, List.length_map, List.length_cons, List.length_nil, List.length_singleton, List.length_replicate, List.length_range, List.length_take, List.length_drop, List.length_dropLast, List.length_reverse, Bool.false_eq_true, eq_self, reduceIte, sizeLine_eq]; omega)), fun p3 => ⟨rfl, rfl, (nI_sh hqR), rfl, _, rfl, ⟨fun h => (w_meth M_way hr hgd (w_var 3 ⟨⟨rfl, rfl, rfl⟩, ⟨rfl, (w_callB (dc_maxL rfl hu) m_max rfl ⟨rfl, (w_var 4 ⟨rfl, ⟨_, _, _, (.inl (congrArg (fun z => [PyData.list z]) m1)), m3, m4, m5, m2, ⟨rfl, ⟨_, wd, ws, _, _, stM wd ws, rfl, W, hsi.2.1, ⟨rfl, rfl, ?_⟩⟩⟩⟩⟩)⟩)⟩⟩)), fun h => (hf _ h)⟩⟩⟩)))))
        exact q
abbrev N_settled_lines : List Str := ["width", "text"]
theorem sc_settled_lines : FnScope N_settled_lines ["width", "text"] (defScope (topS 36)) := ⟨rfl, rfl, rfl, by decide +kernel, rfl, by decide +kernel, by decide +kernel⟩
theorem g_settled_lines {f : Addr} {fd : FuncData} {k : Nat} (Fn : Fun K "settled_lines" "settled_lines" (topS 36) f fd) (G_lines_of : Df P w K mg base Tq k "lines_of" ["layout"] spLines) (G_settled_ends : Df P w K mg base Tq k "settled_ends" ["width", "text"] spSetE) : FnG P w K mg base Tq (k + 1) f fd ["width", "text"] spSetL := by
  refine fn_g Fn sc_settled_lines (fun ts Q E h => ?_) fun cdv A outer s H E Z ts QT ET hr hgd hp tk h => ?_
  · obtain ⟨wd, ws, rfl, W, q⟩ := h; rfl
  · obtain ⟨wd, ws, rfl, W, q⟩ := h
    have hlen := W.len
    have hsi := stM_is wd ws
    have hl := (way_lay W _ hsi.2.1).1.len
    have hl : (stE wd ws).length ≤ 1000 := by show (way wd ws (stM wd ws)).length ≤ 1000; omega
    -- line 173
    refine wss_one (ws_ret (w_fn G_lines_of hr hgd ⟨rfl, (w_fn G_settled_ends hr hgd ⟨rfl, (w_var 0 ⟨rfl, (w_var 1 ⟨wd, ws, rfl, W, ⟨stE wd ws, rfl, hl, ?_⟩⟩)⟩)⟩)⟩))
    exact q
end
end K92

namespace K92
open PySem PySem.Spec PyProof.Rows L2 QL
open LM
theorem sc9 : FnScope ["_law_script", "_law_k", "_law_cell", "_law_own"] ["_law_script", "_law_k"] (defScope (topS 45)) := ⟨rfl, rfl, rfl, by decide +kernel, rfl, by decide +kernel, by decide +kernel⟩
theorem sc10 : FnScope ["_law_well_here", "_law_many", "_law_digit", "_law_prime", "_law_mixed"] ["_law_well_here", "_law_many"] (defScope (topS 46)) := ⟨rfl, rfl, rfl, by decide +kernel, rfl, by decide +kernel, by decide +kernel⟩
theorem sc11 : FnScope ["_law_well_here", "_law_some"] ["_law_well_here", "_law_some"] (defScope (topS 47)) := ⟨rfl, rfl, rfl, by decide +kernel, rfl, by decide +kernel, by decide +kernel⟩
section
variable {P : Program} {w : World} {K : PySem.W.Frag} {mg : Str → Option Value} {base : Heap} {Tq : List (Addr × Str)}
/-- the pot's state -/
def PotOk (n : Int) (a b c : Int) : Prop := 0 ≤ a ∧ (0 ≤ b ∧ b < 2305843009213693951) ∧ 0 ≤ c ∧ c ≤ n
theorem PotOk.le {n m a b c : Int} (h : PotOk n a b c) (l : n ≤ m) : PotOk m a b c := ⟨h.1, h.2.1, h.2.2.1, Int.le_trans h.2.2.2 l⟩
abbrev potD (a b c : Int) : List D := [.int a, .int b, .int c]
def spPot (K : PySem.W.Frag) : Spc := fun ts QT _ => ∃ (a : Addr) (ns : List Int) (i : Int), ts = [scT K a ns, .va (.int i)] ∧ (0 ≤ i ∧ i ≤ 100) ∧ ns.length ≤ 63 ∧ ∀ p x y, PotOk 0 x y 0 → QT (.lst p (potD x y 0)) [some (scT K a ns), none]
theorem bits60 : CPowQ (10 ^ 60) 5 := .inr ⟨by decide, by decide +kernel⟩
theorem g_pot {f : Addr} {fd : FuncData} {k : Nat} (Fn : Fun K "_law_well" "_law_well" (topS 45) f fd) (m_len : mg "len" = none) (m_abs : mg "abs" = none) (m_int : mg "int" = none) : FnG P w K mg base Tq (k + 1) f fd ["_law_script", "_law_k"] (spPot K) := by
  refine fn_g Fn sc9 (fun ts Q E h => ?_) fun cdv A outer s H E Z ts QT ET hr hgd hp tk h => ?_
  · obtain ⟨a, ns, i, rfl, _⟩ := h
    rfl
  · obtain ⟨a, ns, i, rfl, hi, hl, q⟩ := h
    have rest : ∀ m : Int, WSs Z (BX P w K mg base ["_law_script", "_law_k", "_law_cell", "_law_own"] "_law_well" (topS 45) f cdv A outer s H E) ((defBody (topS 45)).drop 1) [some (scT K a ns), some (.va (.int i)), some (.va (.int m)), none] (finP QT [scT K a ns, .va (.int i)]) := fun m => by
      refine wss_cons (ws_set 3 (w_bin dop_mul (w_bin dop_mod (w_callB dc_abs m_abs rfl ⟨rfl, (w_var 2 (⟨rfl, (w_bin dop_pow (w_bin dop_pow (w_int ((w_int (⟨rfl, rfl, ?pow1, (w_int (⟨rfl, rfl, ?pow2, ⟨rfl, rfl, ?mod3, (w_callTy dc_int m_int rfl ⟨rfl, (w_cmp dop_ge (w_callB dc_abs m_abs rfl ⟨rfl, (w_var 2 (⟨rfl, (w_bin dop_pow (w_int ((w_int (⟨rfl, rfl, ?pow4, ⟨rfl, rfl, ⟨rfl, ⟨rfl, rfl, ?mul5, ⟨Nat.lt_of_sub_eq_succ rfl, ?nx6⟩⟩⟩⟩⟩)))))⟩))⟩))⟩)⟩⟩))⟩))))))⟩))⟩))) sc9.nd)
      case pow1 => exact .inl ⟨by decide, by decide, by decide⟩
      case pow2 => exact bits60
      case mod3 => exact of_decide_eq_true (p := (0 : Int) < (10 ^ (60 : Int).toNat) ^ (5 : Int).toNat) (by decide +kernel)
      case pow4 => exact .inl ⟨by decide, by decide, by decide⟩
      case mul5 => exact cmul_r (by split <;> decide) (by split <;> decide)
      case nx6 =>
        refine wss_one (ws_ret (w_lst ⟨rfl, (w_var 3 (⟨rfl, (w_bin dop_mod (w_bin dop_add (w_bin dop_add (w_bin dop_mul (w_bin dop_mod (w_var 2 ((w_int (⟨rfl, rfl, ?mod1, (w_int (⟨rfl, rfl, ?mul2, (w_bin dop_mul (w_bin dop_mul (w_int ((w_var 1 (⟨rfl, rfl, ?mul3, (w_var 1 (⟨rfl, rfl, ?mul4, ⟨rfl, rfl, (w_int (⟨rfl, rfl, (w_int (⟨rfl, rfl, ?mod5, ⟨rfl, (w_int (⟨?sz6, fun p => ?ret7⟩))⟩⟩))⟩))⟩⟩))⟩))))))⟩))⟩)))))))))⟩))⟩))
        case mod1 => exact (by decide : (0 : Int) < 2305843009213693951)
        case mul2 => exact cmul_r (by decide) (by decide)
        case mul3 => exact cmul_l (by decide) (by decide)
        case mul4 => exact cmul_r (by omega) (by omega)
        case mod5 => exact (by decide : (0 : Int) < 2305843009213693921)
        case sz6 => exact Nat.le_of_lt (small2000 (n := 3) (by decide))
        case ret7 =>
          refine ⟨rfl, q p _ _ ⟨?_, ⟨Int.emod_nonneg _ (by decide), ?_⟩, Int.le_refl 0, Int.le_refl 0⟩⟩
          · refine Int.mul_nonneg (Int.emod_nonneg _ (by decide +kernel)) (by split <;> decide)
          · exact Int.lt_trans (Int.emod_lt_of_pos _ (by decide)) (by decide)
    refine wss_cons (ws_set 2 (w_ifExp (wt_cmp dop_lt (w_var 1 (w_scLen 0 m_len rfl ⟨rfl, rfl, ⟨_, rfl, fun h => ?_, fun h => ?_⟩⟩)))) sc9.nd)
    · have h1 : i < ns.length := of_decide_eq_true h
      have e : ns[i.toNat]? = some ns[i.toNat] := List.getElem?_eq_getElem (by omega)
      have ei : i = ((i.toNat : Nat) : Int) := by omega
      exact w_scIx 0 1 (m := ns[i.toNat]) rfl rfl ((congrArg (atI ns) ei).trans (atI_nat e)) ⟨Nat.lt_of_sub_eq_succ rfl, rest _⟩
    · exact w_bin dop_add (w_bin dop_mul (w_int (w_var 1 ⟨rfl, rfl, cmul_l (by decide) (by decide), (w_int ⟨rfl, rfl, ⟨Nat.lt_of_sub_eq_succ rfl, rest _⟩⟩)⟩)))
def spTake : Spc := fun ts QT _ => ∃ (p : Addr) (n a b c u : Int), ts = [.lst p (potD a b c), .va (.int u)] ∧ PotOk n a b c ∧ n ≤ 1000000 ∧ (0 < u ∧ u ≤ 1000000000000) ∧ ∀ a' b' c' d, PotOk (n + 1) a' b' c' → 0 ≤ d → d < u → QT (.va (.int d)) [some (.lst p (potD a' b' c')), none]
theorem ix5 (m : Int) : ∃ d, atI [PyData.int 2147483647, .int 2147483629, .int 2147483587, .int 2147483579, .int 2147483563] (m % 5) = some (.int d) ∧ 0 < d ∧ d ≤ 2147483647 := by
  have h0 := Int.emod_nonneg m (b := 5) (by decide)
  have h1 := Int.emod_lt_of_pos m (b := 5) (by decide)
  have : m % 5 = 0 ∨ m % 5 = 1 ∨ m % 5 = 2 ∨ m % 5 = 3 ∨ m % 5 = 4 := by omega
  rcases this with e | e | e | e | e <;> rw [e] <;> exact ⟨_, rfl, by decide, by decide⟩
theorem g_take {f : Addr} {fd : FuncData} {k : Nat} (Fn : Fun K "_law_draw" "_law_draw" (topS 46) f fd) : FnG P w K mg base Tq (k + 1) f fd ["_law_well_here", "_law_many"] spTake := by
  refine fn_g Fn sc10 (fun ts Q E h => ?_) fun cdv A outer s H E Z ts QT ET hr hgd hp tk h => ?_
  · obtain ⟨p, n, a, b, c, u, rfl, _⟩ := h
    rfl
  · obtain ⟨p, n, a, b, c, u, rfl, ⟨ha, ⟨hb0, hb⟩, hc0, hc⟩, hn, ⟨hu0, hu⟩, q⟩ := h
    refine wss_cons (ws_if (wt_cmp dop_gt (w_ix (w_var 0 ((w_int (⟨rfl, rfl, _, rfl, (w_int (⟨rfl, rfl, _, rfl, ⟨fun h => ?then2, fun h => ?else3⟩⟩))⟩)))))))
    case then2 =>
      refine wss_cons (ws_set 2 (w_bin dop_mod (w_ix (w_var 0 ((w_int (⟨rfl, rfl, _, rfl, (w_var 1 (⟨rfl, rfl, hu0, ⟨Nat.lt_of_sub_eq_succ rfl, ?nxa⟩⟩))⟩)))))) sc10.nd)
      refine wss_cons (ws_setix (w_bin dop_fdiv (w_ix (w_var 0 ((w_int (⟨rfl, rfl, _, rfl, (w_var 1 (⟨rfl, rfl, ⟨hu0, by omega⟩, (w_var 0 (⟨_, _, _, rfl, (w_int (⟨_, rfl, _, _, 0, rfl, rfl, rfl, ?nxb⟩))⟩))⟩))⟩)))))))
      refine wss_one (ws_ret (w_var 2 ?_))
      have ha' : 0 ≤ a / u := Int.ediv_nonneg ha (Int.le_of_lt hu0)
      exact ⟨rfl, q _ _ _ _ ⟨ha', ⟨hb0, hb⟩, hc0, by omega⟩ (Int.emod_nonneg _ (by omega)) (Int.emod_lt_of_pos _ hu0)⟩
    case else3 =>
      refine wss_nil ?_
      refine wss_cons (ws_setix (w_bin dop_add (w_ix (w_var 0 ((w_int (⟨rfl, rfl, _, rfl, (w_int (⟨rfl, rfl, (w_var 0 (⟨_, _, _, rfl, (w_int (⟨_, rfl, _, _, 2, rfl, rfl, rfl, ?nxc⟩))⟩))⟩))⟩)))))))
      obtain ⟨pr, hpr, hp0, hp1⟩ := ix5 (c + 1)
      refine wss_cons (ws_set 3 (w_ix (w_lst ⟨rfl, (w_int (⟨rfl, (w_int (⟨rfl, (w_int (⟨rfl, (w_int (⟨rfl, (w_int (⟨Nat.le_of_lt (small2000 (n := 5) (by decide)), fun p => (w_bin dop_mod (w_ix (w_var 0 ((w_int (⟨rfl, rfl, _, rfl, (w_int (⟨rfl, rfl, (by decide : (0 : Int) < 5), ⟨rfl, rfl, _, hpr, ⟨Nat.lt_of_sub_eq_succ rfl, ?nxd⟩⟩⟩))⟩))))))⟩))⟩))⟩))⟩))⟩))⟩)) sc10.nd)
      refine wss_cons (ws_set 4 (w_bin dop_mod (w_bin dop_pow (w_bin dop_add (w_bin dop_add (w_ix (w_var 0 ((w_int (⟨rfl, rfl, _, rfl, (w_bin dop_mul (w_bin dop_mul (w_int ((w_ix (w_var 0 ((w_int (⟨rfl, rfl, _, rfl, ⟨rfl, rfl, ?mulA, (w_ix (w_var 0 ((w_int (⟨rfl, rfl, _, rfl, ⟨rfl, rfl, ?mulB, ⟨rfl, rfl, (w_int (⟨rfl, rfl, (w_int (⟨rfl, rfl, ?pow6, (w_var 3 (⟨rfl, rfl, hp0, ⟨Nat.lt_of_sub_eq_succ rfl, ?nx8⟩⟩))⟩))⟩))⟩⟩⟩)))))⟩⟩)))))))))⟩))))))))) sc10.nd)
      case mulA => exact cmul_l (by decide) (by decide)
      case mulB => exact cmul_r (by omega) (by omega)
      case pow6 =>
        have h1 : 65537 * (c + 1) * (c + 1) ≤ 65537 * 1000001 * 1000001 := Int.mul_le_mul (by omega) (by omega) (by omega) (by decide)
        have h2 : 0 ≤ 65537 * (c + 1) * (c + 1) := Int.mul_nonneg (by omega) (by omega)
        refine .inl ⟨by decide, by decide, ?_⟩
        have h3 : 0 ≤ b + 65537 * (c + 1) * (c + 1) + 37 := by omega
        have h4 : b + 65537 * (c + 1) * (c + 1) + 37 < 2 ^ 64 := by omega
        omega
      case nx8 =>
        have m0 := Int.emod_nonneg ((b + 65537 * (c + 1) * (c + 1) + 37) ^ (3 : Int).toNat) (b := pr) (by omega)
        have m1 := Int.emod_lt_of_pos ((b + 65537 * (c + 1) * (c + 1) + 37) ^ (3 : Int).toNat) hp0
        refine wss_one (ws_ret (w_bin dop_mod (w_bin dop_fdiv (w_bin dop_mod (w_bin dop_mul (w_var 4 ((w_bin dop_add (w_bin dop_mod (w_var 4 ((w_int (⟨rfl, rfl, (by decide : (0 : Int) < 10007), (w_bin dop_mul (w_int ((w_ix (w_var 0 ((w_int (⟨rfl, rfl, _, rfl, ⟨rfl, rfl, ?mul3, ⟨rfl, rfl, ⟨rfl, rfl, ?mul4, (w_int (⟨rfl, rfl, (by decide : (0 : Int) < 2305843009213693907), (w_int (⟨rfl, rfl, ⟨by decide, by decide⟩, (w_var 1 (⟨rfl, rfl, hu0, ?ret8⟩))⟩))⟩))⟩⟩⟩⟩))))))))⟩)))))))))))))
        case mul3 => exact cmul_l (by decide) (by decide)
        case mul4 => exact cmul_l (Int.lt_of_lt_of_le (by decide) m0) (Int.lt_trans m1 (Int.lt_of_le_of_lt hp1 (by decide)))
        case ret8 => exact ⟨rfl, q _ _ _ _ ⟨ha, ⟨hb0, hb⟩, by omega, by omega⟩ (Int.emod_nonneg _ (by omega)) (Int.emod_lt_of_pos _ hu0)⟩
/-- what a draw from some things gives -/
def spOf : Spc := fun ts QT _ => ∃ (p : Addr) (n a b c : Int) (ds : List D) (t2 : T) (r2 : Option T), ts = [.lst p (potD a b c), t2] ∧ ((t2 = .va (.list ds) ∧ r2 = none) ∨ ∃ q, t2 = .lst q ds ∧ r2 = some (.lst q ds)) ∧ PotOk n a b c ∧ n ≤ 1000000 ∧ (0 < ds.length ∧ ds.length ≤ 100000) ∧
  ∀ a' b' c' d, PotOk (n + 1) a' b' c' → d ∈ ds → QT (.va d) [some (.lst p (potD a' b' c')), r2]
theorem at_pos {ds : List D} {d : Int} (h0 : 0 ≤ d) (h1 : d < ds.length) : ∃ y, atI ds d = some y ∧ y ∈ ds := by
  have hl : d.toNat < ds.length := by omega
  have e : ds[d.toNat]? = some ds[d.toNat] := List.getElem?_eq_getElem hl
  have ed : d = ((d.toNat : Nat) : Int) := by omega
  exact ⟨_, (congrArg (atI ds) ed).trans (atI_nat e), List.getElem_mem hl⟩
theorem g_of {f : Addr} {fd : FuncData} {k : Nat} (Fn : Fun K "_law_pick" "_law_pick" (topS 47) f fd) (G__law_draw : Df P w K mg base Tq (k + 1) "_law_draw" ["_law_well_here", "_law_many"] spTake) (m_len : mg "len" = none) : FnG P w K mg base Tq (k + 2) f fd ["_law_well_here", "_law_some"] spOf := by
  refine fn_g Fn sc11 (fun ts Q E h => ?_) fun cdv A outer s H E Z ts QT ET hr hgd hp tk h => ?_
  · obtain ⟨p, n, a, b, c, ds, t2, r2, rfl, _⟩ := h
    rfl
  · obtain ⟨p, n, a, b, c, ds, t2, r2, rfl, h2, hpot, hn, ⟨hl0, hl⟩, q⟩ := h
    rcases h2 with ⟨rfl, rfl⟩ | ⟨z, rfl, rfl⟩
    · refine wss_one (ws_ret (w_ix (w_var 1 ((w_fn G__law_draw hr hgd ⟨rfl, (w_var 0 (⟨rfl, (w_callB dc_len m_len rfl ⟨rfl, (w_var 1 (⟨rfl, ?call1⟩))⟩)⟩))⟩)))))
      refine ⟨rfl, p, n, a, b, c, (ds.length : Int), rfl, hpot, hn, ⟨by omega, by omega⟩, fun a' b' c' d hpot' h0 h1 => ?_⟩
      obtain ⟨y, hy, hm⟩ := at_pos h0 h1
      exact ⟨rfl, rfl, rfl, rfl, y, hy, rfl, q _ _ _ _ hpot' hm⟩
    · refine wss_one (ws_ret (w_ix (w_var 1 ((w_fn G__law_draw hr hgd ⟨rfl, (w_var 0 (⟨rfl, (w_callB dc_len m_len rfl ⟨rfl, (w_var 1 (⟨rfl, ?call2⟩))⟩)⟩))⟩)))))
      refine ⟨rfl, p, n, a, b, c, (ds.length : Int), rfl, hpot, hn, ⟨by omega, by omega⟩, fun a' b' c' d hpot' h0 h1 => ?_⟩
      obtain ⟨y, hy, hm⟩ := at_pos h0 h1
      exact ⟨rfl, rfl, rfl, rfl, y, hy, rfl, rfl, q _ _ _ _ hpot' hm⟩
end
section
variable {P : Program} {w : World} {K : PySem.W.Frag} {mg : Str → Option Value} {base : Heap} {Tq : List (Addr × Str)}
def spOfI : Spc := fun ts QT _ => ∃ (p : Addr) (n a b c : Int) (xs : List Int) (lo hi : Int) (t2 : T) (r2 : Option T), ts = [.lst p (potD a b c), t2] ∧ ((t2 = .va (.list (iDs xs)) ∧ r2 = none) ∨ ∃ q, t2 = .lst q (iDs xs) ∧ r2 = some (.lst q (iDs xs))) ∧ PotOk n a b c ∧ n ≤ 1000000 ∧ (0 < xs.length ∧ xs.length ≤ 100000) ∧ (∀ x ∈ xs, lo ≤ x ∧ x ≤ hi) ∧
  ∀ a' b' c' x, PotOk (n + 1) a' b' c' → lo ≤ x → x ≤ hi → x ∈ xs → QT (.va (.int x)) [some (.lst p (potD a' b' c')), r2]
theorem g_ofI {f : Addr} {fd : FuncData} {k : Nat} (Fn : Fun K "_law_pick" "_law_pick" (topS 47) f fd) (G__law_draw : Df P w K mg base Tq (k + 1) "_law_draw" ["_law_well_here", "_law_many"] spTake) (m_len : mg "len" = none) : FnG P w K mg base Tq (k + 2) f fd ["_law_well_here", "_law_some"] spOfI :=
  (g_of Fn G__law_draw m_len).weaken fun ts QT ET ⟨p, n, a, b, c, xs, lo, hi, t2, r2, e, h0, h1, h2, h3, h4, q⟩ => ⟨p, n, a, b, c, iDs xs, t2, r2, e, h0, h1, h2, by rw [List.length_map]; exact h3, fun a' b' c' d hp hm => by
    obtain ⟨x, hx, rfl⟩ := List.mem_map.mp hm
    exact q a' b' c' x hp (h4 x hx).1 (h4 x hx).2 hx⟩
end
end K92

/-! QTp: x, y, z = data, data, anything. -/
namespace QL
open PySem PySem.Spec PyProof.Rows L2
variable {Tq : List (Addr × Str)} {Z : Zb Tq} {X : Cx} {env : Env} {PO : Out → Prop} {a b c : Expr} {pos : Pos}
end QL

/-! QTq: xs.count(x). -/
namespace QL
open PySem PySem.Spec PyProof.Rows L2
end QL
namespace QL
open PySem PySem.Spec PyProof.Rows L2
end QL

/-! QLf: xs.index(x) of data. -/
namespace QL
open PySem PySem.Spec PyProof.Rows L2
end QL

namespace K92
open PySem PySem.Spec PyProof.Rows L2 QL
open LM
def isI : D → Bool
  | .int _ => true
  | _ => false
def btw (d : D) (lo hi : Int) : Bool := match d with
  | .int i => decide (lo ≤ i) && decide (i ≤ hi)
  | _ => false
theorem isB_int (d : D) : isB d "int" = true → (!isB d "bool") = isI d := by cases d <;> simp [isB, tyD, isI]
theorem isB_int0 (d : D) : isB d "int" = false → isI d = false := by cases d <;> simp [isB, tyD, isI]
theorem isB_tup (d : D) : isB d "tuple" = true → ∃ ds, d = .tuple ds := by cases d <;> simp [isB, tyD]
theorem isI_int (d : D) : isI d = true → ∃ i, d = .int i := by cases d <;> simp [isI]
theorem btw_no (d : D) (lo hi : Int) : isI d = false → btw d lo hi = false := by cases d <;> simp [isI, btw]
def spIsI : Spc := fun ts QT _ => ∃ d, ts = [.va d] ∧ QT (.va (.bool (isI d))) [none]
def spBtw : Spc := fun ts QT _ => ∃ d lo hi, ts = [.va d, .va (.int lo), .va (.int hi)] ∧ QT (.va (.bool (btw d lo hi))) [none, none, none]
def wordsB (wd : Int) (d : D) : Bool := match d with
  | .tuple ds => ds.all fun x => btw x 1 wd
  | _ => false
def textB (wd : Int) (d : D) : Bool := match d with
  | .tuple ds => (ds.all fun x => btw x 1 wd) && decide (ds.length ≤ 300)
  | _ => false
theorem isB_tup0 (d : D) (wd : Int) : isB d "tuple" = false → wordsB wd d = false ∧ textB wd d = false := by cases d <;> simp [isB, tyD, wordsB, textB]
theorem all_btw1 {wd : Int} : ∀ {ws : List Int}, (∀ x ∈ ws, 1 ≤ x ∧ x ≤ wd) → ((iDs ws).all fun x => btw x 1 wd) = true
  | [], _ => rfl
  | x :: ws, h => by
    have h1 := h x List.mem_cons_self
    show (btw (.int x) 1 wd && (iDs ws).all fun x => btw x 1 wd) = true
    rw [all_btw1 fun y hy => h y (List.mem_cons_of_mem _ hy), Bool.and_true]
    show (decide (1 ≤ x) && decide (x ≤ wd)) = true
    rw [decide_eq_true h1.1, decide_eq_true h1.2]; rfl
theorem textB_ok {wd : Int} {ws : List Int} (h : ∀ x ∈ ws, 1 ≤ x ∧ x ≤ wd) (hl : ws.length ≤ 300) : textB wd (.tuple (iDs ws)) = true := by
  show (((iDs ws).all fun x => btw x 1 wd) && decide ((iDs ws).length ≤ 300)) = true
  rw [all_btw1 h, List.length_map, decide_eq_true hl]; rfl
theorem btw_ok {i lo hi : Int} (h : lo ≤ i ∧ i ≤ hi) : btw (.int i) lo hi = true := by
  show (decide (lo ≤ i) && decide (i ≤ hi)) = true
  rw [decide_eq_true h.1, decide_eq_true h.2]; rfl
section
variable {P : Program} {w : World} {K : PySem.W.Frag} {mg : Str → Option Value} {base : Heap} {Tq : List (Addr × Str)}
abbrev N_is_integer : List Str := ["value"]
theorem sc_is_integer : FnScope N_is_integer ["value"] (defScope (topS 11)) := ⟨rfl, rfl, rfl, by decide +kernel, rfl, by decide +kernel, by decide +kernel⟩
theorem g_is_integer {f : Addr} {fd : FuncData} {k : Nat} (Fn : Fun K "is_integer" "is_integer" (topS 11) f fd) (m_bool : mg "bool" = none) (m_int : mg "int" = none) (m_isinstance : mg "isinstance" = none) : FnG P w K mg base Tq (k + 1) f fd ["value"] spIsI := by
  refine fn_g Fn sc_is_integer (fun ts Q E h => ?_) fun cdv A outer s H E Z ts QT ET hr hgd hp tk h => ?_
  · obtain ⟨dv, rfl, q⟩ := h; rfl
  · obtain ⟨dv, rfl, q⟩ := h
    -- line 35
    refine wss_one (ws_ret (w_and (w_isi (w_var 0 ⟨rfl, ⟨_, rfl, fun h => (w_one (w_not (w_isi (w_var 0 ⟨rfl, ⟨_, rfl, ?_⟩⟩) kit_bool m_isinstance m_bool rfl))), fun h => ?_⟩⟩) kit_int m_isinstance m_int rfl)))
    · have e := isB_int dv h
      show QT (.va (.bool (!isB dv "bool"))) [none]
      rw [e]; exact q
    · have e := isB_int0 dv h
      rw [e] at q; exact q
abbrev N_is_between : List Str := ["value", "least", "most"]
theorem sc_is_between : FnScope N_is_between ["value", "least", "most"] (defScope (topS 12)) := ⟨rfl, rfl, rfl, by decide +kernel, rfl, by decide +kernel, by decide +kernel⟩
theorem g_is_between {f : Addr} {fd : FuncData} {k : Nat} (Fn : Fun K "is_between" "is_between" (topS 12) f fd) (G_is_integer : Df P w K mg base Tq k "is_integer" ["value"] spIsI) : FnG P w K mg base Tq (k + 1) f fd ["value", "least", "most"] spBtw := by
  refine fn_g Fn sc_is_between (fun ts Q E h => ?_) fun cdv A outer s H E Z ts QT ET hr hgd hp tk h => ?_
  · obtain ⟨dv, lo, hi, rfl, q⟩ := h; rfl
  · obtain ⟨dv, lo, hi, rfl, q⟩ := h
    cases hI : isI dv
    · rw [btw_no dv lo hi hI] at q
      refine wss_one (ws_ret (w_and (w_fn G_is_integer hr hgd ⟨rfl, (w_var 0 ⟨_, rfl, ⟨_, rfl, fun h => ?_, fun h => ?_⟩⟩)⟩)))
      · exact absurd (hI.symm.trans h) (by decide)
      · exact q
    · obtain ⟨i, rfl⟩ := isI_int dv hI
      refine wss_one (ws_ret (w_and (w_fn G_is_integer hr hgd ⟨rfl, (w_var 0 ⟨_, rfl, ⟨_, rfl, fun h => (w_one (w_chain dop_le dop_le (w_var 1 (w_var 0 ⟨rfl, rfl, _, rfl, fun h => (w_var 2 ⟨rfl, rfl, ?_⟩), fun h => ?_⟩)))), fun h => ?_⟩⟩)⟩)))
      · have e : btw (.int i) lo hi = decide (i ≤ hi) := by
          show (decide (lo ≤ i) && decide (i ≤ hi)) = _
          rw [show decide (lo ≤ i) = true from h, Bool.true_and]
        rw [e] at q; exact q
      · have e : btw (.int i) lo hi = false := by
          show (decide (lo ≤ i) && decide (i ≤ hi)) = _
          rw [show decide (lo ≤ i) = false from h, Bool.false_and]
        rw [e] at q; exact q
      · exact absurd h (by simp [isI])
end
theorem sc5 : FnScope ["value"] ["value"] (defScope (topS 13)) := ⟨rfl, rfl, rfl, by decide +kernel, rfl, by decide +kernel, by decide +kernel⟩
theorem sc6 : FnScope ["width", "value", "word"] ["width", "value"] (defScope (topS 14)) := ⟨rfl, rfl, rfl, by decide +kernel, rfl, by decide +kernel, by decide +kernel⟩
theorem sc7 : FnScope ["width", "value"] ["width", "value"] (defScope (topS 15)) := ⟨rfl, rfl, rfl, by decide +kernel, rfl, by decide +kernel, by decide +kernel⟩
section
variable {P : Program} {w : World} {K : PySem.W.Frag} {mg : Str → Option Value} {base : Heap} {Tq : List (Addr × Str)}
def spWidth : Spc := fun ts QT _ => ∃ d, ts = [.va d] ∧ QT (.va (.bool (btw d 1 1000000000))) [none]
theorem g_width {f : Addr} {fd : FuncData} {k : Nat} {t : Tok} (Fn : Fun K "is_width" "is_width" (topS 13) f fd) (G_is_between : Df P w K mg base Tq (k + 2) "is_between" ["value", "least", "most"] spBtw) (m_mw : mg "MOST_WIDTH" = some (.int 1000000000 t)) : FnG P w K mg base Tq (k + 3) f fd ["value"] spWidth := by
  refine fn_g Fn sc5 (fun ts Q E h => ?_) fun cdv A outer s H E Z ts QT ET hr hgd hp tk h => ?_
  · obtain ⟨d, rfl, _⟩ := h
    rfl
  · obtain ⟨d, rfl, q⟩ := h
    exact wss_one (ws_ret (w_fn G_is_between hr hgd ⟨rfl, (w_var 0 (⟨rfl, (w_int (⟨rfl, (w_glob (v := .int 1000000000) (d := .int 1000000000) m_mw ⟨t, rfl⟩ (fun _ => .int _) ⟨d, 1, 1000000000, rfl, q⟩)⟩))⟩))⟩))
/-- what is_text and its parts ask; the thing is not too long -/
def notLong (d : D) : Prop := match d with
  | .tuple ds => ds.length ≤ 2000
  | _ => True
def spWords : Spc := fun ts QT _ => ∃ wd d, ts = [.va (.int wd), .va d] ∧ notLong d ∧ QT (.va (.bool (wordsB wd d))) [none, none]
theorem g_words {f : Addr} {fd : FuncData} {k : Nat} (Fn : Fun K "are_words" "are_words" (topS 14) f fd) (G_is_between : Df P w K mg base Tq (k + 2) "is_between" ["value", "least", "most"] spBtw) (m_isi : mg "isinstance" = none) (m_tuple : mg "tuple" = none) (m_all : mg "all" = none) : FnG P w K mg base Tq (k + 3) f fd ["width", "value"] spWords := by
  refine fn_g Fn sc6 (fun ts Q E h => ?_) fun cdv A outer s H E Z ts QT ET hr hgd hp tk h => ?_
  · obtain ⟨wd, d, rfl, _⟩ := h
    rfl
  · obtain ⟨wd, d, rfl, hn, q⟩ := h
    refine wss_one (ws_ret (w_and (w_isi (w_var 1 (⟨rfl, ⟨_, rfl, fun h => ?yes, fun h => ?no⟩⟩)) kit_tuple m_isi m_tuple rfl)))
    case no =>
      rw [(isB_tup0 d wd h).1] at q
      exact q
    case yes =>
      obtain ⟨ds, rfl⟩ := isB_tup d h
      have hl : ds.length ≤ 2000 := hn
      refine w_one (w_callB (dc_all rfl) m_all rfl ⟨rfl, w_lc (own := [("word", 2)]) rfl sc6.nd (blkOk_by (N := ["width", "value", "word"]) (sc := defScope (topS 14)) (by decide +kernel)) (fun _ _ _ _ _ => pg_name (i := 2) sc6.nd rfl (Or.inl rfl)) (gok_name 2) (by decide) (wi_tup (w_var 1 ?lc))⟩)
      refine ⟨fun j acc e => acc = ((ds.take j).map fun x => btw x 1 wd).map PyData.bool ∧ e = [some (.va (.int wd)), some (.va (.tuple ds)), none], ⟨rfl, rfl⟩, ?_, ?_⟩
      · rintro j x acc e hd ⟨rfl, rfl⟩
        have hj := (List.getElem?_eq_some_iff.mp hd).1
        refine ⟨Nat.lt_of_sub_eq_succ rfl, fun _ => ?_, fun z => nomatch z⟩
        intro s2 H2 C cl fp
        refine w_fn G_is_between hr hgd ⟨rfl, w_var 2 ⟨rfl, w_int ⟨rfl, w_var 0 ⟨x, 1, wd, rfl, ?_, ?_, rfl⟩⟩⟩⟩
        · rw [List.length_map, List.length_map, List.length_take]
          exact small2000 (by omega)
        · rw [List.take_add_one, hd]
          simp only [List.map_append]
          rfl
      · rintro acc e ⟨rfl, rfl⟩ p
        refine ⟨rfl, (ds.take ds.length).map fun x => btw x 1 wd, rfl, ?_⟩
        have e : ((ds.take ds.length).map fun x => btw x 1 wd).all id = wordsB wd (.tuple ds) := by
          rw [List.take_length, List.all_map]
          rfl
        show QT (.va (.bool (((ds.take ds.length).map fun x => btw x 1 wd).all id))) [none, none]
        rw [e]
        exact q
def spText : Spc := fun ts QT _ => ∃ wd d, ts = [.va (.int wd), .va d] ∧ notLong d ∧ QT (.va (.bool (textB wd d))) [none, none]
theorem g_text {f : Addr} {fd : FuncData} {k : Nat} {t : Tok} (Fn : Fun K "is_text" "is_text" (topS 15) f fd) (G_are_words : Df P w K mg base Tq (k + 3) "are_words" ["width", "value"] spWords) (m_len : mg "len" = none) (m_mw : mg "MOST_WORDS" = some (.int 300 t)) : FnG P w K mg base Tq (k + 4) f fd ["width", "value"] spText := by
  refine fn_g Fn sc7 (fun ts Q E h => ?_) fun cdv A outer s H E Z ts QT ET hr hgd hp tk h => ?_
  · obtain ⟨wd, d, rfl, _⟩ := h
    rfl
  · obtain ⟨wd, d, rfl, hn, q⟩ := h
    refine wss_one (ws_ret (w_and (w_fn G_are_words hr hgd ⟨rfl, (w_var 0 (⟨rfl, (w_var 1 (?call1a))⟩))⟩)))
    refine ⟨wd, d, rfl, hn, ⟨_, rfl, fun h => ?yes, fun h => ?no⟩⟩
    case no =>
      have e : textB wd d = false := by
        cases d with
        | tuple ds =>
          have h : (ds.all fun x => btw x 1 wd) = false := h
          show ((ds.all fun x => btw x 1 wd) && decide (ds.length ≤ 300)) = false
          rw [h, Bool.false_and]
        | _ => rfl
      rw [e] at q
      exact q
    case yes =>
      have hd : ∃ ds, d = .tuple ds := by
        cases d with
        | tuple ds => exact ⟨ds, rfl⟩
        | _ => exact Bool.noConfusion h
      obtain ⟨ds, rfl⟩ := hd
      refine (w_one (w_cmp dop_le (w_callB dc_len m_len rfl ⟨rfl, (w_var 1 (⟨rfl, (w_glob (v := .int 300) (d := .int 300) m_mw ⟨t, rfl⟩ (fun _ => .int _) (⟨rfl, rfl, ?ret1b⟩))⟩))⟩)))
      have e : textB wd (.tuple ds) = decide ((ds.length : Int) ≤ 300) := by
        have h : (ds.all fun x => btw x 1 wd) = true := h
        show ((ds.all fun x => btw x 1 wd) && decide (ds.length ≤ 300)) = _
        rw [h, Bool.true_and]
        by_cases z : ds.length ≤ 300
        · rw [decide_eq_true z, decide_eq_true (by omega)]
        · rw [decide_eq_false z, decide_eq_false (by omega)]
      rw [e] at q
      exact q
end
section
variable {P : Program} {w : World} {K : PySem.W.Frag} {mg : Str → Option Value} {base : Heap} {Tq : List (Addr × Str)}
theorem sce_BadPlace : FnScope ["self", "value"] ["self", "value"] (defScope (inClass (topS 3) 0)) := ⟨rfl, rfl, rfl, by decide +kernel, rfl, by decide +kernel, by decide +kernel⟩
theorem init_BadPlace {f : Addr} {fd : FuncData} {k : Nat} {aT aB : Addr} {mc : Value} (Fn : Fun K "__init__" "BadPlace.__init__" (inClass (topS 3) 0) f fd)
    (mB : mg "LineError" = some (.ref aB)) (r : ClX.CRead K aB mc) (hk : PySem.W.findCls K (.ref aB) mc "__init__" = some (.val (.builtin "ValueError.__init__"))) (no : PySem.W.findIn K (.ref aT) "value" = some none) :
    FnOk P w K mg base (L2.CX P w) (k + 1) f fd ["self", "value"] (spX K aT "value") := by
  obtain ⟨oc, od, kV, doc, pm, an, cdv, ct, osl, rfl, lk, hcd⟩ := Fn.ex
  refine fn_of (N := ["self", "value"]) lk hcd sce_BadPlace (fun vs H Q E h => ?_) fun A outer s H vs Q E hr h => ⟨_, pss_cons (ps_expr (pe_ownInit (B := aB) (mc := mc) rfl mB r hk (pa_cons (pe_var (i := 0) rfl (.inl rfl)) (pa_cons pe_str pa_nil)))) (pss_one (ps_ost (pe_var (i := 0) rfl (.inl rfl)) (pe_var (i := 1) rfl (.inl rfl)))), ?_⟩
  · obtain ⟨a, v, e, _⟩ := h
    subst e
    rfl
  · obtain ⟨a, v, e, T, ha, q⟩ := h
    subst e
    exact ⟨_, rfl, a, aT, _, rfl, by decide, T, ha, _, rfl, _, rfl, a, aT, rfl, T, no, .inl ⟨ha, fun dx n ne => q dx n ne⟩⟩
theorem sce_NothingToUndo : FnScope ["self"] ["self"] (defScope (inClass (topS 7) 0)) := ⟨rfl, rfl, rfl, by decide +kernel, rfl, by decide +kernel, by decide +kernel⟩
theorem init_NothingToUndo {f : Addr} {fd : FuncData} {k : Nat} {aT aB : Addr} {mc : Value} (Fn : Fun K "__init__" "NothingToUndo.__init__" (inClass (topS 7) 0) f fd)
    (mB : mg "LineError" = some (.ref aB)) (r : ClX.CRead K aB mc) (hk : PySem.W.findCls K (.ref aB) mc "__init__" = some (.val (.builtin "ValueError.__init__"))) :
    FnOk P w K mg base (L2.CX P w) (k + 1) f fd ["self"] (spX0 K aT) := by
  obtain ⟨oc, od, kV, doc, pm, an, cdv, ct, osl, rfl, lk, hcd⟩ := Fn.ex
  refine fn_of (N := ["self"]) lk hcd sce_NothingToUndo (fun vs H Q E h => ?_) fun A outer s H vs Q E hr h => ⟨_, pss_one (ps_expr (pe_ownInit (B := aB) (mc := mc) rfl mB r hk (pa_cons (pe_var (i := 0) rfl (.inl rfl)) (pa_cons pe_str pa_nil)))), ?_⟩
  · obtain ⟨a, e, _⟩ := h
    subst e
    rfl
  · obtain ⟨a, e, T, ha, q⟩ := h
    subst e
    exact ⟨_, rfl, a, aT, _, rfl, by decide, T, ha, q⟩
end
end K92

/-! QTg: a property read, len of an instance with its own __len__. -/
namespace QL
open PySem PySem.Spec PyProof.Rows L2
/-- a property as a promise -/
structure Pf (P : Program) (w : World) (K : PySem.W.Frag) (mg : Str → Option Value) (base : Heap) (Tq : List (Addr × Str)) (k : Nat) (C : Addr) (m : Str) (ps : List Str) (sp : Spc) : Prop where
  ex : ∃ p f fd, FnG P w K mg base Tq k f fd ps sp ∧ Cls K C ∧ PropOf K C m p f ∧ Binds K fd ps []
theorem Pf.mono {P : Program} {w : World} {K : PySem.W.Frag} {mg : Str → Option Value} {base : Heap} {Tq : List (Addr × Str)} {j k : Nat} {C : Addr} {m : Str} {ps : List Str} {sp : Spc} (G : Pf P w K mg base Tq j C m ps sp) (h : j ≤ k) : Pf P w K mg base Tq k C m ps sp :=
  let ⟨p, f, fd, g, r⟩ := G.ex; ⟨p, f, fd, g.mono h, r⟩
section
variable {Tq : List (Addr × Str)} {Z : Zb Tq} {X : Cx} {e a b c o value : Expr} {es : List Expr} {env : Env} {pos pos' apos p : Pos} {P : R → Env → Prop} {f x m : Str} {k : Nat} {C : Addr} {ps : List Str} {sp : Spc}
theorem guards_in1 {A : Around} (h : A.guards = some []) : A.in1.guards = some [] := by
  first | exact h | (simp [Around.in1, h])
/-- a def run from another place -/
theorem code_gA {A' : Around} {fa : Addr} {fd : FuncData} {as : List A} {vs : List V} {us us0 : List Value} {kw : List (Str × Value)} {pins : List (Addr × Obj)} {s : Shared} {σ : L2.St} {H F : Hp} {O : List Addr}
    (G : FnG X.prog X.w X.K X.mg X.base Tq k fa fd ps sp) (hr : Room k A') (hg : A'.guards = some []) (e0 : Env0 X.prog X.w X.K X.mg X.base A' X.stack s H) (hb : BindsTo s fd ⟨us0, kw⟩ (ps.zip us)) (I : Inv X pins σ H s) (b : Bas Z F H O) (o : OwE F H O σ env)
    (st : StAs F vs as) (r : Vals vs us) (h : callD sp as env (fun t e => P (.t t) e) fun _ _ => False) :
    codeAny (model X.prog X.w) A' (.call (.ref fa) ⟨us0, kw⟩) (fun rs s' => ∃ u, rs = .ok (.ret u) ∧ EP X pins σ (Post Z σ H F O P) u s') s := by
  obtain ⟨ts, e2, Oc, Or, pm, sv, o2, h⟩ := deref_ok st o h
  have bc := (b.perm pm).left.entry
  have ex : ∀ c ∈ Or, Held H c := o2.held
  refine codeAny_mono (G.run A' X.stack s H ⟨us0, kw⟩ us vs F Oc ts _ _ (fun cls d H' => ∃ e ts' F' O', Bas ⟨H, F, Oc, (b.perm pm).left.tabs⟩ F' H' O' ∧ StVO F' H' O' vs ts' ∧ ExAt F' e cls d ∧ putb as ts' e2 fun e3 => False) (b.perm pm).left.tabs hr hg e0 hb r bc sv h
    fun e ts' cls d H' F' O' b' s' x' q => ⟨e, ts', F', O', b', s', x', q⟩) fun rs s' hq => ?_
  have back : ∀ {F' H' : Hp} {O1 O2 : List Addr} {ts' : List (Option T)} {kk : Env → Prop}, Bas ⟨H, F, Oc, (b.perm pm).left.tabs⟩ F' H' (O1 ++ O2) → StVO F' H' O1 vs ts' → putb as ts' e2 kk →
      ∃ e3 O3, OwE F' H' O3 σ e3 ∧ Bas Z F' H' (O3 ++ O2) ∧ Frm Tq H F O H' F' (O3 ++ O2) ∧ kk e3 := fun {F' H' O1 O2 ts' kk} b' s' q => by
    have fr := b'.abs
    have b3 := Bas.frame fr (b.perm pm) b' ex
    have keep := fr.rest (R := Or) (pm.nodup b.nd) ex
    obtain ⟨e3, O3, Od, o3, p3, q3⟩ := putb_ok st s' (o2.stay fr.fz keep) q
    have p4 : ((O1 ++ O2) ++ Or).Perm ((O3 ++ O2) ++ Od) := by
      have e1 : ((O1 ++ O2) ++ Or).Perm ((O1 ++ Or) ++ O2) := by
        rw [List.append_assoc, List.append_assoc]
        exact List.perm_append_comm.append_left O1
      have e2 : ((O3 ++ O2) ++ Od).Perm ((O3 ++ Od) ++ O2) := by
        rw [List.append_assoc, List.append_assoc]
        exact List.perm_append_comm.append_left O3
      exact e1.trans ((p3.append_right O2).trans e2.symm)
    exact ⟨e3, O3, o3, (b3.perm p4).left, (fr.frame (R := Or)).perm (fun c => pm.symm.mem_iff) (fun c hc => p4.mem_iff.mpr (List.mem_append_left _ hc)), q3⟩
  cases rs with
  | error e =>
    refine False.elim (takes_no (Z := Z) (X := X.nox) e s' (XE.of_call (I.wish _) (fun cls d H' hE => ?_) hq))
    obtain ⟨x, ts', F', O', b', sv', xa, q⟩ := hE
    obtain ⟨e3, O3, o3, b3, fr3, q3⟩ := back (O2 := []) (by rw [List.append_nil]; exact b') sv' q
    exact q3.elim
  | ok fl =>
    cases fl with
    | ret u =>
      refine ⟨u, rfl, EP.imp (fun v H' q => ?_) u s' (I.after hq)⟩
      obtain ⟨F', O1, O2, t, ts', b', sv', w', q⟩ := q
      obtain ⟨e3, O3, o3, b3, fr3, q3⟩ := back b' sv' q
      exact ⟨F', O3 ++ O2, .t t, e3, b3, ⟨O3, O2, rfl, o3, w'⟩, fr3, q3⟩
    | next => exact hq.elim
    | brk => exact hq.elim
    | cont => exact hq.elim
/-- o.f, a property -/
theorem w_prop (G : Pf X.prog X.w X.K X.mg X.base Tq k C m ps sp) (hr : Room (k + 1) X.A) (hgd : X.A.guards = some [])
    (h : WE Z X o env fun r e1 => methR [] Z X C m r e1 fun as e2 => callD sp as e2 (fun t e => P (.t t) e) fun _ _ => False)
    (hab : attributeBase o m X.env (eval o X.env) = eval o X.env := by rfl) : WE Z X (.Attribute o m pos) env P := fun pins s σ H F O I b o0 => by
  obtain ⟨pa, fa, fd, g, c, hp, hb⟩ := G.ex
  refine attr_of hab (thn (h pins s σ H F O I b o0) fun u s1 ⟨v, H1, I1, rx, F1, O1, r, e1, b1, st, fr, q⟩ => ?_)
  obtain ⟨a, i, p, dx, vs, rfl, rfl, ea, hl, o1, q⟩ := methR_ok st q
  obtain rfl : u = Value.ref a := rx
  replace q : callD sp [.bor a i p] e1 (fun t e => P (R.t t) e) (fun _ _ => False) := q
  obtain ⟨mA, O, _, _, _, _⟩ := ins_get I1.hok ea
  obtain ⟨od, J, _⟩ := O.look
  obtain ⟨rest, hrec⟩ := hp.rec_
  have I2 := I1.tok (s1.toks + 1)
  have hl2 : ([Value.ref a] ++ []).length = ps.length := by
    obtain ⟨ts, e3, Oc, Or, pm, sv, o3, hh⟩ := deref_ok (as := [.bor a i p]) (vs := [.ref a]) (.cons rfl .nil) o1 q
    rw [← g.len _ _ _ hh, ← sv.len]
    rfl
  have hc : (PySem.W.clsIn X.K C).isSome = true := by
    obtain ⟨cd, hc, _⟩ := PySem.W.any_some c.hd
    rw [hc]
    rfl
  have hb2 := hb { s1 with toks := s1.toks + 1 } [Value.ref a] I2.kIn hl2
  rw [List.append_nil] at hb2
  refine PySem.W.get_bind I1.kIn J (PySem.W.plainGet_of (c.get m)).1 (PySem.W.findObj_data hc hp.at_ hp.get hp.tak) (PySem.W.plainGet_of (c.get m)).2 (wpAny_call (PySem.W.prop_get (s := { s1 with toks := s1.toks + 1 }) I1.kIn hrec ?_))
  refine codeAny_mono (code_gA (A' := X.A.in1) (us0 := [.ref a]) (kw := []) (us := [.ref a]) (vs := [.ref a]) (as := [.bor a i p]) g (Room.mono hr.in1 (Nat.le_refl _)) (guards_in1 hgd) I2.env0.in1 hb2 I2 b1 o1 (.cons rfl .nil) (.cons rfl .nil) q) fun rs s' ⟨u, hrs, hE⟩ => ?_
  subst hrs
  obtain ⟨v, H', I3, rv, q3⟩ := EP.imp (fun v H' q => q.from fr) u s' hE
  show wpAny _ _ (handedOut u) _ _ _
  rw [PySem.W.handedOut_of (handed_of rv)]
  exact wpAny_pure ⟨v, H', I3, rv, q3⟩
/-- len(o), o an instance with its own __len__ that answers an int -/
theorem w_lenO (G : Mf X.prog X.w X.K X.mg X.base Tq k C "__len__" ps sp) (hr : Room (k + 1) X.A) (hgd : X.A.guards = some []) (hm0 : X.mg "len" = none)
    (h : WE Z X o env fun r e1 => methR [] Z X C "__len__" r e1 fun as e2 => callD sp as e2 (fun t e => ∃ n : Nat, R.t t = .t (.va (.int (n : Int))) ∧ n ≤ 1000000 ∧ P (.t t) e) fun _ _ => False)
    (hg : Gl X "len" := by rfl)
    (he : starEach [o] X.env = (false, eval o X.env) :: starEach [] X.env := by rfl) (hpl : (backTo pos (starEach [] X.env)).any (·.1) = false := by rfl) : WE Z X (.Call (.Name "len" p) [o] [] pos) env P := fun pins s σ H F O I b o0 => by
  obtain ⟨fa, fd, g, c, hm, hb⟩ := G.ex
  refine wpAny_Call_Name_kw (ld_blt I hg hm0 PySem.boot_len ?_ (by decide) (by decide))
  refine PyProof.Rows.callWith_builtin1 (thn ((pa_cons (pe_E (Z := Z)) pa_nil he).run pos pins s σ H (fun xs H1 => ∃ v, xs = [v] ∧ Post Z σ H F O _ v H1) I ⟨env, F, O, _, b, o0, h, fun v H' q => ⟨v, rfl, q⟩⟩) fun us s1 ⟨vs0, H1, I1, r1, v, evs, F1, O1, r, e1, b1, st, fr, q⟩ => ?_) he hpl
  subst evs
  obtain ⟨u, rfl, rx⟩ := vals1 r1
  obtain ⟨a, i, p, dx, vs, rfl, rfl, ea, hl, o1, q⟩ := methR_ok st q
  obtain rfl : u = Value.ref a := rx
  replace q : callD sp [.bor a i p] e1 (fun t e => ∃ n : Nat, R.t t = .t (.va (.int (n : Int))) ∧ n ≤ 1000000 ∧ P (.t t) e) (fun _ _ => False) := q
  obtain ⟨mA, O, _, _, _, _⟩ := ins_get I1.hok ea
  obtain ⟨od, J, _⟩ := O.look
  obtain ⟨mf, hF⟩ := I1.fr
  have hl2 : ([Value.ref a] ++ []).length = ps.length := by
    obtain ⟨ts, e3, Oc, Or, pm, sv, o3, hh⟩ := deref_ok (as := [.bor a i p]) (vs := [.ref a]) (.cons rfl .nil) o1 q
    rw [← g.len _ _ _ hh, ← sv.len]
    rfl
  have hb2 := hb s1 [Value.ref a] I1.kIn hl2
  rw [List.append_nil] at hb2
  refine PySem.W.len_K hF I1.ok.mod.kin J hm.at_ hm.fn (wpAny_call (codeAny_mono (code_gA (P := fun r e => ∃ n : Nat, r = .t (.va (.int (n : Int))) ∧ n ≤ 1000000 ∧ P r e) (A' := X.A.in1) (us0 := [.ref a]) (kw := []) (us := [.ref a]) (vs := [.ref a]) (as := [.bor a i p]) g (Room.mono hr.in1 (Nat.le_refl _)) (guards_in1 hgd) I1.env0.in1 hb2 I1 b1 o1 (.cons rfl .nil) (.cons rfl .nil) q) fun rs s' ⟨u, hrs, hE⟩ => ?_))
  subst hrs
  obtain ⟨v, H', I3, rv, F2, O2, r2, e2, b2, st2, fr2, n, er, hn, q3⟩ := hE
  subst er
  obtain ⟨O3, O4, eO, o3, ow⟩ := st2
  cases ow with
  | va rr =>
    cases rr
    obtain ⟨tk, rfl⟩ := rv
    refine ⟨⟨by omega, by omega⟩, .int (n : Int), H', I3.tok _, ⟨_, rfl⟩, ?_⟩
    exact ⟨F2, O2, .t (.va (.int (n : Int))), e2, b2, ⟨O3, [], by rw [eO], o3, .va (.int _)⟩, fr.trans fr2, q3⟩
end
end QL

/-! QTh: displays with stars, what is starred only looked at. -/
namespace QL
open PySem PySem.Spec PyProof.Rows L2 StX
def WAv {Tq : List (Addr × Str)} (Z : Zb Tq) (X : Cx) : List Expr → Env → (List Sg → Env → Prop) → Prop
  | [], env, P => P [] env
  | e :: es, env, P => match starOf e with
    | some e' => (starEach (e :: es) X.env = (true, eval e' X.env) :: starEach es X.env) ∧ WA Z X e' env fun a e1 => View a e1 fun d => starD [d] fun xs => WAv Z X es e1 fun as e3 => P (.s xs :: as) e3
    | none => (starEach (e :: es) X.env = (false, eval e X.env) :: starEach es X.env) ∧ WA Z X e env fun a e1 => WAv Z X es e1 fun as e2 => P (.a a :: as) e2
/-- what stands for the items of a list that stays as it is -/
def PostV {Tq : List (Addr × Str)} (Z : Zb Tq) (σ : L2.St) (H0 F0 : Hp) (O0 : List Addr) (P : List Sg → Env → Prop) : List V → Hp → Prop := fun vs H => ∃ F O as env, Bas Z F H O ∧ OwE F H O σ env ∧ StAs F vs (flatS as) ∧ Frm Tq H0 F0 O0 H F O ∧ P as env
def tAv {Tq : List (Addr × Str)} (Z : Zb Tq) (X : Cx) (es : List Expr) : TA := fun σ H Q => ∃ env F O P, Bas Z F H O ∧ OwE F H O σ env ∧ WAv Z X es env P ∧ ∀ v H', PostV Z σ H F O P v H' → Q v H'
theorem pa_Av {Tq : List (Addr × Str)} {Z : Zb Tq} {X : Cx} : ∀ {es : List Expr}, PA X es (tAv Z X es)
  | [] => ⟨fun pos pins s σ H Q I ⟨env, F, O, P, b, o, w, q⟩ => pa_nil.run pos pins s σ H Q I (q [] H ⟨F, O, [], env, b, o, .nil, Frm.refl _ _ _, w⟩)⟩
  | e :: es => ⟨fun pos pins s σ H Q I ⟨env, F, O, P, b, o, w, q⟩ => by
    unfold WAv at w
    cases hs : starOf e with
    | none =>
      simp only [hs] at w
      have hp := pa_cons (X := X) (pe_A (Z := Z) (e := e)) (pa_Av (Z := Z) (es := es)) w.1
      refine hp.run pos pins s σ H Q I ⟨env, F, O, _, b, o, w.2, ?_⟩
      rintro v1 H1 ⟨F1, O1, a1, env1, b1, o1, st1, fr1, w1⟩
      refine ⟨env1, F1, O1, _, b1, o1, w1, ?_⟩
      rintro vs H2 ⟨F2, O2, as, env2, b2, o2, st2, fr2, w2⟩
      exact q _ _ ⟨F2, O2, .a a1 :: as, env2, b2, o2, .cons (st1.mono fr2.fz) st2, fr1.trans fr2, w2⟩
    | some e' =>
      simp only [hs] at w
      obtain ⟨p, rfl⟩ : ∃ p, e = .Starred e' p := by
        cases e with
        | Starred x p => cases hs; exact ⟨p, rfl⟩
        | _ => cases hs
      have hp := pa_star (X := X) (pe_A (Z := Z) (e := e')) (pa_Av (Z := Z) (es := es)) w.1
      refine hp.run pos pins s σ H Q I ⟨env, F, O, _, b, o, w.2, ?_⟩
      rintro v1 H1 ⟨F1, O1, a1, env1, b1, o1, st1, fr1, w1⟩
      obtain ⟨d, vw, w2⟩ := View.vw w1 o1 st1
      cases d with
      | tuple ds =>
        obtain ⟨p, xs, rfl, h3, r3⟩ := vw.tup
        refine ⟨_, _, rfl, .inl ((.inl (rd_mono b1.sub h3))), env1, F1, O1, _, b1, o1, w2, ?_⟩
        rintro vs H3 ⟨F3, O3, as, env3, b3, o3, st3, fr3, w3⟩
        exact q _ _ ⟨F3, O3, .s _ :: as, env3, b3, o3, (r3.mono fr3.fz).stas.app st3, fr1.trans fr3, w3⟩
      | list ds =>
        obtain ⟨p, xs, rfl, h3, r3⟩ := vw.lst' b1.sub
        refine ⟨_, _, rfl, .inr (SqL.of h3), env1, F1, O1, _, b1, o1, w2, ?_⟩
        rintro vs H3 ⟨F3, O3, as, env3, b3, o3, st3, fr3, w3⟩
        exact q _ _ ⟨F3, O3, .s _ :: as, env3, b3, o3, (r3.mono fr3.fz).stas.app st3, fr1.trans fr3, w3⟩
      | _ => exact w2.elim⟩
section
variable {Tq : List (Addr × Str)} {Z : Zb Tq} {X : Cx} {e a b c o tg iter elt : Expr} {es : List Expr} {env : Env} {pos : Pos} {P : R → Env → Prop}
/-- a tuple with stars -/
theorem w_tupV {x1 : _} (h : WAv Z X es env fun as env1 => absorbS as env1 fun ds env2 => ds.length ≤ sizeLine ∧ P (.t (.va (.tuple ds))) env2) : WE Z X (.Tuple es x1 pos) env P :=
  we_of (pe_tup (pa_Av (Z := Z))) fun σ H F O b o => ⟨env, F, O, _, b, o, h, fun vs H1 ⟨F1, O1, as, env1, b1, o1, st1, fr1, h1⟩ => by
    obtain ⟨F2, O2, ds, env2, b2, o2, r2, fr2, z, q⟩ := absorb_ok st1 b1 o1 (absorbS_flat h1)
    refine ⟨by rw [r2.len]; exact z, fun p hp => ?_⟩
    exact ((NewV.tup b2.sub r2 hp (k := fun t => t = .va (.tuple ds)) rfl).post b2 o2 (fun t e => by subst e; exact q)).from (fr1.trans fr2)⟩
end
end QL

/-! QTW: with C(..) as y, C a class with its own __enter__ and __exit__; the body raises nothing and goes on to its end. -/
namespace QL
open PySem PySem.Spec PyProof.Rows L2
end QL

/-! QTF: x, y, .. = things of one's own, by way of a tuple. -/
namespace QL
open PySem PySem.Spec PyProof.Rows L2
end QL

/-! QTPR: a pair of a written text and a thing of its own. -/
namespace QL
open PySem PySem.Spec PyProof.Rows L2
end QL

/-! QTPS: a property of what is made on the spot. -/
namespace QL
open PySem PySem.Spec PyProof.Rows L2
end QL

/-! QTEQ: == and != of instances with an __eq__ of their own. -/
namespace EqW
open PySem PySem.Spec PyProof.Rows PySem.SeqAt
section
variable {M : Model} {prog : Program} {w : World} {A : Around} {E : Value → Shared → Prop} {s : Shared} {K : PySem.W.Frag} {x C f dx : Addr} {ox : Obj} {od : Option Obj} {h₀ : Heap} {L : Addr} {m : Str → Option Value}
theorem ifBound_objNe {args : List Value} {Q : Option Value → Shared → Prop} (X : K.In s.heap) (I : PySem.W.InstAt s.heap x ox C od) (hs : PySem.W.findIn K (.ref C) "__ne__" = some (some (.builtin "object.__ne__")))
    (h : wpAny M A (call (.builtin "object.__ne__") (.ref x :: args)) (fun v => Q (some v)) E s) : wpAny M A (callSpecialIfBound? (.ref x) "__ne__" args) Q E s := by
  simp only [callSpecialIfBound?, bindSpecialIfBound?]
  refine wpAny_holding (wpAny_bind (wpAny_bind (wpAny_bind (I.type.here ((PySem.W.looks_findIn X hs).here ?_)))))
  refine wpAny_bind (wpAny_askSetting (wpAny_ite ?_))
  have fin : wpAny M A (call (.builtin "object.__ne__") ([.ref x] ++ args) >>= fun v => pure (some v)) Q E s := wpAny_bind (wpAny_mono h (fun v s' h' => wpAny_pure h') fun _ _ h' => h')
  split
  · exact wpAny_bind (wpAny_of_eq (F.cmp_object.ne.bind _) (wpAny_pure (by exact fin)))
  · exact wpAny_tryCatch (wpAny_bind (wpAny_of_eq (F.cmp_object.ne.bind _) (wpAny_pure (by exact fin))))
theorem entry_objNe {b : Value} {Q : Fin → Shared → Prop} (hu : A.units < cLine) (X : K.In s.heap) (I : PySem.W.InstAt s.heap x ox C od) (hs : PySem.W.findIn K (.ref C) "__eq__" = some (some (.ref f))) (hf : PySem.W.isFn K (.ref f) = true)
    (h : wpAny (model prog w) A (call (.ref f) [.ref x, b]) (fun v s' => ∃ k, v = .bool k ∧ Q (.done (.ret (.bool (!k)))) s') E s) :
    wpAny (model prog w) A (Builtin.«object.__ne__» ⟨[.ref x, b], []⟩) Q E s := by
  unfold Builtin.«object.__ne__»
  repeat (first
    | with_reducible refine wpAny_cRoomFor hu ?_
    | (refine wpAny_bind (m := callSpecialIfBound? (.ref x) (Str.ofString "__eq__") [b])
        (PySem.W.ifBound_K X I hs hf (wpAny_mono h (fun v s' hv => by
          obtain ⟨k, rfl, hq⟩ := hv
          repeat (first | exact hq | exact wpAny_pure hq | exact wpAny_truthy_bool hq | (refine wpAny_bind (m := truthy (.bool _)) (wpAny_truthy_bool ?_)) | wp_step)) fun _ _ e => e)))
    | wp_step)
theorem try_ne {b : Value} {Q : Option Value → Shared → Prop} (hu : A.units + 1 < cLine) (X : K.In s.heap) (I : PySem.W.InstAt s.heap x ox C od) (hm : PySem.W.mroIn K C (.type "object") = some true)
    (hn : PySem.W.findIn K (.ref C) "__ne__" = some (some (.builtin "object.__ne__"))) (hs : PySem.W.findIn K (.ref C) "__eq__" = some (some (.ref f))) (hf : PySem.W.isFn K (.ref f) = true)
    (h : wpAny (model prog w) A.in1 (call (.ref f) [.ref x, b]) (fun v s' => ∃ k, v = .bool k ∧ Q (some (.bool (!k))) s') E s) : wpAny (model prog w) A (tryCompare (.ref x) "__ne__" b) Q E s := by
  unfold tryCompare
  refine wpAny_bind (ifBound_objNe X I hn (wpAny_call (codeAny_call_builtin F.cmp_object.ne.plain F.cmpEntry_ne
    (PySem.W.check_slot F.cmpKind_ne F.cmpSplit_ne (I.type.andThen (PySem.W.looks_mroIn X hm)) (F.cmpArgs_ne _ _) (entry_objNe (A := A.in1) (by exact hu) X I hs hf (wpAny_mono h (fun v s' hv => ?_) fun _ _ e => e))))))
  obtain ⟨k, rfl, hq⟩ := hv
  first | exact ⟨k, rfl, wpAny_pure hq⟩ | exact ⟨k, rfl, wpAny_pure (wpAny_pure hq)⟩ | exact ⟨k, rfl, hq⟩
/-- x != b, x an instance with its own == alone -/
theorem ne_K {b tb : Value} {Q : Value → Shared → Prop} (hu : A.units + 1 < cLine) (X : K.In s.heap) (I : PySem.W.InstAt s.heap x ox C od) (hb : PySem.W.Looks (model prog w) s.heap (typeOf b) tb) (hnf : PySem.W.notFirst K C tb = true) (hm : PySem.W.mroIn K C (.type "object") = some true)
    (hn : PySem.W.findIn K (.ref C) "__ne__" = some (some (.builtin "object.__ne__"))) (hs : PySem.W.findIn K (.ref C) "__eq__" = some (some (.ref f))) (hf : PySem.W.isFn K (.ref f) = true)
    (h : wpAny (model prog w) A.in1 (call (.ref f) [.ref x, b]) (fun v s' => ∃ k, v = .bool k ∧ Q (.bool (!k)) s') E s) : wpAny (model prog w) A (richCompare .NotEq (.ref x) b) Q E s := by
  have one : wpAny (model prog w) A (tryCompare (.ref x) "__ne__" b) (fun r s' => ∃ v, r = some v ∧ Q v s') E s :=
    try_ne hu X I hm hn hs hf (wpAny_mono h (fun v s' ⟨k, e, q⟩ => ⟨k, e, _, rfl, q⟩) fun _ _ e => e)
  unfold richCompare
  simp only [oneThing_ref]
  rw [cmpInfo_NotEq]
  refine wpAny_holding (wpAny_bind (wpAny_cRoomFor (Nat.lt_of_succ_lt hu) ?_))
  refine wpAny_bind (I.type.here (wpAny_bind (hb.here ?_)))
  split
  · rename_i q
    have e : PySem.W.subIn K tb (.ref C) = some false := by
      rcases Bool.or_eq_true_iff.mp hnf with e | e
      · rw [beq_iff_eq.mp e] at q; simp at q
      · exact beq_iff_eq.mp e
    refine wpAny_bind ((PySem.W.looks_subIn X e).here ?_)
    simp only [Bool.false_eq_true, if_false]
    refine wpAny_bind (m := tryCompare (.ref x) _ b) (wpAny_mono one (fun r s' z => ?_) fun _ _ e => e)
    obtain ⟨v, rfl, hq⟩ := z
    exact wpAny_pure hq
  · refine wpAny_bind (wpAny_pure ?_)
    simp only [Bool.false_eq_true, if_false]
    refine wpAny_bind (m := tryCompare (.ref x) _ b) (wpAny_mono one (fun r s' z => ?_) fun _ _ e => e)
    obtain ⟨v, rfl, hq⟩ := z
    exact wpAny_pure hq
/-- a == x, a of a built-in type that declines, x an instance with its own == -/
theorem eqR_K {a : Value} {T id : String} {Q : Value → Shared → Prop} (hu : A.units < cLine) (X : K.In s.heap) (I : PySem.W.InstAt s.heap x ox C od) (ha : s.TypeIs a T) (hsub : PySem.W.mroIn K C (.type T) = some false) (ho : oneThing? .Eq a (.ref x) = none)
    (sl : Slot T (cmpInfo .Eq).2.1 id) (hc : ∀ Q' : Value → Shared → Prop, Q' .notImplemented s → wpAny (model prog w) A (call (.builtin id) [a, .ref x]) Q' E s)
    (hs : PySem.W.findIn K (.ref C) "__eq__" = some (some (.ref f))) (hf : PySem.W.isFn K (.ref f) = true)
    (h : wpAny (model prog w) A (call (.ref f) [.ref x, a]) (fun v s' => ∃ k, v = .bool k ∧ Q (.bool k) s') E s) : wpAny (model prog w) A (richCompare .Eq a (.ref x)) Q E s := by
  have one : wpAny (model prog w) A (tryCompare a "__eq__" (.ref x)) (fun r s' => r = none ∧ s' = s) E s :=
    wpAny_tryCompare_declines ha sl (hc _ ⟨rfl, rfl, rfl⟩)
  have two : wpAny (model prog w) A (tryCompare (.ref x) "__eq__" a) (fun r s' => ∃ v, r = some v ∧ Q v s') E s := by
    unfold tryCompare
    refine wpAny_bind (PySem.W.ifBound_K X I hs hf (wpAny_mono h (fun v s' hv => ?_) fun _ _ e => e))
    obtain ⟨k, rfl, q⟩ := hv
    exact wpAny_pure ⟨_, rfl, q⟩
  unfold richCompare
  simp only [ho, cmpInfo_Eq]
  refine wpAny_holding (wpAny_bind (wpAny_cRoomFor hu ?_))
  refine wpAny_bind (wpAny_typeOf ha (wpAny_bind (I.type.here ?_)))
  have hne : (Value.type T != Value.ref C) = true := by simp
  simp only [hne, if_true]
  refine wpAny_bind ((PySem.W.looks_mroIn X hsub).here ?_)
  simp only [Bool.false_eq_true, if_false, Bool.not_false, if_true]
  refine wpAny_bind (m := tryCompare a _ (.ref x)) (wpAny_mono one (fun r s1 z => ?_) fun _ _ e => e)
  obtain ⟨z1, z2⟩ := z
  subst z1
  subst z2
  refine wpAny_bind (m := tryCompare (.ref x) _ a) (wpAny_mono two (fun r s2 z => ?_) fun _ _ e => e)
  obtain ⟨v, rfl, q⟩ := z
  exact wpAny_pure q
theorem int_dec (i : Int) (t : Tok) (l C dx : Addr) : Meets (Builtin.«int.__eq__» ⟨[.int i t, .ref l], []⟩) (fun _ R s => s.heap.get? l = some (PySem.W.instObj C dx) ∧ R (.ok (.ret .notImplemented)) s) :=
  .of_wp fun prog w A R s h => by obtain ⟨hp, g, d, tk, os⟩ := s; obtain ⟨hl, h⟩ := h; unfold PySem.W.instObj at hl; wp_walk using wpAny_loadPart' hl, wpAny_load hl; exact ⟨_, rfl, h⟩
theorem str_dec (i : Str) (t : Tok) (l C dx : Addr) : Meets (Builtin.«str.__eq__» ⟨[.str i t, .ref l], []⟩) (fun _ R s => s.heap.get? l = some (PySem.W.instObj C dx) ∧ R (.ok (.ret .notImplemented)) s) :=
  .of_wp fun prog w A R s h => by obtain ⟨hp, g, d, tk, os⟩ := s; obtain ⟨hl, h⟩ := h; unfold PySem.W.instObj at hl; wp_walk using wpAny_loadPart' hl, wpAny_load hl; exact ⟨_, rfl, h⟩
theorem dec_int {i : Int} {t : Tok} {Q' : Value → Shared → Prop} (hl : s.heap.get? x = some (PySem.W.instObj C dx)) (q : Q' .notImplemented s) : wpAny (model prog w) A (call (.builtin "int.__eq__") [.int i t, .ref x]) Q' E s :=
  call_meets F.slot_int_eq (typeIs_int s i t) F.entry_int_eq (F.args_int_eq_2 _ _) (int_dec i t x C dx) ⟨hl, q⟩
theorem dec_str {i : Str} {t : Tok} {Q' : Value → Shared → Prop} (hl : s.heap.get? x = some (PySem.W.instObj C dx)) (q : Q' .notImplemented s) : wpAny (model prog w) A (call (.builtin "str.__eq__") [.str i t, .ref x]) Q' E s :=
  call_meets F.slot_str_eq (show s.TypeIs (.str i t) "str" from rfl) F.entry_str_eq (F.args_str_eq_2 _ _) (str_dec i t x C dx) ⟨hl, q⟩
end
end EqW

/-! QTG2: a test whose answer is known as a whole. -/
namespace QL
open PySem PySem.Spec PyProof.Rows L2
section
variable {Tq : List (Addr × Str)} {Z : Zb Tq} {X : Cx} {c : Expr} {env : Env} {P : Bool → Env → Prop}
theorem WT.to {k0 : Bool} {e1 : Env} (h : WT Z X c env fun k e2 => k = k0 ∧ e2 = e1) (k : P k0 e1) : WT Z X c env P := WT.imp h fun _ _ ⟨a, b⟩ => by subst a b; exact k
end
end QL

/-! QTEQ2: ==, != and isinstance of instances of an own class with __eq__. -/
namespace QL
open PySem PySem.Spec PyProof.Rows L2
/-- what is asked of an own class that has == -/
structure EqC (K : PySem.W.Frag) (C : Addr) : Prop where
  ne : PySem.W.findIn K (.ref C) "__ne__" = some (some (.builtin "object.__ne__"))
  ob : PySem.W.mroIn K C (.type "object") = some true
  tu : PySem.W.mroIn K C (.type "tuple") = some false
  it : PySem.W.mroIn K C (.type "int") = some false
  st : PySem.W.mroIn K C (.type "str") = some false
  no : PySem.W.mroIn K C (.type "NoneType") = some false
  ha : PySem.W.findIn K (.ref C) "__class__" = some (some (.builtin "object.__class__"))
  hn : PySem.W.specialIn K (.builtin "object.__class__") "__get__" = some (some (.builtin "getset_descriptor.__get__"))
  htk : PySem.W.takesIn K (.builtin "object.__class__") = some true
  kc : ((PySem.W.clsIn K C).isSome && PySem.W.typeIn K (.ref C) == some (.type "type")) = true
theorem sub_tyD {K : PySem.W.Frag} {C : Addr} (d : D) : PySem.W.subIn K (.type (tyD d)) (.ref C) = some false := by
  have e1 : fastBuiltinMro "NoneType" = some [.type "NoneType", .type "object"] := by decide +kernel
  have e2 : fastBuiltinMro "bool" = some [.type "bool", .type "int", .type "object"] := by decide +kernel
  have e3 : fastBuiltinMro "int" = some [.type "int", .type "object"] := by decide +kernel
  have e4 : fastBuiltinMro "str" = some [.type "str", .type "object"] := by decide +kernel
  have e5 : fastBuiltinMro "list" = some [.type "list", .type "object"] := by decide +kernel
  have e6 : fastBuiltinMro "tuple" = some [.type "tuple", .type "object"] := by decide +kernel
  have e7 : fastBuiltinMro "dict" = some [.type "dict", .type "object"] := by decide +kernel
  cases d
  · show (fastBuiltinMro "NoneType").map (·.contains (.ref C)) = some false; rw [e1]; first | rfl | simp
  · show (fastBuiltinMro "bool").map (·.contains (.ref C)) = some false; rw [e2]; first | rfl | simp
  · show (fastBuiltinMro "int").map (·.contains (.ref C)) = some false; rw [e3]; first | rfl | simp
  · show (fastBuiltinMro "str").map (·.contains (.ref C)) = some false; rw [e4]; first | rfl | simp
  all_goals first
    | (show (fastBuiltinMro "list").map (·.contains (.ref C)) = some false; rw [e5]; first | rfl | simp)
    | (show (fastBuiltinMro "tuple").map (·.contains (.ref C)) = some false; rw [e6]; first | rfl | simp)
    | (show (fastBuiltinMro "dict").map (·.contains (.ref C)) = some false; rw [e7]; first | rfl | simp)
theorem notFirst_tyD {K : PySem.W.Frag} {C : Addr} (d : D) : PySem.W.notFirst K C (.type (tyD d)) = true := by
  unfold PySem.W.notFirst
  rw [sub_tyD d]
  simp
theorem kit_tyD {K : PySem.W.Frag} {C : Addr} (E : EqC K C) (d : D) : PySem.W.kitOne K (.type (tyD d)) (.ref C) = some false := by
  unfold PySem.W.kitOne
  rw [if_neg (by simp)]
  unfold PySem.W.kitCls
  simp only [E.kc, if_true]
  exact sub_tyD d
theorem kit_self {K : PySem.W.Frag} {C : Addr} : PySem.W.kitOne K (.ref C) (.ref C) = some true := by
  unfold PySem.W.kitOne
  rw [if_pos (by simp)]
section
variable {Tq : List (Addr × Str)} {Z : Zb Tq} {X : Cx} {l r e : Expr} {env : Env} {pos p px : Pos} {P : R → Env → Prop} {PB : Bool → Env → Prop} {x Tc : Str} {k : Nat} {C : Addr} {ps : List Str} {sp : Spc}
theorem w_isOI (j : Nat) {p2 : Pos} (c : Cls X.K C) (E : EqC X.K C) (h : ∃ a fs, env[j]? = some (some (.ins a C fs)) ∧ P (.t (.va (.bool true))) env) (hm : X.mg "isinstance" = none) (hmT : X.mg Tc = some (.ref C))
    (hN : X.N[j]? = some x := by rfl) (hv : Vis X.env.scope x := by first | exact Or.inl rfl | exact Or.inr (Or.inl rfl) | exact Or.inr (Or.inr rfl)) (hd : (x == ("__debug__" : Str)) = false := by decide) (hcd : (x == ("__classdict__" : Str)) = false := by decide)
    (hg : Gl X "isinstance" := by rfl) (hgT : Gl X Tc := by rfl) (hdT : (Tc == ("__debug__" : Str)) = false := by decide)
    (hs : starEach [.Name x px, .Name Tc p2] X.env = (false, eval (.Name x px) X.env) :: starEach [.Name Tc p2] X.env := by rfl) (hs2 : starEach [.Name Tc p2] X.env = (false, eval (.Name Tc p2) X.env) :: starEach [] X.env := by rfl)
    (hpl : (backTo pos (starEach [.Name Tc p2] X.env)).any (·.1) = false := by rfl) : WE Z X (.Call (.Name "isinstance" p) [.Name x px, .Name Tc p2] [] pos) env P :=
  we_of (pe_callB (call_isi (X := X)) hg hm rfl (pa_cons (pe_var (i := j) hN hv hd hcd) (pa_cons (pe_glob (v := .ref C) hgT hmT rfl hdT) pa_nil hs2) hs) (by decide) (by decide) hs hpl) fun σ H F O b o => by
    obtain ⟨a, fs, he, q⟩ := h
    obtain ⟨w, hw, Oj, O', h1, h2, h3⟩ := o.focusI he
    cases h1 with
    | ins ea hd rr => exact ⟨_, hw, .ref a, .ref C, .ref C, .ref C, true, rfl, .own C, .base (.ins ea c E.ha E.hn E.htk E.ob), kit_self, post_val b o (.bl _) q⟩
theorem w_isOD {p2 : Pos} (E : EqC X.K C) (h : WA Z X e env fun a1 e1 => View a1 e1 fun _ => P (.t (.va (.bool false))) e1) (hm : X.mg "isinstance" = none) (hmT : X.mg Tc = some (.ref C))
    (hg : Gl X "isinstance" := by rfl) (hgT : Gl X Tc := by rfl) (hdT : (Tc == ("__debug__" : Str)) = false := by decide)
    (he : starEach [e, .Name Tc p2] X.env = (false, eval e X.env) :: starEach [.Name Tc p2] X.env := by rfl) (he2 : starEach [.Name Tc p2] X.env = (false, eval (.Name Tc p2) X.env) :: starEach [] X.env := by rfl)
    (hpl : (backTo pos (starEach [.Name Tc p2] X.env)).any (·.1) = false := by rfl) : WE Z X (.Call (.Name "isinstance" p) [e, .Name Tc p2] [] pos) env P :=
  we_of (pe_callB (call_isi (X := X)) hg hm rfl (pa_cons (pe_A (Z := Z)) (pa_cons (pe_glob (v := .ref C) hgT hmT rfl hdT) pa_nil he2) he) (by decide) (by decide) he hpl) fun σ H F O b o => ⟨env, F, O, _, b, o, h, fun v H1 ⟨F1, O1, a1, e1, b1, o1, st, fr, p⟩ => by
    obtain ⟨d, w, q⟩ := View.vw p o1 st
    exact ⟨v, .ref C, .type (tyD d), .ref C, false, rfl, .own C, w.ty b1.sub, kit_tyD E d, (post_val b1 o1 (.bl _) q).from fr⟩⟩
/-- the frame behind a comparison -/
abbrev After (Z : Zb Tq) (X : Cx) (pins : List (Addr × Obj)) (σ : L2.St) (H F : Hp) (O : List Addr) (PB : Bool → Env → Prop) (k : Bool) (s' : Shared) : Prop :=
  ∃ H' F' O' e', Inv X pins σ H' s' ∧ Bas Z F' H' O' ∧ OwE F' H' O' σ e' ∧ Frm Tq H F O H' F' O' ∧ PB k e'
/-- what is compared with an instance -/
def Side (C : Addr) (a : A) (e : Env) : Prop := match a with
  | .va _ => True
  | .bor b j p => ∃ fs, getP j p e = some (.ins b C fs)
theorem Side.look {pins : List (Addr × Obj)} {σ : L2.St} {H F : Hp} {O : List Addr} {s : Shared} {a2 : A} {e2 : Env} {v : V} {u : Value} (I : Inv X pins σ H s) (b : Bas Z F H O) (o : OwE F H O σ e2) (st : StA F v a2) (r : RelV v u) (h : Side C a2 e2) :
    ∃ tb, PySem.W.Looks (model X.prog X.w) s.heap (typeOf u) tb ∧ PySem.W.notFirst X.K C tb = true := by
  cases a2 with
  | va d =>
    obtain ⟨P, Zk, p, _⟩ := kit_of (X := X) I r (Vw.ty (K := X.K) b.sub (Vw.pure (show Rp F v d from st)))
    exact ⟨_, Zk.ty _ _ I.kIn p, notFirst_tyD d⟩
  | bor b' j p =>
    obtain ⟨fs, hg⟩ := h
    obtain ⟨w, ⟨Oj, O', h1, h2, h3⟩, _⟩ := o.focus hg
    obtain rfl : v = .ref b' := st
    obtain rfl : u = Value.ref b' := r
    cases h1 with
    | ins ea hd rr =>
      obtain ⟨mA, J, _⟩ := ins_get I.hok ea
      obtain ⟨od, J, _⟩ := J.look
      exact ⟨_, J.type, by simp [PySem.W.notFirst]⟩
/-- the callee of ==, from any place -/
abbrev EqRun (X : Cx) (Z : Zb Tq) (pins : List (Addr × Obj)) (σ : L2.St) (H F : Hp) (O : List Addr) (k : Nat) (f : Addr) (us : List Value) (PB : Bool → Env → Prop) (s : Shared) : Prop :=
  ∀ A', Room k A' → A'.guards = some [] → Env0 X.prog X.w X.K X.mg X.base A' X.stack s H → wpAny (model X.prog X.w) A' (call (.ref f) us) (fun v s' => ∃ k, v = .bool k ∧ After Z X pins σ H F O PB k s') X.xe s
theorem after_of {pins : List (Addr × Obj)} {σ : L2.St} {H F : Hp} {O : List Addr} {u : Value} {s' : Shared} (h : EP X pins σ (Post Z σ H F O fun r e => ∃ k, r = .t (.va (.bool k)) ∧ PB k e) u s') : ∃ k, u = .bool k ∧ After Z X pins σ H F O PB k s' := by
  obtain ⟨v, H', I', rv, q⟩ := h
  obtain ⟨k, F', O', e', ev, b', o', fr, hp⟩ := post_bool q
  subst ev
  exact ⟨k, rv, H', F', O', e', I', b', o', fr, hp⟩
theorem run_bor {pins : List (Addr × Obj)} {σ : L2.St} {H F : Hp} {O : List Addr} {s : Shared} {e2 : Env} {as : List A} {vs : List V} {us : List Value} {fd : FuncData} {f : Addr} (gS : FnG X.prog X.w X.K X.mg X.base Tq k f fd ps sp) (hb : Binds X.K fd ps [])
    (I : Inv X pins σ H s) (b : Bas Z F H O) (o : OwE F H O σ e2) (st : StAs F vs as) (r : Vals vs us) (q : callD sp as e2 (fun t e => ∃ k, R.t t = .t (.va (.bool k)) ∧ PB k e) fun _ _ => False) : EqRun X Z pins σ H F O k f us PB s := by
  intro A' hr hg e0
  have hl2 : us.length = ps.length := by
    obtain ⟨ts, e3, Oc, Or, pm, sv, o3, hh⟩ := deref_ok st o q
    rw [← gS.len _ _ _ hh, ← sv.len, r.length]
  have hb2 := hb s us I.kIn (by rw [List.append_nil]; exact hl2)
  rw [List.append_nil] at hb2
  refine wpAny_call (codeAny_mono (code_gA (P := fun r e => ∃ k, r = .t (.va (.bool k)) ∧ PB k e) (A' := A') (us0 := us) (kw := []) (us := us) (vs := vs) (as := as) gS hr hg e0 hb2 I b o st r q) fun rs s' ⟨u, hrs, hE⟩ => ?_)
  subst hrs
  exact after_of hE
/-- == and != -/
inductive OpEq : CmpOp → (Bool → Bool) → Prop
  | eq : OpEq .Eq id
  | ne : OpEq .NotEq not
theorem cmp_core {op : CmpOp} {g : Bool → Bool} (ho : OpEq op g) (E : EqC X.K C) {pins : List (Addr × Obj)} {σ : L2.St} {H F : Hp} {O : List Addr} {s : Shared} {a f dx : Addr} {vs : List (Str × V)} {u tb : Value} (hr : Room (k + 1) X.A) (hgd : X.A.guards = some []) (I : Inv X pins σ H s)
    (ea : H a = some (.ins C dx vs)) (hm : Meth X.K C "__eq__" f) (lk : PySem.W.Looks (model X.prog X.w) s.heap (typeOf u) tb) (nf : PySem.W.notFirst X.K C tb = true) (run : EqRun X Z pins σ H F O k f [.ref a, u] (fun k e => PB (g k) e) s) :
    wpAny (model X.prog X.w) X.A (compareOp op (.ref a) u) (fun c s' => ∃ k, c = .bool k ∧ After Z X pins σ H F O PB k s') X.xe s := by
  obtain ⟨mA, J, _⟩ := ins_get I.hok ea
  obtain ⟨od, J, _⟩ := J.look
  obtain ⟨m, hF⟩ := I.fr
  have hu := hr.un
  cases ho with
  | eq =>
    show wpAny _ _ (richCompare .Eq _ _) _ _ _
    refine PySem.W.cmp_K (op := .Eq) (tb := tb) (by omega) hF I.ok.mod.kin J lk nf hm.at_ hm.fn (wpAny_mono (run X.A (hr.mono (Nat.le_succ k)) hgd I.env0) (fun v s' h => ?_) fun _ _ e => e)
    obtain ⟨k, rfl, h⟩ := h
    exact ⟨k, rfl, h⟩
  | ne =>
    show wpAny _ _ (richCompare .NotEq _ _) _ _ _
    refine EqW.ne_K (by omega) I.kIn J lk nf E.ob E.ne hm.at_ hm.fn (wpAny_mono (run X.A.in1 (Room.mono hr.in1 (Nat.le_refl _)) (guards_in1 hgd) I.env0.in1) (fun v s' h => ?_) fun _ _ e => e)
    obtain ⟨k, rfl, h⟩ := h
    exact ⟨k, rfl, _, rfl, h⟩
/-- an instance, and what it is compared with -/
def eqBor (Z : Zb Tq) (X : Cx) (C : Addr) (r : Expr) (sp : Spc) (PB : Bool → Env → Prop) (rr : R) (e1 : Env) : Prop := match rr with
  | .bor a i p => (∃ fs, getP i p e1 = some (.ins a C fs)) ∧ WA Z X r e1 fun a2 e2 => (∃ fs, getP i p e2 = some (.ins a C fs)) ∧ Side C a2 e2 ∧ callD sp [.bor a i p, a2] e2 (fun t e => ∃ k, R.t t = .t (.va (.bool k)) ∧ PB k e) fun _ _ => False
  | _ => False
theorem insAt {σ : L2.St} {F H : Hp} {O : List Addr} {env : Env} {i : Nat} {p : List Str} {a : Addr} {fs : List (Str × T)} (o : OwE F H O σ env) (hg : getP i p env = some (.ins a C fs)) : ∃ dx vs, H a = some (.ins C dx vs) := by
  obtain ⟨w, ⟨Oj, O', h1, h2, h3⟩, _⟩ := o.focus hg
  cases h1 with
  | ins ea hd rr => exact ⟨_, _, ea⟩
theorem eq_run {op : CmpOp} {g : Bool → Bool} (ho : OpEq op g) (E : EqC X.K C) (G : Mf X.prog X.w X.K X.mg X.base Tq k C "__eq__" ps sp) (hr : Room (k + 1) X.A) (hgd : X.A.guards = some []) {pins : List (Addr × Obj)} {s : Shared} {σ : L2.St} {H F : Hp} {O : List Addr}
    (h : WE Z X l env (eqBor Z X C r sp fun k e => PB (g k) e)) (I : Inv X pins σ H s) (b : Bas Z F H O) (o : OwE F H O σ env) :
    wpAny (model X.prog X.w) X.A (eval l X.env) (fun a s₁ => wpAny (model X.prog X.w) X.A (eval r X.env) (fun b s₂ => wpAny (model X.prog X.w) X.A (compareOp op a b) (fun c s' => ∃ k, c = .bool k ∧ After Z X pins σ H F O PB k s') X.xe s₂) X.xe s₁) X.xe s := by
  obtain ⟨f, fd, gS, c, hm, hb⟩ := G.ex
  refine thn (h pins s σ H F O I b o) fun v s1 ⟨x, H1, I1, rx, F1, O1, rr, e1, b1, st, fr, q⟩ => ?_
  cases rr with
  | t t => exact q.elim
  | bor a i p =>
    obtain ⟨o1, rfl⟩ := st
    obtain ⟨⟨fs, hg⟩, q⟩ := q
    obtain rfl : v = Value.ref a := rx
    refine thn (q.run I1 b1 o1) fun u s2 ⟨y, H2, I2, ry, F2, O2, a2, e2, b2, o2, st2, fr2, ⟨fs2, hg2⟩, sd, q2⟩ => ?_
    obtain ⟨dx, vs, ea⟩ := insAt o2 hg2
    obtain ⟨tb, lk, nf⟩ := sd.look I2 b2 o2 st2 ry
    refine wpAny_mono (cmp_core ho E hr hgd I2 ea hm lk nf (run_bor (as := [.bor a i p, a2]) (vs := [.ref a, y]) (us := [.ref a, u]) gS hb I2 b2 o2 (.cons rfl (.cons st2 .nil)) (.cons rfl (.cons ry .nil)) q2)) (fun c s3 ⟨k, ec, H3, F3, O3, e3, I3, b3, o3, fr3, hp⟩ => ⟨k, ec, H3, F3, O3, e3, I3, b3, o3, (fr.trans fr2).trans fr3, hp⟩) fun _ _ e => e
/-- x == y, x an instance -/
theorem w_eqO {op : CmpOp} {g : Bool → Bool} (ho : OpEq op g) (E : EqC X.K C) (G : Mf X.prog X.w X.K X.mg X.base Tq k C "__eq__" ps sp) (hr : Room (k + 1) X.A) (hgd : X.A.guards = some [])
    (h : WE Z X l env (eqBor Z X C r sp fun k e => P (.t (.va (.bool (g k)))) e)) (hm : behindInMarks op r = false := by first | exact nomark _ | rfl) : WE Z X (.Compare l [op] [r] pos) env P := fun pins s σ H F O I b o =>
  wpAny_Compare1 (wpAny_mono (eq_run (PB := fun k e => P (.t (.va (.bool k))) e) ho E G hr hgd h I b o) (fun _ _ z => wpAny_mono z (fun _ _ z => wpAny_mono z (fun c s' ⟨k, ec, H3, F3, O3, e3, I3, b3, o3, fr3, hp⟩ => ⟨.bl k, H3, I3, ec, (post_val b3 o3 (.bl k) hp).from fr3⟩) fun _ _ e => e) fun _ _ e => e) fun _ _ e => e) hm
theorem wt_eqO {op : CmpOp} {g : Bool → Bool} (ho : OpEq op g) (E : EqC X.K C) (G : Mf X.prog X.w X.K X.mg X.base Tq k C "__eq__" ps sp) (hr : Room (k + 1) X.A) (hgd : X.A.guards = some [])
    (h : WE Z X l env (eqBor Z X C r sp fun k e => PB (g k) e)) (hm : behindInMarks op r = false := by first | exact nomark _ | rfl) : WT Z X (.Compare l [op] [r] pos) env PB := fun pins s σ H F O I b o =>
  wpAny_isTrue_Compare1 (wpAny_mono (eq_run ho E G hr hgd h I b o) (fun _ _ z => wpAny_mono z (fun _ _ z => wpAny_mono z (fun c s' ⟨k, ec, H3, F3, O3, e3, I3, b3, o3, fr3, hp⟩ => by subst ec; exact wpAny_truthy_bool ⟨H3, I3, F3, O3, e3, b3, o3, fr3, hp⟩) fun _ _ e => e) fun _ _ e => e) fun _ _ e => e) hm
/-- a new instance, and what it is compared with -/
def eqNew (Z : Zb Tq) (X : Cx) (C : Addr) (r : Expr) (sp : Spc) (PB : Bool → Env → Prop) (rr : R) (e1 : Env) : Prop := match rr with
  | .t (.ins a C' fs) => C' = C ∧ WA Z X r e1 fun a2 e2 => Side C a2 e2 ∧ callT sp (.ins a C fs) [a2] e2 (fun t e => ∃ k, R.t t = .t (.va (.bool k)) ∧ PB k e) fun _ _ => False
  | _ => False
/-- data that declines, and an instance -/
def okL : D → Bool
  | .none | .int _ | .str _ | .tuple _ => true
  | _ => false
end
end QL

namespace K92
open PySem PySem.Spec PyProof.Rows L2 QL
open LM
/-- what is known of the class -/
structure Txt_Paragraph (K : PySem.W.Frag) (a : Addr) : Prop where
  cl : Cls K a
  n_present : NoAttr K a "present"
  n_past : NoAttr K a "past"
  q_ne : PySem.W.findIn K (.ref a) "__ne__" = some (some (.builtin "object.__ne__"))
  q_ob : PySem.W.mroIn K a (.type "object") = some true
  q_tu : PySem.W.mroIn K a (.type "tuple") = some false
  q_it : PySem.W.mroIn K a (.type "int") = some false
  q_st : PySem.W.mroIn K a (.type "str") = some false
  q_no : PySem.W.mroIn K a (.type "NoneType") = some false
  q_ha : PySem.W.findIn K (.ref a) "__class__" = some (some (.builtin "object.__class__"))
  q_hn : PySem.W.specialIn K (.builtin "object.__class__") "__get__" = some (some (.builtin "getset_descriptor.__get__"))
  q_tk : PySem.W.takesIn K (.builtin "object.__class__") = some true
  q_kc : ((PySem.W.clsIn K a).isSome && PySem.W.typeIn K (.ref a) == some (.type "type")) = true
theorem Txt_Paragraph.eqc {K : PySem.W.Frag} {a : Addr} (T : Txt_Paragraph K a) : EqC K a := ⟨T.q_ne, T.q_ob, T.q_tu, T.q_it, T.q_st, T.q_no, T.q_ha, T.q_hn, T.q_tk, T.q_kc⟩
abbrev Hst := List (Int × List Int)
abbrev enT (p : Int × List Int) : D := .tuple [.int p.1, .tuple (iDs p.2)]
abbrev parF (wd : Int) (ws : List Int) (pa : Addr) (hs : Hst) : List (Str × T) := [("present", .va (enT (wd, ws))), ("past", .lst pa (hs.map enT))]
/-- a text of a width -/
structure Tx (wd : Int) (ws : List Int) : Prop where
  w : Wd wd ws
  n : ws.length ≤ 300
theorem Tx.ok {wd : Int} {ws : List Int} (h : Tx wd ws) : textB wd (.tuple (iDs ws)) = true := textB_ok h.w.wrd h.n
def spCW : Spc := fun ts QT _ => ∃ wd : Int, ts = [.va (.int wd)] ∧ (1 ≤ wd ∧ wd ≤ 1000000000) ∧ QT (.va .none) [none]
def spPInit (aP : Addr) : Spc := fun ts QT _ => ∃ (a : Addr) (wd : Int) (ws : List Int), ts = [.ins a aP [], .va (.int wd), .va (.tuple (iDs ws))] ∧ Tx wd ws ∧ ∀ pa, QT (.va .none) [some (.ins a aP (parF wd ws pa [])), none, none]
abbrev pGet (t : Int → List Int → Hst → D) (aP : Addr) : Spc := fun ts QT _ => ∃ (a : Addr) (wd : Int) (ws : List Int) (pa : Addr) (hs : Hst), ts = [.ins a aP (parF wd ws pa hs)] ∧ QT (.va (t wd ws hs)) [some (.ins a aP (parF wd ws pa hs))]
def spPWidth (aP : Addr) : Spc := pGet (fun wd _ _ => .int wd) aP
def spPText (aP : Addr) : Spc := pGet (fun _ ws _ => .tuple (iDs ws)) aP
def spPLen (aP : Addr) : Spc := pGet (fun _ ws _ => .int (ws.length : Int)) aP
def spPEdits (aP : Addr) : Spc := pGet (fun _ _ hs => .int (hs.length : Int)) aP
def spPCheck (aP aB : Addr) : Spc := fun ts QT ET => ∃ (a : Addr) (wd : Int) (ws : List Int) (pa : Addr) (hs : Hst) (d : D), ts = [.ins a aP (parF wd ws pa hs), .va d] ∧
  ((∃ q : Nat, d = .int (q : Int) ∧ q ≤ ws.length ∧ QT (.va .none) [some (.ins a aP (parF wd ws pa hs)), none]) ∨ (btw d 0 (ws.length : Int) = false ∧ ET ⟨aB, [("value", d)]⟩ [some (.ins a aP (parF wd ws pa hs)), none]))
def spPChange (aP : Addr) : Spc := fun ts QT _ => ∃ (a : Addr) (wd : Int) (ws : List Int) (pa : Addr) (hs : Hst) (wd2 : Int) (ws2 : List Int), ts = [.ins a aP (parF wd ws pa hs), .va (.int wd2), .va (.tuple (iDs ws2))] ∧ hs.length ≤ 2000 ∧
  QT (.va .none) [some (.ins a aP (parF wd2 ws2 pa (hs ++ [(wd, ws)]))), none, none]
def spPIns (aP : Addr) : Spc := fun ts QT _ => ∃ (a : Addr) (wd : Int) (ws : List Int) (pa : Addr) (hs : Hst) (q : Nat) (vs : List Int), ts = [.ins a aP (parF wd ws pa hs), .va (.int (q : Int)), .va (.tuple (iDs vs))] ∧ Tx wd ws ∧ hs.length ≤ 2000 ∧ q ≤ ws.length ∧ (∀ x ∈ vs, 1 ≤ x ∧ x ≤ wd) ∧ ws.length + vs.length ≤ 300 ∧
  QT (.va .none) [some (.ins a aP (parF wd (ws.take q ++ vs ++ ws.drop q) pa (hs ++ [(wd, ws)]))), none, none]
def spPRem (aP aB : Addr) : Spc := fun ts QT ET => ∃ (a : Addr) (wd : Int) (ws : List Int) (pa : Addr) (hs : Hst) (d1 d2 : D), ts = [.ins a aP (parF wd ws pa hs), .va d1, .va d2] ∧ ws.length ≤ 1000 ∧ hs.length ≤ 2000 ∧
  ((∃ b e : Nat, d1 = .int (b : Int) ∧ d2 = .int (e : Int) ∧ b ≤ e ∧ e ≤ ws.length ∧ QT (.va .none) [some (.ins a aP (parF wd (ws.take b ++ ws.drop e) pa (hs ++ [(wd, ws)]))), none, none]) ∨
   (btw d1 0 (ws.length : Int) = false ∧ ET ⟨aB, [("value", d1)]⟩ [some (.ins a aP (parF wd ws pa hs)), none, none]) ∨
   (∃ b : Nat, d1 = .int (b : Int) ∧ b ≤ ws.length ∧ btw d2 0 (ws.length : Int) = false ∧ ET ⟨aB, [("value", d2)]⟩ [some (.ins a aP (parF wd ws pa hs)), none, none]) ∨
   (∃ b e : Nat, d1 = .int (b : Int) ∧ d2 = .int (e : Int) ∧ b ≤ ws.length ∧ e < b ∧ ET ⟨aB, [("value", .int (e : Int))]⟩ [some (.ins a aP (parF wd ws pa hs)), none, none]))
def spPWiden (aP : Addr) : Spc := fun ts QT _ => ∃ (a : Addr) (wd : Int) (ws : List Int) (pa : Addr) (hs : Hst) (wd2 : Int), ts = [.ins a aP (parF wd ws pa hs), .va (.int wd2)] ∧ Tx wd2 ws ∧ hs.length ≤ 2000 ∧
  QT (.va .none) [some (.ins a aP (parF wd2 ws pa (hs ++ [(wd, ws)]))), none]
/-- a history of texts -/
def HsOk (hs : Hst) : Prop := hs.length ≤ 2000 ∧ ∀ p ∈ hs, Tx p.1 p.2
def spPUndo (aP aN : Addr) : Spc := fun ts QT ET => ∃ (a : Addr) (wd : Int) (ws : List Int) (pa : Addr) (hs : Hst), ts = [.ins a aP (parF wd ws pa hs)] ∧ HsOk hs ∧
  ((hs = [] ∧ ET ⟨aN, []⟩ [some (.ins a aP (parF wd ws pa []))]) ∨ ∃ (h0 : Hst) (p : Int × List Int), hs = h0 ++ [p] ∧ QT (.va .none) [some (.ins a aP (parF p.1 p.2 pa h0))])
theorem enT_small {p : Int × List Int} (h : Tx p.1 p.2) : smallD (enT p) = true := by
  have w1 := h.w.w1
  have w2 := h.w.w2
  have b : (1000000000 : Nat) < 2 ^ 200 := by decide
  simp only [enT, smallD, smallA, Bool.and_true, Bool.and_eq_true, decide_eq_true_eq]
  refine ⟨by omega, iDs_small fun x hx => ?_⟩
  have := h.w.wrd x hx
  omega
theorem hst_shaped {hs : Hst} (h : HsOk hs) : SeqAt.shaped (.list (hs.map enT)) = true := by
  refine shaped_sm ?_ ?_
  · simp only [smallD]
    exact smallA_map fun p hp => enT_small (h.2 p hp)
  · have : PyData.depthAll (hs.map enT) ≤ 2 := depthAll_map (k := 2) fun p _ => by
      have := iDs_depth p.2
      simp only [enT, PyData.depth, PyData.depthAll]; omega
    simp only [PyData.depth]; omega
theorem hst_nil (hs : Hst) : PyData.eqv (.list (hs.map enT)) (.list []) = decide (hs = []) := by
  cases hs with
  | nil => rfl
  | cons x xs => simp [PyData.eqv, PyData.eqvAll]
theorem Tx.ins {wd : Int} {ws vs : List Int} (h : Tx wd ws) (q : Nat) (hv : ∀ x ∈ vs, 1 ≤ x ∧ x ≤ wd) (hl : ws.length + vs.length ≤ 300) : Tx wd (ws.take q ++ vs ++ ws.drop q) := by
  have e : (ws.take q ++ vs ++ ws.drop q).length = ws.length + vs.length := by simp; omega
  refine ⟨⟨h.w.w1, h.w.w2, by omega, fun x hx => ?_⟩, by omega⟩
  rcases List.mem_append.mp hx with z | z
  · rcases List.mem_append.mp z with z | z
    · exact h.w.wrd x (List.mem_of_mem_take z)
    · exact hv x z
  · exact h.w.wrd x (List.mem_of_mem_drop z)
theorem Tx.rem {wd : Int} {ws : List Int} (h : Tx wd ws) (b e : Nat) (he : b ≤ e) : Tx wd (ws.take b ++ ws.drop e) := by
  have e1 : (ws.take b ++ ws.drop e).length ≤ ws.length := by simp; omega
  have := h.n
  have := h.w.len
  refine ⟨⟨h.w.w1, h.w.w2, by omega, fun x hx => ?_⟩, by omega⟩
  rcases List.mem_append.mp hx with z | z
  · exact h.w.wrd x (List.mem_of_mem_take z)
  · exact h.w.wrd x (List.mem_of_mem_drop z)
section
variable {P : Program} {w : World} {K : PySem.W.Frag} {mg : Str → Option Value} {base : Heap} {Tq : List (Addr × Str)}
abbrev N_check_width : List Str := ["width"]
theorem sc_check_width : FnScope N_check_width ["width"] (defScope (topS 42)) := ⟨rfl, rfl, rfl, by decide +kernel, rfl, by decide +kernel, by decide +kernel⟩
theorem g_check_width {f : Addr} {fd : FuncData} {k : Nat} (Fn : Fun K "check_width" "check_width" (topS 42) f fd) (G_is_width : Df P w K mg base Tq k "is_width" ["value"] spWidth) : FnG P w K mg base Tq (k + 1) f fd ["width"] spCW := by
  refine fn_g Fn sc_check_width (fun ts Q E h => ?_) fun cdv A outer s H E Z ts QT ET hr hgd hp tk h => ?_
  · obtain ⟨wd, rfl, hw, q⟩ := h; rfl
  · obtain ⟨wd, rfl, hw, q⟩ := h
    -- line 189
    refine wss_one (ws_if (wt_not (wt_val (w_fn G_is_width hr hgd ⟨rfl, (w_var 0 ⟨_, rfl, ⟨_, rfl, ⟨fun h => ?_, fun h => ?_⟩⟩⟩)⟩))))
    · exact absurd h (by rw [btw_ok hw]; decide)
    exact wss_nil q
abbrev N_Paragraph___init__ : List Str := ["self", "width", "text"]
theorem sc_Paragraph___init__ : FnScope N_Paragraph___init__ ["self", "width", "text"] (defScope (inClass (topS 43) 0)) := ⟨rfl, rfl, rfl, by decide +kernel, rfl, by decide +kernel, by decide +kernel⟩
theorem g_Paragraph___init__ {f : Addr} {fd : FuncData} {k : Nat} {aParagraph : Addr} (Fn : FunV K "__init__" "Paragraph.__init__" (inClass (topS 43) 0) f fd) (TX : Txt_Paragraph K aParagraph) (G_check_width : Df P w K mg base Tq k "check_width" ["width"] spCW) (G_is_text : Df P w K mg base Tq k "is_text" ["width", "value"] spText) : FnG P w K mg base Tq (k + 1) f fd ["self", "width", "text"] (spPInit aParagraph) := by
  refine fn_gV Fn sc_Paragraph___init__ (fun ts Q E h => ?_) fun cdv A outer s H E Z ts QT ET hr hgd hp tk h => ?_
  · obtain ⟨a, wd, ws, rfl, X, q⟩ := h; rfl
  · obtain ⟨a, wd, ws, rfl, X, q⟩ := h
    have w1 := X.w.w1
    have w2 := X.w.w2
    have hn := X.n
    -- line 194
    refine wss_cons (ws_expr (w_fn G_check_width hr hgd ⟨rfl, (w_var 1 ⟨_, rfl, ⟨by omega, by omega⟩, ?_⟩)⟩))
    -- line 195
    refine wss_cons (ws_if (wt_not (wt_val (w_fn G_is_text hr hgd ⟨rfl, (w_var 1 ⟨rfl, (w_var 2 ⟨_, _, rfl, (show notLong (.tuple (iDs ws)) from by simp only [notLong, List.length_map]; omega), ⟨_, rfl, ⟨fun h => ?_, fun h => ?_⟩⟩⟩)⟩)⟩))))
    · exact absurd h (by rw [X.ok]; decide)
    refine wss_nil ?_
    -- line 197
    refine wss_cons (ws_fld 0 (w_tup ⟨rfl, (w_var 1 ⟨rfl, (w_var 2 ⟨(by first | decide | (simp only [List.length_append, List.length_map, List.length_cons, List.length_nil, List.length_singleton, List.length_replicate, List.length_range, List.length_take, List.length_drop, List.length_dropLast, List.length_reverse, Bool.false_eq_true, eq_self, reduceIte, sizeLine_eq]; omega)), ⟨⟨TX.cl, TX.n_present, Nat.lt_of_sub_eq_succ rfl⟩, ?_⟩⟩)⟩)⟩))
    -- line 198
    refine wss_one (ws_fld 0 (w_lst ⟨(by first | decide | (simp only [List.length_append, List.length_map, List.length_cons, List.length_nil, List.length_singleton, List.length_replicate, List.length_range, List.length_take, List.length_drop, List.length_dropLast, List.length_reverse, Bool.false_eq_true, eq_self, reduceIte, sizeLine_eq]; omega)), fun p1 => ⟨⟨TX.cl, TX.n_past, Nat.lt_of_sub_eq_succ rfl⟩, ?_⟩⟩))
    exact ⟨rfl, q _⟩
abbrev N_Paragraph_width : List Str := ["self"]
theorem sc_Paragraph_width : FnScope N_Paragraph_width ["self"] (defScope (inClass (topS 43) 1)) := ⟨rfl, rfl, rfl, by decide +kernel, rfl, by decide +kernel, by decide +kernel⟩
theorem g_Paragraph_width {f : Addr} {fd : FuncData} {k : Nat} {aParagraph : Addr} (Fn : Fun K "width" "Paragraph.width" (inClass (topS 43) 1) f fd) (TX : Txt_Paragraph K aParagraph) : FnG P w K mg base Tq (k + 1) f fd ["self"] (spPWidth aParagraph) := by
  refine fn_g Fn sc_Paragraph_width (fun ts Q E h => ?_) fun cdv A outer s H E Z ts QT ET hr hgd hp tk h => ?_
  · obtain ⟨a, wd, ws, pa, hs, rfl, q⟩ := h; rfl
  · obtain ⟨a, wd, ws, pa, hs, rfl, q⟩ := h
    -- line 202
    refine wss_one (ws_ret (w_ix (w_fld (w_var 0 ⟨rfl, ⟨TX.cl, TX.n_present⟩, (w_int ⟨rfl, rfl, _, rfl, ?_⟩)⟩))))
    exact ⟨rfl, q⟩
abbrev N_Paragraph_text : List Str := ["self"]
theorem sc_Paragraph_text : FnScope N_Paragraph_text ["self"] (defScope (inClass (topS 43) 2)) := ⟨rfl, rfl, rfl, by decide +kernel, rfl, by decide +kernel, by decide +kernel⟩
theorem g_Paragraph_text {f : Addr} {fd : FuncData} {k : Nat} {aParagraph : Addr} (Fn : Fun K "text" "Paragraph.text" (inClass (topS 43) 2) f fd) (TX : Txt_Paragraph K aParagraph) : FnG P w K mg base Tq (k + 1) f fd ["self"] (spPText aParagraph) := by
  refine fn_g Fn sc_Paragraph_text (fun ts Q E h => ?_) fun cdv A outer s H E Z ts QT ET hr hgd hp tk h => ?_
  · obtain ⟨a, wd, ws, pa, hs, rfl, q⟩ := h; rfl
  · obtain ⟨a, wd, ws, pa, hs, rfl, q⟩ := h
    -- line 206
    refine wss_one (ws_ret (w_ix (w_fld (w_var 0 ⟨rfl, ⟨TX.cl, TX.n_present⟩, (w_int ⟨rfl, rfl, _, rfl, ?_⟩)⟩))))
    exact ⟨rfl, q⟩
abbrev N_Paragraph___len__ : List Str := ["self"]
theorem sc_Paragraph___len__ : FnScope N_Paragraph___len__ ["self"] (defScope (inClass (topS 43) 4)) := ⟨rfl, rfl, rfl, by decide +kernel, rfl, by decide +kernel, by decide +kernel⟩
theorem g_Paragraph___len__ {f : Addr} {fd : FuncData} {k : Nat} {aParagraph : Addr} (Fn : Fun K "__len__" "Paragraph.__len__" (inClass (topS 43) 4) f fd) (TX : Txt_Paragraph K aParagraph) (m_len : mg "len" = none) : FnG P w K mg base Tq (k + 1) f fd ["self"] (spPLen aParagraph) := by
  refine fn_g Fn sc_Paragraph___len__ (fun ts Q E h => ?_) fun cdv A outer s H E Z ts QT ET hr hgd hp tk h => ?_
  · obtain ⟨a, wd, ws, pa, hs, rfl, q⟩ := h; rfl
  · obtain ⟨a, wd, ws, pa, hs, rfl, q⟩ := h
    -- line 212
    refine wss_one (ws_ret (w_callB dc_len m_len rfl ⟨rfl, (w_ix (w_fld (w_var 0 ⟨rfl, ⟨TX.cl, TX.n_present⟩, (w_int ⟨rfl, rfl, _, rfl, ⟨rfl, ?_⟩⟩)⟩)))⟩))
    have e9 : (iDs ws).length = ws.length := List.length_map _
    refine ⟨rfl, ?_⟩
    show QT (.va (.int ((iDs ws).length : Int))) [some (.ins a aParagraph (parF wd ws pa hs))]
    rw [e9]; exact q
abbrev N_Paragraph_edits : List Str := ["self"]
theorem sc_Paragraph_edits : FnScope N_Paragraph_edits ["self"] (defScope (inClass (topS 43) 15)) := ⟨rfl, rfl, rfl, by decide +kernel, rfl, by decide +kernel, by decide +kernel⟩
theorem g_Paragraph_edits {f : Addr} {fd : FuncData} {k : Nat} {aParagraph : Addr} (Fn : Fun K "edits" "Paragraph.edits" (inClass (topS 43) 15) f fd) (TX : Txt_Paragraph K aParagraph) (m_len : mg "len" = none) : FnG P w K mg base Tq (k + 1) f fd ["self"] (spPEdits aParagraph) := by
  refine fn_g Fn sc_Paragraph_edits (fun ts Q E h => ?_) fun cdv A outer s H E Z ts QT ET hr hgd hp tk h => ?_
  · obtain ⟨a, wd, ws, pa, hs, rfl, q⟩ := h; rfl
  · obtain ⟨a, wd, ws, pa, hs, rfl, q⟩ := h
    -- line 264
    refine wss_one (ws_ret (w_callB dc_len m_len rfl ⟨rfl, (w_fld (w_var 0 ⟨rfl, ⟨TX.cl, TX.n_past⟩, ⟨rfl, ?_⟩⟩))⟩))
    have e9 : (hs.map enT).length = hs.length := List.length_map _
    refine ⟨rfl, ?_⟩
    show QT (.va (.int ((hs.map enT).length : Int))) [some (.ins a aParagraph (parF wd ws pa hs))]
    rw [e9]; exact q
abbrev N_Paragraph_check_place : List Str := ["self", "at"]
theorem sc_Paragraph_check_place : FnScope N_Paragraph_check_place ["self", "at"] (defScope (inClass (topS 43) 8)) := ⟨rfl, rfl, rfl, by decide +kernel, rfl, by decide +kernel, by decide +kernel⟩
theorem g_Paragraph_check_place {f : Addr} {fd : FuncData} {k : Nat} {aBadPlace : Addr} {aParagraph : Addr} (Fn : Fun K "check_place" "Paragraph.check_place" (inClass (topS 43) 8) f fd) (Z_BadPlace : Rz P w K mg base k "BadPlace" aBadPlace "value") (G_is_integer : Df P w K mg base Tq k "is_integer" ["value"] spIsI) (Q_text : Pf P w K mg base Tq k aParagraph "text" ["self"] (spPText aParagraph)) (m_len : mg "len" = none) : FnG P w K mg base Tq (k + 2) f fd ["self", "at"] (spPCheck aParagraph aBadPlace) := by
  have G_is_integer := G_is_integer.mono (Nat.le_succ k)
  refine fn_g Fn sc_Paragraph_check_place (fun ts Q E h => ?_) fun cdv A outer s H E Z ts QT ET hr hgd hp tk h => ?_
  · obtain ⟨a, wd, ws, pa, hs, dv, rfl, hq⟩ := h; rfl
  · obtain ⟨a, wd, ws, pa, hs, dv, rfl, hq⟩ := h
    have hnl : (iDs ws).length = ws.length := List.length_map _
    rcases hq with ⟨q0, rfl, h2, q⟩ | ⟨hv, qe⟩
    · skip
      -- line 226
      refine wss_one (ws_if (WW.t (ww_or (wt_not (wt_val (w_fn G_is_integer hr hgd ⟨rfl, (w_var 1 ⟨_, rfl, ⟨_, rfl, ⟨fun h => (ww_or1 (wt_not (wt_chain dop_le dop_le (w_int (w_var 1 ⟨rfl, rfl, _, rfl, fun hc => (w_callB dc_len m_len rfl ⟨rfl, (w_prop Q_text hr hgd (w_var 0 ⟨⟨rfl, rfl, rfl⟩, ⟨rfl, ⟨_, _, _, _, _, rfl, ⟨rfl, rfl, ⟨rfl, ⟨rfl, rfl, _, rfl, ⟨fun h => ?_, fun h => ?_⟩⟩⟩⟩⟩⟩⟩))⟩), fun hc => ⟨fun h => ?_, fun h => ?_⟩⟩))))), fun h => ?s1⟩⟩⟩)⟩))))))
      case s1 => exact absurd h (by simp [isI])
      · exact absurd (show (!decide ((q0 : Int) ≤ ((iDs ws).length : Int))) = true from h) (by rw [decide_eq_true (by omega)]; decide)
      · exact wss_nil ⟨rfl, q⟩
      all_goals exact absurd (show decide ((0 : Int) ≤ (q0 : Int)) = false from hc) (by rw [decide_eq_true (by omega)]; decide)
    cases hI : isI dv
    · refine wss_one (ws_if (WW.t (ww_or (wt_not (wt_val (w_fn G_is_integer hr hgd ⟨rfl, (w_var 1 ⟨_, rfl, ⟨_, rfl, ⟨fun h => ?g1, fun h => ?g2⟩⟩⟩)⟩))))))
      case g1 => exact absurd h (by rw [hI]; decide)
      case g2 =>
        refine ⟨fun _ => ?_, fun z => nomatch z⟩
        -- line 227
        refine wss_one (ws_raiseR Z_BadPlace hr tk ⟨rfl, (w_var 1 ⟨_, rfl, ?_⟩)⟩)
        exact ⟨rfl, qe⟩
    · obtain ⟨i, rfl⟩ := isI_int dv hI
      have hv2 : (decide (0 ≤ i) && decide (i ≤ (ws.length : Int))) = false := hv
      -- line 226
      refine wss_one (ws_if (WW.t (ww_or (wt_not (wt_val (w_fn G_is_integer hr hgd ⟨rfl, (w_var 1 ⟨_, rfl, ⟨_, rfl, ⟨fun h => (ww_or1 (wt_not (wt_chain dop_le dop_le (w_int (w_var 1 ⟨rfl, rfl, _, rfl, fun hc => (w_callB dc_len m_len rfl ⟨rfl, (w_prop Q_text hr hgd (w_var 0 ⟨⟨rfl, rfl, rfl⟩, ⟨rfl, ⟨_, _, _, _, _, rfl, ⟨rfl, rfl, ⟨rfl, ⟨rfl, rfl, _, rfl, ⟨fun h => ?_, fun h => ?_⟩⟩⟩⟩⟩⟩⟩))⟩), fun hc => ⟨fun h => ?_, fun h => ?_⟩⟩))))), fun h => ?s2⟩⟩⟩)⟩))))))
      case s2 => exact absurd h (by simp [isI])
      · skip
        -- line 227
        refine wss_one (ws_raiseR Z_BadPlace hr tk ⟨rfl, (w_var 1 ⟨_, rfl, ?_⟩)⟩)
        exact ⟨rfl, qe⟩
      · exfalso
        rw [show decide (0 ≤ i) = true from hc, Bool.true_and] at hv2
        have h : (!decide (i ≤ ((iDs ws).length : Int))) = false := h
        rw [hnl, hv2] at h
        exact absurd h (by decide)
      · skip
        -- line 227
        refine wss_one (ws_raiseR Z_BadPlace hr tk ⟨rfl, (w_var 1 ⟨_, rfl, ?_⟩)⟩)
        exact ⟨rfl, qe⟩
      all_goals exact absurd h (by decide)
abbrev N_Paragraph_change : List Str := ["self", "width", "text"]
theorem sc_Paragraph_change : FnScope N_Paragraph_change ["self", "width", "text"] (defScope (inClass (topS 43) 9)) := ⟨rfl, rfl, rfl, by decide +kernel, rfl, by decide +kernel, by decide +kernel⟩
theorem g_Paragraph_change {f : Addr} {fd : FuncData} {k : Nat} {aParagraph : Addr} (Fn : Fun K "change" "Paragraph.change" (inClass (topS 43) 9) f fd) (TX : Txt_Paragraph K aParagraph) : FnG P w K mg base Tq (k + 1) f fd ["self", "width", "text"] (spPChange aParagraph) := by
  refine fn_g Fn sc_Paragraph_change (fun ts Q E h => ?_) fun cdv A outer s H E Z ts QT ET hr hgd hp tk h => ?_
  · obtain ⟨a, wd, ws, pa, hs, wd2, ws2, rfl, hn, q⟩ := h; rfl
  · obtain ⟨a, wd, ws, pa, hs, wd2, ws2, rfl, hn, q⟩ := h
    have hnl : (hs.map enT).length = hs.length := List.length_map _
    -- line 230
    refine wss_cons (ws_expr (w_append (w_fld (w_var 0 ⟨rfl, ⟨TX.cl, TX.n_past⟩, ⟨_, _, _, _, rfl, rfl, (w_fld (w_var 0 ⟨rfl, ⟨TX.cl, TX.n_present⟩, ⟨_, _, rfl, rfl, (by simp only [List.length_append, List.length_map, List.length_cons, List.length_nil, List.length_singleton, List.length_replicate, List.length_range, List.length_take, List.length_drop, List.length_dropLast, List.length_reverse, Bool.false_eq_true, eq_self, reduceIte, sizeLine_eq]; omega), ?_⟩⟩))⟩⟩))))
    -- line 231
    refine wss_one (ws_fld 0 (w_tup ⟨rfl, (w_var 1 ⟨rfl, (w_var 2 ⟨(by first | decide | (simp only [List.length_append, List.length_map, List.length_cons, List.length_nil, List.length_singleton, List.length_replicate, List.length_range, List.length_take, List.length_drop, List.length_dropLast, List.length_reverse, Bool.false_eq_true, eq_self, reduceIte, sizeLine_eq]; omega)), ⟨⟨TX.cl, TX.n_present, Nat.lt_of_sub_eq_succ rfl⟩, ?_⟩⟩)⟩)⟩))
    have e9 : hs.map enT ++ [enT (wd, ws)] = (hs ++ [(wd, ws)]).map enT := by rw [List.map_append]; rfl
    refine ⟨rfl, ?_⟩
    show QT _ [some (.ins a aParagraph [("present", .va (enT (wd2, ws2))), ("past", .lst pa (hs.map enT ++ [enT (wd, ws)]))]), none, none]
    rw [e9]; exact q
end
end K92

namespace K92
open PySem PySem.Spec PyProof.Rows L2 QL
open LM
def spPFirmG (aP : Addr) : Spc := fun ts QT _ => ∃ (a : Addr) (wd : Int) (ws : List Int) (pa : Addr) (hs : Hst) (q : Nat), ts = [.ins a aP (parF wd ws pa hs), .va (.int (q : Int))] ∧ Wd wd ws ∧ q ≤ ws.length ∧ QT (.va (.tuple ((prsN (stE wd (ws.take q))).map enP))) [some (.ins a aP (parF wd ws pa hs)), none]
def spPLayout (aP : Addr) : Spc := fun ts QT _ => ∃ (a : Addr) (wd : Int) (ws : List Int) (pa : Addr) (hs : Hst), ts = [.ins a aP (parF wd ws pa hs)] ∧ Wd wd ws ∧ QT (.va (.tuple (nDs (bestLay wd ws)))) [some (.ins a aP (parF wd ws pa hs))]
def spPCost (aP : Addr) : Spc := fun ts QT _ => ∃ (a : Addr) (wd : Int) (ws : List Int) (pa : Addr) (hs : Hst), ts = [.ins a aP (parF wd ws pa hs)] ∧ Wd wd ws ∧ QT (.va (.int (C wd ws (LS wd ws)))) [some (.ins a aP (parF wd ws pa hs))]
theorem eqvA_ints : ∀ (a b : List Int), PyData.eqvAll (iDs a) (iDs b) = decide (a = b)
  | [], [] => rfl
  | [], _ :: _ => by simp [PyData.eqvAll]
  | _ :: _, [] => by simp [PyData.eqvAll]
  | x :: a, y :: b => by
    have h := eqvA_ints a b
    simp only [List.map_cons, PyData.eqvAll, PyData.eqv, h]
    by_cases e1 : x = y <;> by_cases e2 : a = b <;> simp [e1, e2]
theorem enT_eqv (p q : Int × List Int) : PyData.eqv (enT p) (enT q) = decide (p = q) := by
  simp only [enT, PyData.eqv, PyData.eqvAll, eqvA_ints]
  rcases p with ⟨a, b⟩
  rcases q with ⟨c, d⟩
  by_cases e1 : a = c <;> by_cases e2 : b = d <;> simp [e1, e2]
theorem enT_shaped {p : Int × List Int} (h : Tx p.1 p.2) : SeqAt.shaped (enT p) = true := by
  refine shaped_sm (enT_small h) ?_
  have := iDs_depth p.2
  simp only [enT, PyData.depth, PyData.depthAll]; omega
def spPEq (aP : Addr) : Spc := fun ts QT _ => ∃ (a : Addr) (wd : Int) (ws : List Int) (pa : Addr) (hs : Hst) (t2 : T), ts = [.ins a aP (parF wd ws pa hs), t2] ∧ Tx wd ws ∧
  ((∃ (b : Addr) (wd2 : Int) (ws2 : List Int) (pb : Addr) (hs2 : Hst), t2 = .ins b aP (parF wd2 ws2 pb hs2) ∧ Tx wd2 ws2 ∧ QT (.va (.bool (decide ((wd, ws) = (wd2, ws2))))) [some (.ins a aP (parF wd ws pa hs)), some (.ins b aP (parF wd2 ws2 pb hs2))]) ∨
   (∃ d : D, t2 = .va d ∧ QT (.va (.bool false)) [some (.ins a aP (parF wd ws pa hs)), none]))
section
variable {P : Program} {w : World} {K : PySem.W.Frag} {mg : Str → Option Value} {base : Heap} {Tq : List (Addr × Str)}
abbrev N_Paragraph_firm : List Str := ["self", "at"]
theorem sc_Paragraph_firm : FnScope N_Paragraph_firm ["self", "at"] (defScope (inClass (topS 43) 13)) := ⟨rfl, rfl, rfl, by decide +kernel, rfl, by decide +kernel, by decide +kernel⟩
theorem g_Paragraph_firm {f : Addr} {fd : FuncData} {k : Nat} {aBadPlace : Addr} {aParagraph : Addr} (Fn : Fun K "firm" "Paragraph.firm" (inClass (topS 43) 13) f fd) (G_settled_lines : Df P w K mg base Tq k "settled_lines" ["width", "text"] spSetL) (M_check_place : Mf P w K mg base Tq k aParagraph "check_place" ["self", "at"] (spPCheck aParagraph aBadPlace)) (Q_text : Pf P w K mg base Tq k aParagraph "text" ["self"] (spPText aParagraph)) (Q_width : Pf P w K mg base Tq k aParagraph "width" ["self"] (spPWidth aParagraph)) : FnG P w K mg base Tq (k + 2) f fd ["self", "at"] (spPFirmG aParagraph) := by
  have G_settled_lines := G_settled_lines.mono (Nat.le_succ k)
  have M_check_place := M_check_place.mono (Nat.le_succ k)
  refine fn_g Fn sc_Paragraph_firm (fun ts Q E h => ?_) fun cdv A outer s H E Z ts QT ET hr hgd hp tk h => ?_
  · obtain ⟨a, wd, ws, pa, hs, q0, rfl, W, h2, q⟩ := h; rfl
  · obtain ⟨a, wd, ws, pa, hs, q0, rfl, W, h2, q⟩ := h
    -- line 255
    refine wss_cons (ws_expr (w_methX M_check_place hr hgd tk  (w_var 0 ⟨⟨rfl, rfl, rfl⟩, ⟨rfl, (w_var 1 ⟨rfl, ⟨_, _, _, _, _, _, rfl, .inl ⟨q0, rfl, h2, ⟨rfl, rfl, ?_⟩⟩⟩⟩)⟩⟩)))
    -- line 256
    refine wss_one (ws_ret (w_fn G_settled_lines hr hgd ⟨rfl, (w_prop Q_width hr hgd (w_var 0 ⟨⟨rfl, rfl, rfl⟩, ⟨rfl, ⟨_, _, _, _, _, rfl, ⟨rfl, rfl, ⟨rfl, (w_sl (w_prop Q_text hr hgd (w_var 0 ⟨⟨rfl, rfl, rfl⟩, ⟨rfl, ⟨_, _, _, _, _, rfl, ⟨rfl, rfl, (w_var 1 ⟨_, rfl, ⟨rfl, ⟨wd, ws.take q0, (congrArg (fun z => [T.va (.int wd), T.va (.tuple z)]) (cut_to PyData.int ws q0 h2)), (W.take q0), ?_⟩⟩⟩)⟩⟩⟩⟩)))⟩⟩⟩⟩⟩))⟩))
    exact ⟨rfl, q⟩
abbrev N_Paragraph_insert : List Str := ["self", "at", "words", "text"]
theorem sc_Paragraph_insert : FnScope N_Paragraph_insert ["self", "at", "words"] (defScope (inClass (topS 43) 10)) := ⟨rfl, rfl, rfl, by decide +kernel, rfl, by decide +kernel, by decide +kernel⟩
theorem g_Paragraph_insert {f : Addr} {fd : FuncData} {k : Nat} {aBadPlace : Addr} {aParagraph : Addr} (Fn : Fun K "insert" "Paragraph.insert" (inClass (topS 43) 10) f fd) (G_is_text : Df P w K mg base Tq k "is_text" ["width", "value"] spText) (M_change : Mf P w K mg base Tq k aParagraph "change" ["self", "width", "text"] (spPChange aParagraph)) (M_check_place : Mf P w K mg base Tq k aParagraph "check_place" ["self", "at"] (spPCheck aParagraph aBadPlace)) (Q_text : Pf P w K mg base Tq k aParagraph "text" ["self"] (spPText aParagraph)) (Q_width : Pf P w K mg base Tq k aParagraph "width" ["self"] (spPWidth aParagraph)) : FnG P w K mg base Tq (k + 2) f fd ["self", "at", "words"] (spPIns aParagraph) := by
  have G_is_text := G_is_text.mono (Nat.le_succ k)
  have M_change := M_change.mono (Nat.le_succ k)
  have M_check_place := M_check_place.mono (Nat.le_succ k)
  refine fn_g Fn sc_Paragraph_insert (fun ts Q E h => ?_) fun cdv A outer s H E Z ts QT ET hr hgd hp tk h => ?_
  · obtain ⟨a, wd, ws, pa, hs, q0, vs, rfl, X, hn, h2, hv, hl, q⟩ := h; rfl
  · obtain ⟨a, wd, ws, pa, hs, q0, vs, rfl, X, hn, h2, hv, hl, q⟩ := h
    have hxn := X.n
    have hnl : (iDs ws).length = ws.length := List.length_map _
    have hvl : (iDs vs).length = vs.length := List.length_map _
    -- line 234
    refine wss_cons (ws_expr (w_methX M_check_place hr hgd tk  (w_var 0 ⟨⟨rfl, rfl, rfl⟩, ⟨rfl, (w_var 1 ⟨rfl, ⟨_, _, _, _, _, _, rfl, .inl ⟨q0, rfl, h2, ⟨rfl, rfl, ?_⟩⟩⟩⟩)⟩⟩)))
    -- line 235
    refine wss_cons (ws_if (wt_not (wt_val (w_fn G_is_text hr hgd ⟨rfl, (w_prop Q_width hr hgd (w_var 0 ⟨⟨rfl, rfl, rfl⟩, ⟨rfl, ⟨_, _, _, _, _, rfl, ⟨rfl, rfl, ⟨rfl, (w_var 2 ⟨_, _, rfl, (show notLong (.tuple (iDs vs)) from by simp only [notLong, List.length_map]; omega), ⟨_, rfl, ⟨fun h => ?_, fun h => ?_⟩⟩⟩)⟩⟩⟩⟩⟩))⟩))))
    · exact absurd h (by rw [textB_ok hv (by omega)]; decide)
    refine wss_nil ?_
    have eC : QL.cutD (iDs ws) none (some (q0 : Int)) = iDs (ws.take q0) := cut_to PyData.int ws q0 h2
    have eD : QL.cutD (iDs ws) (some (q0 : Int)) none = iDs (ws.drop q0) := cut_from PyData.int ws q0 h2
    have X2 := X.ins q0 hv hl
    have hl2 := X2.n
    have e9 : QL.cutD (iDs ws) none (some (q0 : Int)) ++ (iDs vs ++ QL.cutD (iDs ws) (some (q0 : Int)) none) = iDs (ws.take q0 ++ vs ++ ws.drop q0) := by rw [eC, eD]; simp [iDs]
    -- line 237
    refine wss_cons (ws_set 3 (w_tupV ⟨rfl, (w_sl (w_prop Q_text hr hgd (w_var 0 ⟨⟨rfl, rfl, rfl⟩, ⟨rfl, ⟨_, _, _, _, _, rfl, ⟨rfl, rfl, (w_var 1 ⟨_, rfl, ⟨rfl, ⟨rfl, ⟨rfl, (w_var 2 ⟨rfl, ⟨rfl, (w_sl (w_prop Q_text hr hgd (w_var 0 ⟨⟨rfl, rfl, rfl⟩, ⟨rfl, ⟨_, _, _, _, _, rfl, ⟨rfl, rfl, (w_var 1 ⟨_, rfl, ⟨rfl, ⟨rfl, ⟨(by rw [eC, eD]; simp only [List.length_append, List.length_map, List.length_cons, List.length_nil, List.length_singleton, List.length_replicate, List.length_range, List.length_take, List.length_drop, List.length_dropLast, List.length_reverse, Bool.false_eq_true, eq_self, reduceIte, sizeLine_eq]; omega), ⟨Nat.lt_of_sub_eq_succ rfl, ?_⟩⟩⟩⟩⟩)⟩⟩⟩⟩)))⟩⟩)⟩⟩⟩⟩)⟩⟩⟩⟩)))⟩) sc_Paragraph_insert.nd)
    obtain ⟨ws2, hws2⟩ : ∃ ws2, ws2 = ws.take q0 ++ vs ++ ws.drop q0 := ⟨_, rfl⟩
    have e8 : QL.cutD (iDs ws) none (some (q0 : Int)) ++ (iDs vs ++ (QL.cutD (iDs ws) (some (q0 : Int)) none ++ [])) = iDs ws2 := by rw [hws2, List.append_nil]; exact e9
    show WSs _ _ _ [some (.ins a aParagraph (parF wd ws pa hs)), some (.va (.int (q0 : Int))), some (.va (.tuple (iDs vs))), some (.va (.tuple (QL.cutD (iDs ws) none (some (q0 : Int)) ++ (iDs vs ++ (QL.cutD (iDs ws) (some (q0 : Int)) none ++ [])))))] _
    rw [e8]
    rw [← hws2] at X2 hl2
    -- line 238
    refine wss_cons (ws_if (wt_not (wt_val (w_fn G_is_text hr hgd ⟨rfl, (w_prop Q_width hr hgd (w_var 0 ⟨⟨rfl, rfl, rfl⟩, ⟨rfl, ⟨_, _, _, _, _, rfl, ⟨rfl, rfl, ⟨rfl, (w_var 3 ⟨_, _, rfl, (show notLong (.tuple (iDs ws2)) from by simp only [notLong, List.length_map]; omega), ⟨_, rfl, ⟨fun h => ?_, fun h => ?_⟩⟩⟩)⟩⟩⟩⟩⟩))⟩))))
    · exact absurd h (by rw [X2.ok]; decide)
    refine wss_nil ?_
    rw [← hws2] at q
    -- line 240
    refine wss_one (ws_expr (w_meth M_change hr hgd (w_var 0 ⟨⟨rfl, rfl, rfl⟩, ⟨rfl, (w_prop Q_width hr hgd (w_var 0 ⟨⟨rfl, rfl, rfl⟩, ⟨rfl, ⟨_, _, _, _, _, rfl, ⟨rfl, rfl, ⟨rfl, (w_var 3 ⟨rfl, ⟨_, _, _, _, _, wd, ws2, rfl, (by omega), ⟨rfl, rfl, ?_⟩⟩⟩)⟩⟩⟩⟩⟩))⟩⟩)))
    exact ⟨rfl, q⟩
abbrev N_Paragraph_remove : List Str := ["self", "begin", "end"]
theorem sc_Paragraph_remove : FnScope N_Paragraph_remove ["self", "begin", "end"] (defScope (inClass (topS 43) 11)) := ⟨rfl, rfl, rfl, by decide +kernel, rfl, by decide +kernel, by decide +kernel⟩
theorem g_Paragraph_remove {f : Addr} {fd : FuncData} {k : Nat} {aBadPlace : Addr} {aParagraph : Addr} (Fn : Fun K "remove" "Paragraph.remove" (inClass (topS 43) 11) f fd) (Z_BadPlace : Rz P w K mg base k "BadPlace" aBadPlace "value") (M_change : Mf P w K mg base Tq k aParagraph "change" ["self", "width", "text"] (spPChange aParagraph)) (M_check_place : Mf P w K mg base Tq k aParagraph "check_place" ["self", "at"] (spPCheck aParagraph aBadPlace)) (Q_text : Pf P w K mg base Tq k aParagraph "text" ["self"] (spPText aParagraph)) (Q_width : Pf P w K mg base Tq k aParagraph "width" ["self"] (spPWidth aParagraph)) : FnG P w K mg base Tq (k + 2) f fd ["self", "begin", "end"] (spPRem aParagraph aBadPlace) := by
  have M_change := M_change.mono (Nat.le_succ k)
  have M_check_place := M_check_place.mono (Nat.le_succ k)
  refine fn_g Fn sc_Paragraph_remove (fun ts Q E h => ?_) fun cdv A outer s H E Z ts QT ET hr hgd hp tk h => ?_
  · obtain ⟨a, wd, ws, pa, hs, d1, d2, rfl, hn, hh, hq⟩ := h; rfl
  · obtain ⟨a, wd, ws, pa, hs, d1, d2, rfl, hn, hh, hq⟩ := h
    have hnl : (iDs ws).length = ws.length := List.length_map _
    rcases hq with ⟨b0, e0, rfl, rfl, h1, h2, q⟩ | ⟨hv, qe⟩ | ⟨b0, rfl, h1, hv, qe⟩ | ⟨b0, e0, rfl, rfl, h1, h2, qe⟩
    · skip
      -- line 243
      refine wss_cons (ws_expr (w_methX M_check_place hr hgd tk  (w_var 0 ⟨⟨rfl, rfl, rfl⟩, ⟨rfl, (w_var 1 ⟨rfl, ⟨_, _, _, _, _, _, rfl, .inl ⟨b0, rfl, (by omega), ⟨rfl, rfl, ?_⟩⟩⟩⟩)⟩⟩)))
      -- line 244
      refine wss_cons (ws_expr (w_methX M_check_place hr hgd tk  (w_var 0 ⟨⟨rfl, rfl, rfl⟩, ⟨rfl, (w_var 2 ⟨rfl, ⟨_, _, _, _, _, _, rfl, .inl ⟨e0, rfl, h2, ⟨rfl, rfl, ?_⟩⟩⟩⟩)⟩⟩)))
      -- line 245
      refine wss_cons (ws_if (wt_cmp dop_lt (w_var 2 (w_var 1 ⟨rfl, rfl, _, rfl, ⟨fun h => ?_, fun h => ?_⟩⟩))))
      · exact absurd (of_decide_eq_true h) (by omega)
      refine wss_nil ?_
      have eC : QL.cutD (iDs ws) none (some (b0 : Int)) ++ QL.cutD (iDs ws) (some (e0 : Int)) none = iDs (ws.take b0 ++ ws.drop e0) := by rw [cut_to PyData.int ws b0 (by omega), cut_from PyData.int ws e0 h2]; simp [iDs]
      -- line 247
      refine wss_one (ws_expr (w_meth M_change hr hgd (w_var 0 ⟨⟨rfl, rfl, rfl⟩, ⟨rfl, (w_prop Q_width hr hgd (w_var 0 ⟨⟨rfl, rfl, rfl⟩, ⟨rfl, ⟨_, _, _, _, _, rfl, ⟨rfl, rfl, ⟨rfl, (w_bin dop_add (w_sl (w_prop Q_text hr hgd (w_var 0 ⟨⟨rfl, rfl, rfl⟩, ⟨rfl, ⟨_, _, _, _, _, rfl, ⟨rfl, rfl, (w_var 1 ⟨_, rfl, ⟨rfl, (w_sl (w_prop Q_text hr hgd (w_var 0 ⟨⟨rfl, rfl, rfl⟩, ⟨rfl, ⟨_, _, _, _, _, rfl, ⟨rfl, rfl, (w_var 2 ⟨_, rfl, ⟨rfl, ⟨rfl, rfl, (by rw [cut_to PyData.int ws b0 (by omega), cut_from PyData.int ws e0 h2]; simp only [List.length_append, List.length_map, List.length_cons, List.length_nil, List.length_singleton, List.length_replicate, List.length_range, List.length_take, List.length_drop, List.length_dropLast, List.length_reverse, Bool.false_eq_true, eq_self, reduceIte, sizeLine_eq]; omega), ⟨rfl, ⟨a, wd, ws, pa, hs, wd, ws.take b0 ++ ws.drop e0, (by rw [eC]; rfl), hh, ⟨rfl, rfl, ?_⟩⟩⟩⟩⟩⟩)⟩⟩⟩⟩)))⟩⟩)⟩⟩⟩⟩))))⟩⟩⟩⟩⟩))⟩⟩)))
      exact ⟨rfl, q⟩
    · refine wss_cons (ws_expr (w_methX M_check_place hr hgd tk (w_var 0 ⟨⟨rfl, rfl, rfl⟩, ⟨rfl, w_var 1 ⟨rfl, ⟨a, wd, ws, pa, hs, _, rfl, .inr ⟨hv, rfl, rfl, ⟨rfl, qe⟩⟩⟩⟩⟩⟩)))
    · skip
      -- line 243
      refine wss_cons (ws_expr (w_methX M_check_place hr hgd tk  (w_var 0 ⟨⟨rfl, rfl, rfl⟩, ⟨rfl, (w_var 1 ⟨rfl, ⟨_, _, _, _, _, _, rfl, .inl ⟨b0, rfl, h1, ⟨rfl, rfl, ?_⟩⟩⟩⟩)⟩⟩)))
      refine wss_cons (ws_expr (w_methX M_check_place hr hgd tk (w_var 0 ⟨⟨rfl, rfl, rfl⟩, ⟨rfl, w_var 2 ⟨rfl, ⟨a, wd, ws, pa, hs, _, rfl, .inr ⟨hv, rfl, rfl, ⟨rfl, qe⟩⟩⟩⟩⟩⟩)))
    · skip
      -- line 243
      refine wss_cons (ws_expr (w_methX M_check_place hr hgd tk  (w_var 0 ⟨⟨rfl, rfl, rfl⟩, ⟨rfl, (w_var 1 ⟨rfl, ⟨_, _, _, _, _, _, rfl, .inl ⟨b0, rfl, h1, ⟨rfl, rfl, ?_⟩⟩⟩⟩)⟩⟩)))
      -- line 244
      refine wss_cons (ws_expr (w_methX M_check_place hr hgd tk  (w_var 0 ⟨⟨rfl, rfl, rfl⟩, ⟨rfl, (w_var 2 ⟨rfl, ⟨_, _, _, _, _, _, rfl, .inl ⟨e0, rfl, (by omega), ⟨rfl, rfl, ?_⟩⟩⟩⟩)⟩⟩)))
      -- line 245
      refine wss_cons (ws_if (wt_cmp dop_lt (w_var 2 (w_var 1 ⟨rfl, rfl, _, rfl, ⟨fun h => ?_, fun h => ?_⟩⟩))))
      · skip
        -- line 246
        refine wss_one (ws_raiseR Z_BadPlace hr tk ⟨rfl, (w_var 2 ⟨_, rfl, ?_⟩)⟩)
        exact ⟨rfl, qe⟩
      · exact absurd (of_decide_eq_false h) (by omega)
abbrev N_Paragraph_widen : List Str := ["self", "width"]
theorem sc_Paragraph_widen : FnScope N_Paragraph_widen ["self", "width"] (defScope (inClass (topS 43) 12)) := ⟨rfl, rfl, rfl, by decide +kernel, rfl, by decide +kernel, by decide +kernel⟩
theorem g_Paragraph_widen {f : Addr} {fd : FuncData} {k : Nat} {aParagraph : Addr} (Fn : Fun K "widen" "Paragraph.widen" (inClass (topS 43) 12) f fd) (G_is_text : Df P w K mg base Tq k "is_text" ["width", "value"] spText) (G_is_width : Df P w K mg base Tq k "is_width" ["value"] spWidth) (M_change : Mf P w K mg base Tq k aParagraph "change" ["self", "width", "text"] (spPChange aParagraph)) (Q_text : Pf P w K mg base Tq k aParagraph "text" ["self"] (spPText aParagraph)) : FnG P w K mg base Tq (k + 2) f fd ["self", "width"] (spPWiden aParagraph) := by
  have G_is_text := G_is_text.mono (Nat.le_succ k)
  have G_is_width := G_is_width.mono (Nat.le_succ k)
  have M_change := M_change.mono (Nat.le_succ k)
  refine fn_g Fn sc_Paragraph_widen (fun ts Q E h => ?_) fun cdv A outer s H E Z ts QT ET hr hgd hp tk h => ?_
  · obtain ⟨a, wd, ws, pa, hs, wd2, rfl, X, hh, q⟩ := h; rfl
  · obtain ⟨a, wd, ws, pa, hs, wd2, rfl, X, hh, q⟩ := h
    have w1 := X.w.w1
    have w2 := X.w.w2
    have hn := X.n
    -- line 250
    refine wss_cons (ws_if (WW.t (ww_or (wt_not (wt_val (w_fn G_is_width hr hgd ⟨rfl, (w_var 1 ⟨_, rfl, ⟨_, rfl, ⟨fun h => (ww_or1 (wt_not (wt_val (w_fn G_is_text hr hgd ⟨rfl, (w_var 1 ⟨rfl, (w_prop Q_text hr hgd (w_var 0 ⟨⟨rfl, rfl, rfl⟩, ⟨rfl, ⟨_, _, _, _, _, rfl, ⟨rfl, rfl, ⟨_, _, rfl, (show notLong (.tuple (iDs ws)) from by simp only [notLong, List.length_map]; omega), ⟨_, rfl, ⟨fun h => ?_, fun h => ?_⟩⟩⟩⟩⟩⟩⟩))⟩)⟩)))), fun h => ?s1⟩⟩⟩)⟩))))))
    case s1 => exact absurd h (by rw [btw_ok ⟨w1, w2⟩]; decide)
    · exact absurd h (by rw [X.ok]; decide)
    refine wss_nil ?_
    -- line 252
    refine wss_one (ws_expr (w_meth M_change hr hgd (w_var 0 ⟨⟨rfl, rfl, rfl⟩, ⟨rfl, (w_var 1 ⟨rfl, (w_prop Q_text hr hgd (w_var 0 ⟨⟨rfl, rfl, rfl⟩, ⟨rfl, ⟨_, _, _, _, _, rfl, ⟨rfl, rfl, ⟨rfl, ⟨_, _, _, _, _, wd2, ws, rfl, hh, ⟨rfl, rfl, ?_⟩⟩⟩⟩⟩⟩⟩))⟩)⟩⟩)))
    exact ⟨rfl, q⟩
abbrev N_Paragraph_undo : List Str := ["self"]
theorem sc_Paragraph_undo : FnScope N_Paragraph_undo ["self"] (defScope (inClass (topS 43) 14)) := ⟨rfl, rfl, rfl, by decide +kernel, rfl, by decide +kernel, by decide +kernel⟩
theorem g_Paragraph_undo {f : Addr} {fd : FuncData} {k : Nat} {aNothingToUndo : Addr} {aParagraph : Addr} (Fn : Fun K "undo" "Paragraph.undo" (inClass (topS 43) 14) f fd) (TX : Txt_Paragraph K aParagraph) (Z_NothingToUndo : Rz0 P w K mg base k "NothingToUndo" aNothingToUndo) : FnG P w K mg base Tq (k + 2) f fd ["self"] (spPUndo aParagraph aNothingToUndo) := by
  refine fn_g Fn sc_Paragraph_undo (fun ts Q E h => ?_) fun cdv A outer s H E Z ts QT ET hr hgd hp tk h => ?_
  · obtain ⟨a, wd, ws, pa, hs, rfl, hh, hq⟩ := h; rfl
  · obtain ⟨a, wd, ws, pa, hs, rfl, hh, hq⟩ := h
    rcases hq with ⟨rfl, qe⟩ | ⟨h0, p0, rfl, q⟩
    · skip
      -- line 259
      refine wss_cons (ws_if (wt_cmp (dop_eq (room64 hr)) (w_fld (w_var 0 ⟨rfl, ⟨TX.cl, TX.n_past⟩, (w_lst ⟨(by first | decide | (simp only [List.length_append, List.length_map, List.length_cons, List.length_nil, List.length_singleton, List.length_replicate, List.length_range, List.length_take, List.length_drop, List.length_dropLast, List.length_reverse, Bool.false_eq_true, eq_self, reduceIte, sizeLine_eq]; omega)), fun p1 => ⟨rfl, rfl, (by rfl), (by rfl), _, rfl, ⟨fun h => ?_, fun h => ?_⟩⟩⟩)⟩))))
      · skip
        -- line 260
        refine wss_one (ws_raiseR0 Z_NothingToUndo hr tk ?_)
        exact ⟨rfl, qe⟩
      exact absurd h (by decide)
    · skip
      -- line 259
      refine wss_cons (ws_if (wt_cmp (dop_eq (room64 hr)) (w_fld (w_var 0 ⟨rfl, ⟨TX.cl, TX.n_past⟩, (w_lst ⟨(by first | decide | (simp only [List.length_append, List.length_map, List.length_cons, List.length_nil, List.length_singleton, List.length_replicate, List.length_range, List.length_take, List.length_drop, List.length_dropLast, List.length_reverse, Bool.false_eq_true, eq_self, reduceIte, sizeLine_eq]; omega)), fun p2 => ⟨rfl, rfl, (hst_shaped hh), (by rfl), _, rfl, ⟨fun h => ?_, fun h => ?_⟩⟩⟩)⟩))))
      · exact absurd h (by rw [hst_nil, decide_eq_false (by simp)]; decide)
      refine wss_nil ?_
      have hpop : ((h0 ++ [p0]).map enT)[((h0 ++ [p0]).map enT).length - 1]? = some (enT p0) := by simp
      have hdl : ((h0 ++ [p0]).map enT).dropLast = h0.map enT := by rw [← List.map_dropLast, List.dropLast_concat]
      -- line 261
      refine wss_one (ws_fld 0 (w_pop (w_fld (w_var 0 ⟨rfl, ⟨TX.cl, TX.n_past⟩, ⟨_, _, _, _, _, rfl, rfl, hpop, ⟨⟨TX.cl, TX.n_present, Nat.lt_of_sub_eq_succ rfl⟩, ?_⟩⟩⟩))))
      refine ⟨rfl, ?_⟩
      show QT _ [some (.ins a aParagraph [("present", .va (enT p0)), ("past", .lst pa (((h0 ++ [p0]).map enT).dropLast))])]
      rw [hdl]; exact q
abbrev N_Paragraph_layout : List Str := ["self"]
theorem sc_Paragraph_layout : FnScope N_Paragraph_layout ["self"] (defScope (inClass (topS 43) 6)) := ⟨rfl, rfl, rfl, by decide +kernel, rfl, by decide +kernel, by decide +kernel⟩
theorem g_Paragraph_layout {f : Addr} {fd : FuncData} {k : Nat} {aParagraph : Addr} (Fn : Fun K "layout" "Paragraph.layout" (inClass (topS 43) 6) f fd) (G_best_layout : Df P w K mg base Tq k "best_layout" ["width", "text"] spBest) (Q_text : Pf P w K mg base Tq k aParagraph "text" ["self"] (spPText aParagraph)) (Q_width : Pf P w K mg base Tq k aParagraph "width" ["self"] (spPWidth aParagraph)) : FnG P w K mg base Tq (k + 2) f fd ["self"] (spPLayout aParagraph) := by
  have G_best_layout := G_best_layout.mono (Nat.le_succ k)
  refine fn_g Fn sc_Paragraph_layout (fun ts Q E h => ?_) fun cdv A outer s H E Z ts QT ET hr hgd hp tk h => ?_
  · obtain ⟨a, wd, ws, pa, hs, rfl, W, q⟩ := h; rfl
  · obtain ⟨a, wd, ws, pa, hs, rfl, W, q⟩ := h
    -- line 220
    refine wss_one (ws_ret (w_fn G_best_layout hr hgd ⟨rfl, (w_prop Q_width hr hgd (w_var 0 ⟨⟨rfl, rfl, rfl⟩, ⟨rfl, ⟨_, _, _, _, _, rfl, ⟨rfl, rfl, ⟨rfl, (w_prop Q_text hr hgd (w_var 0 ⟨⟨rfl, rfl, rfl⟩, ⟨rfl, ⟨_, _, _, _, _, rfl, ⟨rfl, rfl, ⟨wd, ws, rfl, W, ?_⟩⟩⟩⟩⟩))⟩⟩⟩⟩⟩))⟩))
    exact ⟨rfl, q⟩
abbrev N_Paragraph_cost : List Str := ["self"]
theorem sc_Paragraph_cost : FnScope N_Paragraph_cost ["self"] (defScope (inClass (topS 43) 7)) := ⟨rfl, rfl, rfl, by decide +kernel, rfl, by decide +kernel, by decide +kernel⟩
theorem g_Paragraph_cost {f : Addr} {fd : FuncData} {k : Nat} {aParagraph : Addr} (Fn : Fun K "cost" "Paragraph.cost" (inClass (topS 43) 7) f fd) (G_best_cost : Df P w K mg base Tq k "best_cost" ["width", "text"] spBestCost) (Q_text : Pf P w K mg base Tq k aParagraph "text" ["self"] (spPText aParagraph)) (Q_width : Pf P w K mg base Tq k aParagraph "width" ["self"] (spPWidth aParagraph)) : FnG P w K mg base Tq (k + 2) f fd ["self"] (spPCost aParagraph) := by
  have G_best_cost := G_best_cost.mono (Nat.le_succ k)
  refine fn_g Fn sc_Paragraph_cost (fun ts Q E h => ?_) fun cdv A outer s H E Z ts QT ET hr hgd hp tk h => ?_
  · obtain ⟨a, wd, ws, pa, hs, rfl, W, q⟩ := h; rfl
  · obtain ⟨a, wd, ws, pa, hs, rfl, W, q⟩ := h
    -- line 223
    refine wss_one (ws_ret (w_fn G_best_cost hr hgd ⟨rfl, (w_prop Q_width hr hgd (w_var 0 ⟨⟨rfl, rfl, rfl⟩, ⟨rfl, ⟨_, _, _, _, _, rfl, ⟨rfl, rfl, ⟨rfl, (w_prop Q_text hr hgd (w_var 0 ⟨⟨rfl, rfl, rfl⟩, ⟨rfl, ⟨_, _, _, _, _, rfl, ⟨rfl, rfl, ⟨wd, ws, rfl, W, ?_⟩⟩⟩⟩⟩))⟩⟩⟩⟩⟩))⟩))
    exact ⟨rfl, q⟩
abbrev N_Paragraph___eq__ : List Str := ["self", "other"]
theorem sc_Paragraph___eq__ : FnScope N_Paragraph___eq__ ["self", "other"] (defScope (inClass (topS 43) 3)) := ⟨rfl, rfl, rfl, by decide +kernel, rfl, by decide +kernel, by decide +kernel⟩
theorem g_Paragraph___eq__ {f : Addr} {fd : FuncData} {k : Nat} {aParagraph : Addr} (Fn : Fun K "__eq__" "Paragraph.__eq__" (inClass (topS 43) 3) f fd) (TX : Txt_Paragraph K aParagraph) (c_Paragraph : mg "Paragraph" = some (.ref aParagraph)) (m_isinstance : mg "isinstance" = none) : FnG P w K mg base Tq (k + 1) f fd ["self", "other"] (spPEq aParagraph) := by
  refine fn_g Fn sc_Paragraph___eq__ (fun ts Q E h => ?_) fun cdv A outer s H E Z ts QT ET hr hgd hp tk h => ?_
  · obtain ⟨a, wd, ws, pa, hs, t2, rfl, X, hq⟩ := h; rfl
  · obtain ⟨a, wd, ws, pa, hs, t2, rfl, X, hq⟩ := h
    rcases hq with ⟨b, wd2, ws2, pb, hs2, rfl, X2, q⟩ | ⟨dv, rfl, q⟩
    · rw [← enT_eqv (wd, ws) (wd2, ws2)] at q
      exact wss_one (ws_ret (w_and (w_isOI 1 TX.cl TX.eqc ⟨b, _, rfl, ⟨_, rfl, fun _ => (w_one (w_cmp (dop_eq (room64 hr)) (w_fld (w_var 0 ⟨rfl, ⟨TX.cl, TX.n_present⟩, (w_fld (w_var 1 ⟨rfl, ⟨TX.cl, TX.n_present⟩, ⟨rfl, rfl, (enT_shaped (p := (wd, ws)) X), (enT_shaped (p := (wd2, ws2)) X2), ⟨rfl, rfl, q⟩⟩⟩))⟩)))), fun h => absurd h (by decide)⟩⟩ m_isinstance c_Paragraph)))
    · exact wss_one (ws_ret (w_and (w_isOD TX.eqc (w_var 1 ⟨rfl, ⟨_, rfl, (fun h => absurd h (by decide)), fun _ => ⟨rfl, q⟩⟩⟩) m_isinstance c_Paragraph)))
end
end K92

namespace K92
open PySem PySem.Spec PyProof.Rows L2 QL
open LM
def Row (wd : Int) (ws : List Int) : Prop := ∀ x ∈ ws, 1 ≤ x ∧ x ≤ wd
theorem Row.snoc {wd x : Int} {ws : List Int} (h : Row wd ws) (h1 : 1 ≤ x) (h2 : x ≤ wd) : Row wd (ws ++ [x]) := fun y hy => (List.mem_append.mp hy).elim (h y) fun z => by rw [List.mem_singleton.mp z]; exact ⟨h1, h2⟩
def spTextD : Spc := fun ts QT _ => ∃ (p : Addr) (n a b c wd mo : Int), ts = [.lst p (potD a b c), .va (.int wd), .va (.int mo)] ∧ PotOk n a b c ∧ n ≤ 900000 ∧ (1 ≤ wd ∧ wd ≤ 1000000000) ∧ (0 ≤ mo ∧ mo ≤ 1000) ∧
  ∀ a' b' c' ws, PotOk (n + mo + 10) a' b' c' → (ws.length : Int) ≤ mo → Row wd ws → QT (.va (.tuple (iDs ws))) [some (.lst p (potD a' b' c')), none, none]
theorem row_rep {wd : Int} {os : List Int} (h : Row wd os) (k : Nat) : ∀ j : Nat, ((List.replicate k (iDs os)).flatten)[j]? = none ∨ ∃ x, ((List.replicate k (iDs os)).flatten)[j]? = some (.int x) ∧ 1 ≤ x ∧ x ≤ wd := fun j => by
  cases e : ((List.replicate k (iDs os)).flatten)[j]? with
  | none => exact .inl rfl
  | some d =>
    refine .inr ?_
    have hm := List.mem_of_getElem? e
    obtain ⟨l, hl, hd⟩ := List.mem_flatten.mp hm
    rw [(List.mem_replicate.mp hl).2] at hd
    obtain ⟨x, hx, rfl⟩ := List.mem_map.mp hd
    exact ⟨x, rfl, h x hx⟩
theorem flat_len (k : Nat) (os : List Int) : ((List.replicate k (iDs os)).flatten).length = k * os.length := by
  simp
section
variable {P : Program} {w : World} {K : PySem.W.Frag} {mg : Str → Option Value} {base : Heap} {Tq : List (Addr × Str)}
abbrev N__law_text : List Str := ["_law_well_here", "_law_wide", "_law_most", "_law_many", "_law_way", "_law_some", "_law_turn", "_law_at"]
theorem sc__law_text : FnScope N__law_text ["_law_well_here", "_law_wide", "_law_most"] (defScope (topS 48)) := ⟨rfl, rfl, rfl, by decide +kernel, rfl, by decide +kernel, by decide +kernel⟩
theorem g__law_text {f : Addr} {fd : FuncData} {k : Nat} (Fn : Fun K "_law_text" "_law_text" (topS 48) f fd) (G__law_draw : Df P w K mg base Tq k "_law_draw" ["_law_well_here", "_law_many"] spTake) (G__law_pick : Df P w K mg base Tq k "_law_pick" ["_law_well_here", "_law_some"] spOfI) (m_range : mg "range" = none) (m_tuple : mg "tuple" = none) : FnG P w K mg base Tq (k + 1) f fd ["_law_well_here", "_law_wide", "_law_most"] spTextD := by
  refine fn_g Fn sc__law_text (fun ts Q E h => ?_) fun cdv A outer s H E Z ts QT ET hr hgd hp tk h => ?_
  · obtain ⟨p, n, a, b, c, wd, mo, rfl, hpot, hn, ⟨w1, w2⟩, ⟨m1, m2⟩, q⟩ := h; rfl
  · obtain ⟨p, n, a, b, c, wd, mo, rfl, hpot, hn, ⟨w1, w2⟩, ⟨m1, m2⟩, q⟩ := h
    -- line 285
    refine wss_cons (ws_asg (pg_tup (by rfl) (pgs_cons (pg_name (i := 3) sc__law_text.nd rfl (by first | exact Or.inl rfl | exact Or.inr rfl)) (pgs_cons (pg_name (i := 4) sc__law_text.nd rfl (by first | exact Or.inl rfl | exact Or.inr rfl)) (pgs_nil)))) (gok_tup (gsok_cons (gok_name 3) (gsok_cons (gok_name 4) (gsok_nil)))) (w_tup ⟨rfl, (w_fn G__law_draw hr hgd ⟨rfl, (w_var 0 ⟨rfl, (w_bin dop_add (w_var 2 (w_int ⟨rfl, rfl, ⟨rfl, ⟨_, _, _, _, _, _, rfl, (by assumption), (by omega), ⟨by omega, by omega⟩, fun a1 b1 c1 many hp_1 k0 k1 => ⟨rfl, rfl, ⟨rfl, (w_fn G__law_draw hr hgd ⟨rfl, (w_var 0 ⟨rfl, (w_int ⟨rfl, ⟨_, _, _, _, _, _, rfl, (by assumption), (by omega), ⟨by omega, by omega⟩, fun a2 b2 c2 way hp_2 y0 y1 => ⟨rfl, rfl, ⟨(by first | decide | (simp only [List.length_append, List.length_map, List.length_cons, List.length_nil, List.length_singleton, List.length_replicate, List.length_range, List.length_take, List.length_drop, List.length_dropLast, List.length_reverse, Bool.false_eq_true, eq_self, reduceIte, sizeLine_eq]; omega)), ⟨_, rfl, rfl, ⟨Nat.lt_of_sub_eq_succ rfl, ⟨Nat.lt_of_sub_eq_succ rfl, ⟨rfl, ?_⟩⟩⟩⟩⟩⟩⟩⟩)⟩)⟩)⟩⟩⟩⟩⟩)))⟩)⟩)⟩))
    -- line 286
    refine wss_cons (ws_set 5 (w_lc (own := [("_law_turn", 6)]) rfl sc__law_text.nd (blkOk_by (N := N__law_text) (sc := defScope (topS 48)) (by decide +kernel)) (fun _ _ _ _ _ => pg_name (i := 6) sc__law_text.nd rfl (by first | exact Or.inl rfl | exact Or.inr rfl)) (gok_name 6) (by decide) (wi_range1 m_range ⟨rfl, (w_bin dop_add (w_int (w_fn G__law_draw hr hgd ⟨rfl, (w_var 0 ⟨rfl, (w_int ⟨rfl, ⟨_, _, _, _, _, _, rfl, (by assumption), (by omega), ⟨by omega, by omega⟩, fun a3 b3 c3 d_3 hp_3 h0_3 h1_3 => ⟨rfl, rfl, ⟨rfl, rfl, ⟨rfl, ⟨by omega, by omega⟩, ?lcA⟩⟩⟩⟩⟩)⟩)⟩)))⟩)) sc__law_text.nd)
    case lcA =>
      refine ⟨fun i acc e => ∃ x y z vs, PotOk (n + 3 + i) x y z ∧ acc = iDs vs ∧ vs.length = i ∧ Row wd vs ∧ e = [some (.lst p (potD x y z)), some (.va (.int wd)), some (.va (.int mo)), some (.va (.int many)), some (.va (.int way)), none, none, none], ⟨a3, b3, c3, [], hp_3.le (by omega), rfl, rfl, (fun _ z => (nomatch z)), rfl⟩, ?_, ?_⟩
      · rintro i dd acc e hd ⟨x, y, z, vs, hq, rfl, hl9, hr9, rfl⟩
        obtain ⟨rfl, hi9⟩ := rangeD_at hd
        have hi30 : (i : Int) < 4 := by omega
        refine ⟨Nat.lt_of_sub_eq_succ rfl, fun _ => ?_, fun z => nomatch z⟩
        intro s2 H2 C cl fp
        refine w_bin dop_add (w_int (w_fn G__law_draw hr hgd ⟨rfl, w_var 0 ⟨rfl, w_var 1 ⟨rfl, ⟨p, _, x, y, z, wd, rfl, hq, by omega, ⟨by omega, by omega⟩, fun x' y' z' dd hq2 d0 d1 => ⟨rfl, rfl, rfl, rfl, ?_, x', y', z', vs ++ [1 + dd], hq2.le (by omega), ?_, by rw [List.length_append, hl9]; rfl, hr9.snoc (by omega) (by omega), rfl⟩⟩⟩⟩⟩))
        · rw [List.length_map, hl9, sizeLine_eq]; omega
        · simp [iDs]
      · rintro acc e ⟨x9, y9, z9, vs, hq9, rfl, hl9, hr9, rfl⟩ pv
        rw [rangeD_len] at hl9 hq9
        refine ⟨Nat.lt_of_sub_eq_succ rfl, ?_⟩
        obtain ⟨os, hos⟩ : ∃ os, os = vs := ⟨_, rfl⟩
        rw [← hos]
        have hol : os.length = (1 + d_3).toNat := by rw [hos, hl9]
        have hrow : Row wd os := by rw [hos]; exact hr9
        have hq9 : PotOk (n + 7) x9 y9 z9 := hq9.le (by omega)
        -- line 287
        refine wss_cons (ws_if (wt_cmp (dop_eq (room64 hr)) (w_var 4 (w_int ⟨rfl, rfl, _, rfl, ⟨fun h => ?_, fun h => ?_⟩⟩))))
        · skip
          -- line 288
          refine wss_one (ws_ret (w_callTy dc_tuple m_tuple rfl ⟨rfl, (w_lc (own := [("_law_turn", 6)]) rfl sc__law_text.nd (blkOk_by (N := N__law_text) (sc := defScope (topS 48)) (by decide +kernel)) (fun _ _ _ _ _ => pg_name (i := 6) sc__law_text.nd rfl (by first | exact Or.inl rfl | exact Or.inr rfl)) (gok_name 6) (by decide) (wi_range1 m_range ⟨rfl, (w_var 3 ⟨rfl, ⟨by omega, by omega⟩, ?lcB⟩)⟩))⟩))
          case lcB =>
            refine ⟨fun i acc e => ∃ x y z vs, PotOk (n + 7 + i) x y z ∧ acc = iDs vs ∧ vs.length = i ∧ Row wd vs ∧ e = [some (.lst p (potD x y z)), some (.va (.int wd)), some (.va (.int mo)), some (.va (.int many)), some (.va (.int way)), some (.lst pv (iDs os)), none, none], ⟨x9, y9, z9, [], hq9.le (by omega), rfl, rfl, (fun _ z => (nomatch z)), rfl⟩, ?_, ?_⟩
            · rintro i dd acc e hd ⟨x, y, z, vs, hq, rfl, hl9, hr9, rfl⟩
              obtain ⟨rfl, hi9⟩ := rangeD_at hd
              have hi30 : (i : Int) < 1001 := by omega
              refine ⟨Nat.lt_of_sub_eq_succ rfl, fun _ => ?_, fun z => nomatch z⟩
              intro s2 H2 C cl fp
              refine w_bin dop_add (w_int (w_fn G__law_draw hr hgd ⟨rfl, w_var 0 ⟨rfl, w_var 1 ⟨rfl, ⟨p, _, x, y, z, wd, rfl, hq, by omega, ⟨by omega, by omega⟩, fun x' y' z' dd hq2 d0 d1 => ⟨rfl, rfl, rfl, rfl, ?_, x', y', z', vs ++ [1 + dd], hq2.le (by omega), ?_, by rw [List.length_append, hl9]; rfl, hr9.snoc (by omega) (by omega), rfl⟩⟩⟩⟩⟩))
              · rw [List.length_map, hl9, sizeLine_eq]; omega
              · simp [iDs]
            · rintro acc e ⟨x9, y9, z9, vs, hq9, rfl, hl9, hr9, rfl⟩ pv
              rw [rangeD_len] at hl9 hq9
              exact ⟨rfl, ⟨rfl, q _ _ _ vs (hq9.le (by omega)) (by omega) hr9⟩⟩
        refine wss_nil ?_
        -- line 289
        refine wss_cons (ws_if (wt_cmp (dop_eq (room64 hr)) (w_var 4 (w_int ⟨rfl, rfl, _, rfl, ⟨fun h => ?_, fun h => ?_⟩⟩))))
        · skip
          -- line 290
          refine wss_one (ws_ret (w_callTy dc_tuple m_tuple rfl ⟨rfl, (w_lc (own := [("_law_turn", 6)]) rfl sc__law_text.nd (blkOk_by (N := N__law_text) (sc := defScope (topS 48)) (by decide +kernel)) (fun _ _ _ _ _ => pg_name (i := 6) sc__law_text.nd rfl (by first | exact Or.inl rfl | exact Or.inr rfl)) (gok_name 6) (by decide) (wi_range1 m_range ⟨rfl, (w_var 3 ⟨rfl, ⟨by omega, by omega⟩, ?lcC⟩)⟩))⟩))
          case lcC =>
            refine ⟨fun i acc e => ∃ x y z vs, PotOk (n + 7 + i) x y z ∧ acc = iDs vs ∧ vs.length = i ∧ Row wd vs ∧ e = [some (.lst p (potD x y z)), some (.va (.int wd)), some (.va (.int mo)), some (.va (.int many)), some (.va (.int way)), some (.lst pv (iDs os)), none, none], ⟨x9, y9, z9, [], hq9.le (by omega), rfl, rfl, (fun _ z => (nomatch z)), rfl⟩, ?_, ?_⟩
            · rintro i dd acc e hd ⟨x, y, z, vs, hq, rfl, hl9, hr9, rfl⟩
              obtain ⟨rfl, hi9⟩ := rangeD_at hd
              have hi30 : (i : Int) < 1001 := by omega
              refine ⟨Nat.lt_of_sub_eq_succ rfl, fun _ => ?_, fun z => nomatch z⟩
              intro s2 H2 C cl fp
              refine w_fn G__law_pick hr hgd ⟨rfl, w_var 0 ⟨rfl, w_var 5 ⟨rfl, rfl, ⟨p, _, x, y, z, os, 1, wd, _, some (.lst pv (iDs os)), rfl, (.inr ⟨_, rfl, rfl⟩), hq, by omega, ⟨by omega, by omega⟩, hrow, fun x' y' z' dd hq2 d0 d1 _ => ⟨rfl, rfl, rfl, rfl, ?_, x', y', z', vs ++ [dd], hq2.le (by omega), ?_, by rw [List.length_append, hl9]; rfl, hr9.snoc (by omega) (by omega), rfl⟩⟩⟩⟩⟩
              · rw [List.length_map, hl9, sizeLine_eq]; omega
              · simp [iDs]
            · rintro acc e ⟨x9, y9, z9, vs, hq9, rfl, hl9, hr9, rfl⟩ pv
              rw [rangeD_len] at hl9 hq9
              exact ⟨rfl, ⟨rfl, q _ _ _ vs (hq9.le (by omega)) (by omega) hr9⟩⟩
        refine wss_nil ?_
        -- line 291
        refine wss_cons (ws_if (wt_cmp (dop_eq (room64 hr)) (w_var 4 (w_int ⟨rfl, rfl, _, rfl, ⟨fun h => ?_, fun h => ?_⟩⟩))))
        · skip
          -- line 292
          refine wss_one (ws_ret (w_callTy dc_tuple m_tuple rfl ⟨rfl, (w_lc (own := [("_law_turn", 6)]) rfl sc__law_text.nd (blkOk_by (N := N__law_text) (sc := defScope (topS 48)) (by decide +kernel)) (fun _ _ _ _ _ => pg_name (i := 6) sc__law_text.nd rfl (by first | exact Or.inl rfl | exact Or.inr rfl)) (gok_name 6) (by decide) (wi_range1 m_range ⟨rfl, (w_var 3 ⟨rfl, ⟨by omega, by omega⟩, ?lcD⟩)⟩))⟩))
          case lcD =>
            refine ⟨fun i acc e => ∃ x y z vs, PotOk (n + 7 + i) x y z ∧ acc = iDs vs ∧ vs.length = i ∧ Row wd vs ∧ e = [some (.lst p (potD x y z)), some (.va (.int wd)), some (.va (.int mo)), some (.va (.int many)), some (.va (.int way)), some (.lst pv (iDs os)), none, none], ⟨x9, y9, z9, [], hq9.le (by omega), rfl, rfl, (fun _ z => (nomatch z)), rfl⟩, ?_, ?_⟩
            · rintro i dd acc e hd ⟨x, y, z, vs, hq, rfl, hl9, hr9, rfl⟩
              obtain ⟨rfl, hi9⟩ := rangeD_at hd
              have hi30 : (i : Int) < 1001 := by omega
              refine ⟨Nat.lt_of_sub_eq_succ rfl, fun _ => ?_, fun z => nomatch z⟩
              intro s2 H2 C cl fp
              refine w_bin dop_add (w_int (w_fn G__law_draw hr hgd ⟨rfl, w_var 0 ⟨rfl, w_bin dop_add (w_int (w_bin dop_fdiv (w_var 1 (w_int ⟨rfl, rfl, ⟨by decide, by decide⟩, ⟨rfl, rfl, ⟨rfl, ⟨p, _, x, y, z, 1 + wd / 3, rfl, hq, by omega, ⟨by omega, by omega⟩, fun x' y' z' dd hq2 d0 d1 => ⟨rfl, rfl, rfl, rfl, ?_, x', y', z', vs ++ [1 + dd], hq2.le (by omega), ?_, by rw [List.length_append, hl9]; rfl, hr9.snoc (by omega) (by omega), rfl⟩⟩⟩⟩⟩))))⟩⟩))
              · rw [List.length_map, hl9, sizeLine_eq]; omega
              · simp [iDs]
            · rintro acc e ⟨x9, y9, z9, vs, hq9, rfl, hl9, hr9, rfl⟩ pv
              rw [rangeD_len] at hl9 hq9
              exact ⟨rfl, ⟨rfl, q _ _ _ vs (hq9.le (by omega)) (by omega) hr9⟩⟩
        refine wss_nil ?_
        -- line 293
        refine wss_cons (ws_if (wt_cmp (dop_eq (room64 hr)) (w_var 4 (w_int ⟨rfl, rfl, _, rfl, ⟨fun h => ?_, fun h => ?_⟩⟩))))
        · skip
          -- line 294
          refine wss_one (ws_ret (w_callTy dc_tuple m_tuple rfl ⟨rfl, (w_lc (own := [("_law_at", 7)]) rfl sc__law_text.nd (blkOk_by (N := N__law_text) (sc := defScope (topS 48)) (by decide +kernel)) (fun _ _ _ _ _ => pg_name (i := 7) sc__law_text.nd rfl (by first | exact Or.inl rfl | exact Or.inr rfl)) (gok_name 7) (by decide) (wi_range1 m_range ⟨rfl, (w_var 3 ⟨rfl, ⟨by omega, by omega⟩, ?lcE⟩)⟩))⟩))
          case lcE =>
            refine ⟨fun i acc e => ∃ x y z vs, PotOk (n + 7 + i) x y z ∧ acc = iDs vs ∧ vs.length = i ∧ Row wd vs ∧ e = [some (.lst p (potD x y z)), some (.va (.int wd)), some (.va (.int mo)), some (.va (.int many)), some (.va (.int way)), some (.lst pv (iDs os)), none, none], ⟨x9, y9, z9, [], hq9.le (by omega), rfl, rfl, (fun _ z => (nomatch z)), rfl⟩, ?_, ?_⟩
            · rintro i dd acc e hd ⟨x, y, z, vs, hq, rfl, hl9, hr9, rfl⟩
              obtain ⟨rfl, hi9⟩ := rangeD_at hd
              have hi30 : (i : Int) < 1001 := by omega
              refine ⟨Nat.lt_of_sub_eq_succ rfl, fun _ => ?_, fun z => nomatch z⟩
              intro s2 H2 C cl fp
              have hm9 : many.toNat ≤ 1000 := by omega
              have hlt : i < ((List.replicate many.toNat (iDs os)).flatten).length := by
                rw [flat_len]
                have h1 : 1 ≤ os.length := by omega
                have h2 : many.toNat * 1 ≤ many.toNat * os.length := Nat.mul_le_mul_left _ h1
                omega
              have hfl : ((List.replicate many.toNat (iDs os)).flatten).length ≤ 4000 := by
                rw [flat_len]
                have h2 : many.toNat * os.length ≤ 1000 * 4 := Nat.mul_le_mul hm9 (by omega)
                omega
              obtain ⟨xx, hxx, x1, x2⟩ : ∃ xx, ((List.replicate many.toNat (iDs os)).flatten)[i]? = some (.int xx) ∧ 1 ≤ xx ∧ xx ≤ wd := by
                rcases row_rep hrow many.toNat i with e | e
                · rw [List.getElem?_eq_none_iff] at e; omega
                · exact e
              have hat : atI ((List.replicate many.toNat (iDs os)).flatten) (0 + (i : Int)) = some (.int xx) := by rw [show (0 : Int) + (i : Int) = (i : Int) by omega]; exact atI_nat hxx
              refine w_ix (w_bin dop_mul (w_var 5 (w_var 3 ⟨rfl, rfl, ⟨by omega, by omega, by simp only [List.length_map, sizeLine_eq]; have h2 : os.length * many.toNat ≤ 4 * 1000 := Nat.mul_le_mul (by omega) hm9; have h3 : many.toNat * os.length ≤ 1000 * 4 := Nat.mul_le_mul hm9 (by omega); omega⟩, fun pz => w_var 7 ⟨rfl, rfl, _, hat, ?_, x, y, z, vs ++ [xx], hq.le (by omega), ?_, by rw [List.length_append, hl9]; rfl, hr9.snoc (by omega) (by omega), rfl⟩⟩)))
              · rw [List.length_map, hl9, sizeLine_eq]; omega
              · simp [iDs]
            · rintro acc e ⟨x9, y9, z9, vs, hq9, rfl, hl9, hr9, rfl⟩ pv
              rw [rangeD_len] at hl9 hq9
              exact ⟨rfl, ⟨rfl, q _ _ _ vs (hq9.le (by omega)) (by omega) hr9⟩⟩
        refine wss_nil ?_
        obtain ⟨o0, or0, ho0⟩ : ∃ o0 or0, os = o0 :: or0 := by
          cases os with
          | nil => simp at hol; omega
          | cons x r => exact ⟨x, r, rfl⟩
        have ho1 := hrow o0 (by rw [ho0]; exact List.mem_cons_self)
        have h0at : atI (iDs os) 0 = some (.int o0) := by rw [ho0]; exact atI_nat (j := 0) rfl
        -- line 295
        refine wss_one (ws_ret (w_callTy dc_tuple m_tuple rfl ⟨rfl, (w_lc (own := [("_law_turn", 6)]) rfl sc__law_text.nd (blkOk_by (N := N__law_text) (sc := defScope (topS 48)) (by decide +kernel)) (fun _ _ _ _ _ => pg_name (i := 6) sc__law_text.nd rfl (by first | exact Or.inl rfl | exact Or.inr rfl)) (gok_name 6) (by decide) (wi_range1 m_range ⟨rfl, (w_var 3 ⟨rfl, ⟨by omega, by omega⟩, ?lcF⟩)⟩))⟩))
        case lcF =>
          refine ⟨fun i acc e => ∃ x y z vs, PotOk (n + 7 + i) x y z ∧ acc = iDs vs ∧ vs.length = i ∧ Row wd vs ∧ e = [some (.lst p (potD x y z)), some (.va (.int wd)), some (.va (.int mo)), some (.va (.int many)), some (.va (.int way)), some (.lst pv (iDs os)), none, none], ⟨x9, y9, z9, [], hq9.le (by omega), rfl, rfl, (fun _ z => (nomatch z)), rfl⟩, ?_, ?_⟩
          · rintro i dd acc e hd ⟨x, y, z, vs, hq, rfl, hl9, hr9, rfl⟩
            obtain ⟨rfl, hi9⟩ := rangeD_at hd
            have hi30 : (i : Int) < 1001 := by omega
            refine ⟨Nat.lt_of_sub_eq_succ rfl, fun _ => ?_, fun z => nomatch z⟩
            intro s2 H2 C cl fp
            refine w_fn G__law_pick hr hgd ⟨rfl, w_var 0 ⟨rfl, w_lst ⟨rfl, w_int ⟨rfl, w_var 1 ⟨rfl, w_bin dop_add (w_int (w_bin dop_fdiv (w_var 1 (w_int ⟨rfl, rfl, ⟨by decide, by decide⟩, ⟨rfl, rfl, ⟨rfl, w_ix (w_var 5 (w_int ⟨rfl, rfl, _, h0at, ⟨(by first | decide | (simp only [List.length_append, List.length_map, List.length_cons, List.length_nil, List.length_singleton, List.length_replicate, List.length_range, List.length_take, List.length_drop, List.length_dropLast, List.length_reverse, Bool.false_eq_true, eq_self, reduceIte, sizeLine_eq]; omega)), fun pz => ⟨rfl, ⟨p, _, x, y, z, [1, wd, 1 + wd / 2, o0], 1, wd, _, none, rfl, (.inl ⟨rfl, rfl⟩), hq, by omega, ⟨by simp, by simp⟩, (by simp only [List.mem_cons, List.not_mem_nil, or_false, forall_eq_or_imp, forall_eq]; omega), fun x' y' z' dd hq2 d0 d1 _ => ⟨rfl, rfl, ?_, x', y', z', vs ++ [dd], hq2.le (by omega), ?_, by rw [List.length_append, hl9]; rfl, hr9.snoc (by omega) (by omega), rfl⟩⟩⟩⟩⟩))⟩⟩⟩))))⟩⟩⟩⟩⟩
            · rw [List.length_map, hl9, sizeLine_eq]; omega
            · simp [iDs]
          · rintro acc e ⟨x9, y9, z9, vs, hq9, rfl, hl9, hr9, rfl⟩ pv
            rw [rangeD_len] at hl9 hq9
            exact ⟨rfl, ⟨rfl, q _ _ _ vs (hq9.le (by omega)) (by omega) hr9⟩⟩
end
end K92

/-! LZ: settled words with more words behind; a text behind a place that all pass. -/
namespace LM
open PySem
end LM

/-! LZs: a text behind a place that all layouts pass. -/
namespace LM
open PySem
/-- all layouts with futures pass m -/
def Pass (wd : Int) (ws : List Int) (m : Nat) : Prop := ∀ vs : List Int, vs ≠ [] → vs.length ≤ 2 → (∀ x ∈ vs, 1 ≤ x ∧ x ≤ wd) → ∃ r, bestLay wd (ws ++ vs) = way wd ws m ++ r
section
variable {wd : Int} {ws : List Int} {m : Nat} (V : Wd wd ws) (hm : m ≤ ws.length)
include V hm
variable (H : Pass wd ws m) (hl : ws.length + 2 ≤ 1000)
include H hl
variable (H0 : ∃ r, bestLay wd ws = way wd ws m ++ r)
include H0
end
end LM

/-! LZw: a text that ends with a word of the width, and what stands behind it. -/
namespace LM
open PySem
section
variable {wd : Int} {ws : List Int} {m : Nat} (V : Wd wd ws) (hm : m ≤ ws.length) (H : Pass wd ws m) (hl : ws.length + 2 ≤ 1000) (H0 : ∃ r, bestLay wd ws = way wd ws m ++ r)
include V hm H hl H0
end
section
variable {wd : Int} {ws : List Int} (V : Wd wd ws) (hl : ws.length + 4 ≤ 1000)
include V hl
variable {vs : List Int} (W : Wd wd (ws ++ [wd] ++ vs)) (hl2 : ws.length + 1 + vs.length + 2 ≤ 1000)
include W hl2
end
end LM

/-! LZv: the text behind the settled words. -/
namespace LM
open PySem
section
variable {wd : Int} {ws : List Int} (V : Wd wd ws) (hl : ws.length + 2 ≤ 1000)
include V hl
end
end LM

/-! LZt: a text that gets one more word: the lines given out, the words held. -/
namespace LM
open PySem
/-- a line's words -/
def seg (ws : List Int) (l : Nat × Nat) : List Int := (ws.drop l.1).take (l.2 - l.1)
/-- the words held -/
noncomputable def hsL (wd : Int) (ws : List Int) : List Int := ws.drop (stM wd ws)
/-- what one more word gives out -/
noncomputable def newL (wd : Int) (ws : List Int) (u : Int) : List (List Int) := (prsN (stE wd (hsL wd ws ++ [u]))).map (seg (hsL wd ws ++ [u]))
section
variable {wd : Int} {ws : List Int} (V : Wd wd ws) (hl : ws.length + 3 ≤ 1000)
include V hl
variable {u : Int} (u1 : 1 ≤ u) (u2 : u ≤ wd)
include u1 u2
end
/-- rows of words for a width, so many of them and so many words in all -/
structure RowsOk (wd : Int) (n : Nat) (ls : List (List Int)) : Prop where
  wrd : ∀ xs ∈ ls, ∀ x ∈ xs, 1 ≤ x ∧ x ≤ wd
  len : ls.length ≤ n
  sum : (ls.map List.length).sum ≤ n
theorem RowsOk.mono {wd : Int} {n m : Nat} {ls : List (List Int)} (h : RowsOk wd n ls) (k : n ≤ m) : RowsOk wd m ls := ⟨h.wrd, Nat.le_trans h.len k, Nat.le_trans h.sum k⟩
theorem RowsOk.app {wd : Int} {n m : Nat} {a b : List (List Int)} (h : RowsOk wd n a) (g : RowsOk wd m b) : RowsOk wd (n + m) (a ++ b) :=
  ⟨fun xs hx => (List.mem_append.mp hx).elim (h.wrd xs) (g.wrd xs), by rw [List.length_append]; have := h.len; have := g.len; omega, by rw [List.map_append, List.sum_append]; have := h.sum; have := g.sum; omega⟩
/-- the pairs of neighbours -/
theorem zip_next : ∀ (ns : List Nat) (a : Nat), (a :: ns).zip ns = (a :: ns.dropLast).zip ns
  | [], _ => rfl
  | [x], a => rfl
  | x :: y :: ys, a => by
    have := zip_next (y :: ys) x
    show (a, x) :: ((x :: y :: ys).zip (y :: ys)) = (a, x) :: ((x :: (y :: ys).dropLast).zip (y :: ys))
    rw [this]
theorem prsN_zip (ns : List Nat) : (0 :: ns).zip ns = prsN ns := zip_next ns 0
end LM

/-! LZx: scaled texts. -/
namespace LM
open PySem
def scl (f : Int) (x : Int) : Int := f * (x + 1) - 1
section
variable {wd : Int} {ws : List Int} {f : Int} (W : Wd wd ws) (f1 : 1 ≤ f) (hg : scl f wd ≤ 1000000000)
include f1
include W hg
end
end LM

/-! QTB: data that may be shown and compared, by size and depth. -/
namespace QL
open PySem PySem.Spec PyProof.Rows L2
structure Fine (n k : Nat) (d : D) : Prop where
  sm : smallD d = true
  nd : nodes d ≤ n
  dp : d.depth ≤ k
structure FineA (n k : Nat) (ds : List D) : Prop where
  sm : smallA ds = true
  nd : nodesA ds ≤ n
  dp : PyData.depthAll ds ≤ k
section
variable {n m k j : Nat} {d e : D} {ds es : List D}
theorem Fine.mono (h : Fine n k d) (h1 : n ≤ m) (h2 : k ≤ j) : Fine m j d := ⟨h.sm, Nat.le_trans h.nd h1, Nat.le_trans h.dp h2⟩
theorem FineA.mono (h : FineA n k ds) (h1 : n ≤ m) (h2 : k ≤ j) : FineA m j ds := ⟨h.sm, Nat.le_trans h.nd h1, Nat.le_trans h.dp h2⟩
theorem fine_int {i : Int} (h : i.natAbs < 2 ^ 200) : Fine 1 k (.int i) := ⟨by simp only [smallD, decide_eq_true_eq]; exact h, Nat.le_refl _, Nat.zero_le _⟩
theorem fine_i {i : Int} (h0 : -1000000000000 ≤ i) (h : i ≤ 1000000000000) : Fine 1 k (.int i) := fine_int (by
  have b : (1000000000000 : Nat) < 2 ^ 200 := by decide
  omega)
theorem fineA_nil : FineA 0 k [] := ⟨rfl, Nat.le_refl _, Nat.zero_le _⟩
theorem FineA.cons (h : Fine n k d) (g : FineA m k ds) : FineA (n + m) k (d :: ds) :=
  ⟨by simp only [smallA, h.sm, g.sm, Bool.and_self], by have := h.nd; have := g.nd; simp only [nodesA]; omega, by have := h.dp; have := g.dp; simp only [PyData.depthAll]; omega⟩
theorem fineA_map {α : Type} {f : α → D} {xs : List α} (h : ∀ x ∈ xs, Fine n k (f x)) : FineA (n * xs.length) k (xs.map f) :=
  ⟨smallA_map fun x hx => (h x hx).sm, nodesA_map fun x hx => (h x hx).nd, depthAll_map fun x hx => (h x hx).dp⟩
theorem FineA.app : ∀ {ds : List D} {n : Nat}, FineA n k ds → FineA m k es → FineA (n + m) k (ds ++ es)
  | [], n, h, g => g.mono (by omega) (Nat.le_refl _)
  | d :: ds, n, h, g => by
    have hs := h.sm
    have hn := h.nd
    have hd := h.dp
    simp only [smallA, Bool.and_eq_true] at hs
    simp only [nodesA] at hn
    simp only [PyData.depthAll] at hd
    have ih := FineA.app (ds := ds) (n := nodesA ds) ⟨hs.2, Nat.le_refl _, by omega⟩ g
    exact (FineA.cons (n := nodes d) ⟨hs.1, Nat.le_refl _, by omega⟩ ih).mono (by omega) (Nat.le_refl _)
theorem FineA.tup (h : FineA n k ds) : Fine (n + 1) (k + 1) (.tuple ds) := ⟨by simpa only [smallD] using h.sm, by have := h.nd; simp only [nodes]; omega, by have := h.dp; simp only [PyData.depth]; omega⟩
theorem FineA.lst (h : FineA n k ds) : Fine (n + 1) (k + 1) (.list ds) := ⟨by simpa only [smallD] using h.sm, by have := h.nd; simp only [nodes]; omega, by have := h.dp; simp only [PyData.depth]; omega⟩
theorem Fine.show (h : Fine n k d) (hn : n ≤ 300) (hk : k ≤ 60) : showOk0 d := show0 h.sm (Nat.le_trans h.nd hn) (Nat.le_trans h.dp hk)
theorem Fine.shaped (h : Fine n k d) (hk : k ≤ 60) : SeqAt.shaped d = true := shaped_sm h.sm (Nat.le_trans h.dp hk)
theorem Fine.eqv (h : Fine n k d) : PyData.eqv d d = true := PySem.SeqAt.eqv_refl d (show_sm d h.sm).2.2.2.2
theorem Fine.neF (h : Fine n k d) {Q : Prop} (z : (!PyData.eqv d d) = true) : Q := by rw [h.eqv] at z; exact absurd z (by decide)
/-- a row of ints -/
theorem fine_ints {xs : List Int} (h : ∀ x ∈ xs, -1000000000000 ≤ x ∧ x ≤ 1000000000000) : FineA xs.length 0 (xs.map PyData.int) := (fineA_map (n := 1) fun x hx => fine_i (h x hx).1 (h x hx).2).mono (by omega) (Nat.le_refl _)
theorem fine_nats {xs : List Nat} (h : ∀ x ∈ xs, x ≤ 1000000000000) : FineA xs.length 0 (xs.map fun (x : Nat) => PyData.int (x : Int)) := (fineA_map (n := 1) fun x hx => fine_i (by omega) (by have := h x hx; omega)).mono (by omega) (Nat.le_refl _)
end
end QL

namespace K92
open PySem PySem.Spec PyProof.Rows L2 QL
open LM
theorem put_len2 (ws : List Int) {q : Nat} (vs : List Int) (h : q ≤ ws.length) : (ws.take q ++ vs ++ ws.drop q).length = ws.length + vs.length := by simp; omega
theorem fine_row {wd : Int} {ws : List Int} (X : Tx wd ws) {n : Nat} (hl : ws.length ≤ n) : Fine (n + 1) 1 (.tuple (iDs ws)) := by
  have w2 := X.w.w2
  exact ((fine_ints fun x hx => by have := X.w.wrd x hx; omega).mono hl (Nat.le_refl _)).tup
theorem fine_lay {wd : Int} {ws : List Int} (W : Wd wd ws) {n : Nat} (hl : ws.length ≤ n) : Fine (n + 1) 1 (.tuple (nDs (bestLay wd ws))) := by
  have h1 := (best_lay W).1.len
  have h2 := W.len
  exact ((fine_nats (xs := bestLay wd ws) fun x hx => by have := ((best_lay W).1.mem x hx).2; omega).mono (Nat.le_trans h1 hl) (Nat.le_refl _)).tup
theorem fine_cost {wd : Int} {ws : List Int} (W : Wd wd ws) {k : Nat} : Fine 1 k (.int (C wd ws (LS wd ws))) := by
  have h := C_bd W (LS wd ws) (LS_le W)
  have h1 := LS_le W
  have h2 := W.len
  refine fine_int ?_
  have b : (10000000000000000000000000 * 1000 : Int) < 2 ^ 200 := by decide
  have b2 : (C wd ws (LS wd ws)) ≤ 10000000000000000000000000 * 1000 := by
    have : (10000000000000000000000000 : Int) * ((LS wd ws : Nat) : Int) ≤ 10000000000000000000000000 * 1000 := Int.mul_le_mul_of_nonneg_left (by omega) (by decide)
    omega
  have b3 : (((C wd ws (LS wd ws)).natAbs : Nat) : Int) < ((2 ^ 200 : Nat) : Int) := by
    rw [Int.natAbs_of_nonneg h.1]
    exact Int.lt_of_le_of_lt b2 (by decide)
  exact Int.ofNat_lt.mp b3
noncomputable abbrev fmD (wd : Int) (ws : List Int) (q : Nat) : D := .tuple ((prsN (stE wd (ws.take q))).map enP)
noncomputable abbrev ansD (wd : Int) (ws : List Int) : D := .list [.int wd, .tuple (iDs ws), .tuple (nDs (bestLay wd ws)), .int (C wd ws (LS wd ws)), .list [fmD wd ws 0, fmD wd ws (ws.length / 2), fmD wd ws ws.length]]
noncomputable def ansS (wd : Int) (ws : List Int) : Str := PyData.shown (ansD wd ws)
theorem fine_firm {wd : Int} {ws : List Int} (W : Wd wd ws) {n : Nat} (hl : ws.length ≤ n) : Fine (3 * n + 1) 2 (.tuple ((prsN (stE wd ws)).map enP)) := by
  obtain ⟨r, hr⟩ := stE_best W
  have h1 := (best_lay W).1.len
  have h2 := W.len
  have hm : ∀ x ∈ stE wd ws, x ≤ 1000 := fun x hx => by have := ((best_lay W).1.mem x (by rw [hr]; exact List.mem_append_left _ hx)).2; omega
  have hlen : (stE wd ws).length ≤ ws.length := by rw [hr, List.length_append] at h1; omega
  have key : FineA (3 * (prsN (stE wd ws)).length) 1 ((prsN (stE wd ws)).map enP) := fineA_map fun p hp => by
    have hz : (p.1, p.2) ∈ (0 :: stE wd ws).zip (stE wd ws) := by rw [prsN_zip]; exact hp
    have ⟨g1, g2⟩ := List.of_mem_zip hz
    have b2 := hm _ g2
    have b1 : p.1 ≤ 1000 := (List.mem_cons.mp g1).elim (fun z => by omega) (hm _)
    exact (FineA.tup (FineA.cons (fine_i (by omega) (by omega)) (FineA.cons (fine_i (by omega) (by omega)) fineA_nil))).mono (by decide) (Nat.le_refl _)
  exact key.tup.mono (by rw [prsN_len]; omega) (Nat.le_refl _)
theorem fine_ans {wd : Int} {ws : List Int} (X : Tx wd ws) (hl : ws.length ≤ 22) : Fine 260 4 (ansD wd ws) := by
  have w1 := X.w.w1
  have w2 := X.w.w2
  have f : ∀ q, Fine 67 2 (fmD wd ws q) := fun q => fine_firm (X.w.take q) (n := 22) (by rw [List.length_take]; omega)
  have a : Fine 202 3 (.list [fmD wd ws 0, fmD wd ws (ws.length / 2), fmD wd ws ws.length]) := (FineA.lst (FineA.cons (f _) (FineA.cons (f _) (FineA.cons (f _) fineA_nil)))).mono (by decide) (Nat.le_refl _)
  exact (FineA.lst (FineA.cons (fine_i (by omega) (by omega)) (FineA.cons ((fine_row X hl).mono (Nat.le_refl _) (by decide)) (FineA.cons ((fine_lay X.w hl).mono (Nat.le_refl _) (by decide)) (FineA.cons (fine_cost X.w) (FineA.cons a fineA_nil)))))).mono (by decide) (Nat.le_refl _)
theorem ans_show {wd : Int} {ws : List Int} (X : Tx wd ws) (hl : ws.length ≤ 22) : showOk0 (ansD wd ws) := (fine_ans X hl).show (by decide) (by decide)
def spAns (aP : Addr) : Spc := fun ts QT _ => ∃ (a : Addr) (wd : Int) (ws : List Int) (pa : Addr) (hs : Hst), ts = [.ins a aP (parF wd ws pa hs)] ∧ Tx wd ws ∧ ws.length ≤ 22 ∧ QT (.va (.str (ansS wd ws))) [some (.ins a aP (parF wd ws pa hs))]
theorem tx_nil {wd : Int} (h1 : 1 ≤ wd) (h2 : wd ≤ 1000000000) : Tx wd [] := ⟨⟨h1, h2, by decide, fun _ z => nomatch z⟩, by decide⟩
theorem Tx.drop {wd : Int} {ws : List Int} (X : Tx wd ws) (n : Nat) : Tx wd (ws.drop n) := by
  have h := X.n
  have h2 := X.w.len
  exact ⟨⟨X.w.w1, X.w.w2, by rw [List.length_drop]; omega, fun x hx => X.w.wrd x (List.mem_of_mem_drop hx)⟩, by rw [List.length_drop]; omega⟩
def spTog (aP : Addr) : Spc := fun ts QT _ => ∃ (wd : Int) (ws : List Int), ts = [.va (.int wd), .va (.tuple (iDs ws))] ∧ Tx wd ws ∧ ws.length ≤ 100 ∧ ∀ a pa hs, hs.length ≤ 300 → QT (.ins a aP (parF wd ws pa hs)) [none, none]
theorem rev_at {ws : List Int} {k : Nat} {d : D} (h : (iDs ws).reverse[k]? = some d) : ∃ x, d = .int x ∧ k < ws.length ∧ x ∈ ws ∧ ws.drop (ws.length - (k + 1)) = x :: ws.drop (ws.length - k) := by
  have hk : k < ws.length := by
    have := (List.getElem?_eq_some_iff.mp h).1
    rw [List.length_reverse, List.length_map] at this
    exact this
  have e : (iDs ws).reverse = iDs ws.reverse := by rw [iDs, iDs, List.map_reverse]
  rw [e, List.getElem?_map] at h
  obtain ⟨x, hx, rfl⟩ := Option.map_eq_some_iff.mp h
  rw [List.getElem?_reverse hk] at hx
  obtain ⟨h1, h2⟩ := List.getElem?_eq_some_iff.mp hx
  refine ⟨x, rfl, hk, h2 ▸ List.getElem_mem h1, ?_⟩
  rw [show ws.length - (k + 1) = ws.length - 1 - k by omega, List.drop_eq_getElem_cons h1, h2, show ws.length - 1 - k + 1 = ws.length - k by omega]
/-- a paragraph within bounds -/
structure Bu (W : Int) (N : Nat) (wd : Int) (ws : List Int) (hs : Hst) : Prop where
  x : Tx wd ws
  w : wd ≤ W
  l : ws.length ≤ 22
  n : hs.length ≤ N
  h : ∀ p ∈ hs, Tx p.1 p.2 ∧ p.1 ≤ W ∧ p.2.length ≤ 22
theorem Bu.hs {W wd : Int} {N : Nat} {ws : List Int} {hs : Hst} (b : Bu W N wd ws hs) (h : N ≤ 2000) : HsOk hs := ⟨Nat.le_trans b.n h, fun p hp => (b.h p hp).1⟩
theorem Bu.le {W wd W2 : Int} {N N2 : Nat} {ws : List Int} {hs : Hst} (b : Bu W N wd ws hs) (h1 : W ≤ W2) (h3 : N ≤ N2) : Bu W2 N2 wd ws hs :=
  ⟨b.x, Int.le_trans b.w h1, b.l, Nat.le_trans b.n h3, fun p hp => let ⟨z1, z2, z3⟩ := b.h p hp; ⟨z1, Int.le_trans z2 h1, z3⟩⟩
theorem Bu.push {W wd wd2 : Int} {N : Nat} {ws ws2 : List Int} {hs : Hst} (b : Bu W N wd ws hs) (x : Tx wd2 ws2) (h1 : wd2 ≤ W + 8) (h2 : ws2.length ≤ 22) : Bu (W + 8) (N + 1) wd2 ws2 (hs ++ [(wd, ws)]) := by
  refine ⟨x, h1, h2, by rw [List.length_append]; exact Nat.succ_le_succ b.n, fun p hp => ?_⟩
  rcases List.mem_append.mp hp with z | z
  · have ⟨z1, z2, z3⟩ := b.h p z
    exact ⟨z1, by omega, z3⟩
  · rw [List.mem_singleton.mp z]
    have := b.w
    exact ⟨b.x, by show wd ≤ W + 8; omega, b.l⟩
theorem Bu.pop {W wd : Int} {N : Nat} {ws : List Int} {h0 : Hst} {p : Int × List Int} (b : Bu W N wd ws (h0 ++ [p])) : Bu W N p.1 p.2 h0 := by
  have ⟨z1, z2, z3⟩ := b.h p (List.mem_append_right _ (List.mem_singleton.mpr rfl))
  have hn := b.n
  exact ⟨z1, z2, z3, by simp at hn; omega, fun q hq => b.h q (List.mem_append_left _ hq)⟩
def spChg (aP : Addr) : Spc := fun ts QT _ => ∃ (p : Addr) (n a b c : Int) (o : Addr) (wd : Int) (ws : List Int) (pa : Addr) (hs : Hst) (W : Int) (N : Nat), ts = [.lst p (potD a b c), .ins o aP (parF wd ws pa hs)] ∧ PotOk n a b c ∧ n ≤ 800000 ∧ Bu W N wd ws hs ∧ W ≤ 1000 ∧ N ≤ 100 ∧
  ∀ a' b' c', PotOk (n + 40) a' b' c' → ((∀ h0 p', hs = h0 ++ [p'] → QT (.va (.bool true)) [some (.lst p (potD a' b' c')), some (.ins o aP (parF p'.1 p'.2 pa h0))]) ∧
    ∀ wd2 ws2, Tx wd2 ws2 → wd2 ≤ W + 8 → ws2.length ≤ 22 → QT (.va (.bool false)) [some (.lst p (potD a' b' c')), some (.ins o aP (parF wd2 ws2 pa (hs ++ [(wd, ws)])))])
section
variable {P : Program} {w : World} {K : PySem.W.Frag} {mg : Str → Option Value} {base : Heap} {Tq : List (Addr × Str)}
abbrev N__law_answers : List Str := ["_law_made", "_law_many", "_law_at"]
theorem sc__law_answers : FnScope N__law_answers ["_law_made"] (defScope (topS 49)) := ⟨rfl, rfl, rfl, by decide +kernel, rfl, by decide +kernel, by decide +kernel⟩
theorem g__law_answers {f : Addr} {fd : FuncData} {k : Nat} {aParagraph : Addr} (Fn : Fun K "_law_answers" "_law_answers" (topS 49) f fd) (M_cost : Mf P w K mg base Tq k aParagraph "cost" ["self"] (spPCost aParagraph)) (M_firm : Mf P w K mg base Tq k aParagraph "firm" ["self", "at"] (spPFirmG aParagraph)) (M_layout : Mf P w K mg base Tq k aParagraph "layout" ["self"] (spPLayout aParagraph)) (Q_text : Pf P w K mg base Tq k aParagraph "text" ["self"] (spPText aParagraph)) (Q_width : Pf P w K mg base Tq k aParagraph "width" ["self"] (spPWidth aParagraph)) (O_len : Mf P w K mg base Tq k aParagraph "__len__" ["self"] (spPLen aParagraph)) (m_len : mg "len" = none) (m_repr : mg "repr" = none) : FnG P w K mg base Tq (k + 2) f fd ["_law_made"] (spAns aParagraph) := by
  have M_cost := M_cost.mono (Nat.le_succ k)
  have M_firm := M_firm.mono (Nat.le_succ k)
  have M_layout := M_layout.mono (Nat.le_succ k)
  refine fn_g Fn sc__law_answers (fun ts Q E h => ?_) fun cdv A outer s H E Z ts QT ET hr hgd hp tk h => ?_
  · obtain ⟨a, wd, ws, pa, hs, rfl, X, hl, q⟩ := h; rfl
  · obtain ⟨a, wd, ws, pa, hs, rfl, X, hl, q⟩ := h
    have hu := room110 hr
    have hn9 := X.n
    -- line 297
    refine wss_cons (ws_set 1 (w_lenO O_len hr hgd m_len (w_var 0 ⟨⟨rfl, rfl, rfl⟩, ⟨rfl, ⟨a, wd, ws, pa, hs, rfl, ⟨rfl, rfl, ⟨_, rfl, (by omega), ⟨Nat.lt_of_sub_eq_succ rfl, ?_⟩⟩⟩⟩⟩⟩)) sc__law_answers.nd)
    -- line 298
    refine wss_one (ws_ret (w_callB (dc_repr0 hgd hu) m_repr rfl ⟨rfl, (w_lst ⟨rfl, (w_prop Q_width hr hgd (w_var 0 ⟨⟨rfl, rfl, rfl⟩, ⟨rfl, ⟨a, wd, ws, pa, hs, rfl, ⟨rfl, rfl, ⟨rfl, (w_prop Q_text hr hgd (w_var 0 ⟨⟨rfl, rfl, rfl⟩, ⟨rfl, ⟨a, wd, ws, pa, hs, rfl, ⟨rfl, rfl, ⟨rfl, (w_meth0 M_layout hr hgd (w_var 0 ⟨⟨rfl, rfl, rfl⟩, ⟨rfl, ⟨a, wd, ws, pa, hs, rfl, X.w, ⟨rfl, rfl, ⟨rfl, (w_meth0 M_cost hr hgd (w_var 0 ⟨⟨rfl, rfl, rfl⟩, ⟨rfl, ⟨a, wd, ws, pa, hs, rfl, X.w, ⟨rfl, rfl, ⟨rfl, (w_lc (own := [("_law_at", 2)]) rfl sc__law_answers.nd (blkOk_by (N := N__law_answers) (sc := defScope (topS 49)) (by decide +kernel)) (fun _ _ _ _ _ => pg_name (i := 2) sc__law_answers.nd rfl (by first | exact Or.inl rfl | exact Or.inr rfl)) (gok_name 2) (by decide) (wi_tup (w_tup ⟨rfl, (w_int ⟨rfl, (w_bin dop_fdiv (w_var 1 (w_int ⟨rfl, rfl, ⟨by omega, by omega⟩, ⟨rfl, (w_var 1 ⟨(Nat.le_of_lt (small2000 (n := 3) (by decide))), (lc_map fm_name (fun (q : Nat) => PyData.int (q : Int)) ([0, ws.length / 2, ws.length]) (fun q => fmD wd ws q) _ rfl (rfl) (by simp only [List.length_append, List.length_map, List.length_cons, List.length_nil, List.length_singleton, List.length_replicate, List.length_range, List.length_take, List.length_drop, List.length_dropLast, List.length_reverse, Bool.false_eq_true, eq_self, reduceIte, sizeLine_eq]; omega) (fun k2 x hx => by have hx8 : x ≤ ws.length := (by have hm := List.mem_of_getElem? hx; simp only [List.mem_cons, List.not_mem_nil, or_false] at hm; omega); exact ⟨Nat.lt_of_sub_eq_succ rfl, fun s2 H2 C2 cl2 fp2 => (w_meth M_firm hr hgd (w_var 0 ⟨⟨rfl, rfl, rfl⟩, ⟨rfl, (w_var 2 ⟨rfl, ⟨a, wd, ws, pa, hs, x, rfl, X.w, hx8, ⟨rfl, rfl, ⟨rfl, rfl⟩⟩⟩⟩)⟩⟩))⟩) (fun p1 => ⟨(Nat.le_of_lt (small2000 (n := 5) (by decide))), fun p2 => ⟨rfl, ⟨_, rfl, (ans_show X hl), ?_⟩⟩⟩))⟩)⟩⟩)))⟩)⟩)))⟩⟩⟩⟩⟩))⟩⟩⟩⟩⟩))⟩⟩⟩⟩⟩))⟩⟩⟩⟩⟩))⟩)⟩))
    exact ⟨rfl, q⟩
abbrev N__law_together : List Str := ["_law_wide", "_law_row", "_law_made", "_law_word"]
theorem sc__law_together : FnScope N__law_together ["_law_wide", "_law_row"] (defScope (topS 50)) := ⟨rfl, rfl, rfl, by decide +kernel, rfl, by decide +kernel, by decide +kernel⟩
theorem g__law_together {f : Addr} {fd : FuncData} {k : Nat} {aParagraph : Addr} (Fn : Fun K "_law_together" "_law_together" (topS 50) f fd) (M_insert : Mf P w K mg base Tq k aParagraph "insert" ["self", "at", "words"] (spPIns aParagraph)) {aE : Addr} (hEm : (aE, ("()" : Str)) ∈ Tq) (DD_Paragraph : CkD P w K mg base Tq k "Paragraph" aParagraph aE ["self", "width", "text"] (spPInit aParagraph)) : FnG P w K mg base Tq (k + 2) f fd ["_law_wide", "_law_row"] (spTog aParagraph) := by
  have M_insert := M_insert.mono (Nat.le_succ k)
  refine fn_g Fn sc__law_together (fun ts Q E h => ?_) fun cdv A outer s H E Z ts QT ET hr hgd hp tk h => ?_
  · obtain ⟨wd, ws, rfl, X, hl, q⟩ := h; rfl
  · obtain ⟨wd, ws, rfl, X, hl, q⟩ := h
    have hnl : (iDs ws).length = ws.length := List.length_map _
    -- line 300
    refine wss_cons (ws_set 2 (w_makeD hEm DD_Paragraph hr hgd ⟨rfl, (w_var 0 fun oE => ⟨_, wd, [], rfl, (tx_nil X.w.w1 X.w.w2), fun paE => ⟨rfl, rfl, ⟨Nat.lt_of_sub_eq_succ rfl, ?_⟩⟩⟩)⟩) sc__law_together.nd)
    -- line 301
    refine wss_cons (ws_for hp rfl (pg_name (i := 3) sc__law_together.nd rfl (by first | exact Or.inl rfl | exact Or.inr rfl)) (gok_name 3) (wi_tup (w_rev (w_var 1 ⟨rfl, ?_⟩))))
    refine ⟨fun k e => ∃ hs o3, hs.length = k ∧ e = [some (.va (.int wd)), some (.va (.tuple (iDs ws))), some (.ins oE aParagraph (parF wd (ws.drop (ws.length - k)) paE hs)), o3], ⟨[], none, rfl, by rw [Nat.sub_zero, List.drop_length]; rfl⟩, ?_, ?_⟩
    · rintro k d e hd ⟨hs, o3, hh, rfl⟩
      obtain ⟨x, rfl, hk, hx, hdr⟩ := rev_at hd
      have hw := X.w.wrd x hx
      refine ⟨Nat.lt_of_sub_eq_succ rfl, ?_⟩
      have hdl : (ws.drop (ws.length - k)).length = k := by rw [List.length_drop]; omega
      -- line 302
      refine wss_one (ws_expr (w_meth M_insert hr hgd (w_var 2 ⟨⟨rfl, rfl, rfl⟩, ⟨rfl, (w_int ⟨rfl, (w_tup ⟨rfl, (w_var 3 ⟨(Nat.le_of_lt (small2000 (n := 1) (by decide))), ⟨rfl, ⟨oE, wd, ws.drop (ws.length - k), paE, hs, 0, [x], rfl, (X.drop _), (by omega), (Nat.zero_le _), (fun v hv => by rw [List.mem_singleton.mp hv]; exact hw), (by rw [hdl]; show k + 1 ≤ 300; omega), ⟨rfl, rfl, ?_⟩⟩⟩⟩)⟩)⟩)⟩⟩)))
      refine ⟨hs ++ [(wd, ws.drop (ws.length - k))], some (.va (.int x)), by rw [List.length_append, hh]; rfl, ?_⟩
      rw [hdr]; rfl
    · rintro e ⟨hs, o3, hh, rfl⟩
      rw [List.length_reverse, hnl] at hh
      show WSs _ _ _ [some (.va (.int wd)), some (.va (.tuple (iDs ws))), some (.ins oE aParagraph (parF wd (ws.drop (ws.length - (iDs ws).reverse.length)) paE hs)), o3] _
      rw [List.length_reverse, hnl, Nat.sub_self, List.drop_zero]
      -- line 303
      refine wss_one (ws_ret (w_var 2 ⟨rfl, ?_⟩))
      exact q _ _ _ (by omega)
abbrev N__law_changed : List Str := ["_law_well_here", "_law_made", "_law_row", "_law_way", "_law_first"]
theorem sc__law_changed : FnScope N__law_changed ["_law_well_here", "_law_made"] (defScope (topS 51)) := ⟨rfl, rfl, rfl, by decide +kernel, rfl, by decide +kernel, by decide +kernel⟩
theorem g__law_changed {f : Addr} {fd : FuncData} {k : Nat} {aBadPlace : Addr} {aNothingToUndo : Addr} {aParagraph : Addr} (Fn : Fun K "_law_changed" "_law_changed" (topS 51) f fd) (G__law_draw : Df P w K mg base Tq k "_law_draw" ["_law_well_here", "_law_many"] spTake) (G__law_text : Df P w K mg base Tq k "_law_text" ["_law_well_here", "_law_wide", "_law_most"] spTextD) (M_edits : Mf P w K mg base Tq k aParagraph "edits" ["self"] (spPEdits aParagraph)) (M_insert : Mf P w K mg base Tq k aParagraph "insert" ["self", "at", "words"] (spPIns aParagraph)) (M_remove : Mf P w K mg base Tq k aParagraph "remove" ["self", "begin", "end"] (spPRem aParagraph aBadPlace)) (M_undo : Mf P w K mg base Tq k aParagraph "undo" ["self"] (spPUndo aParagraph aNothingToUndo)) (M_widen : Mf P w K mg base Tq k aParagraph "widen" ["self", "width"] (spPWiden aParagraph)) (Q_text : Pf P w K mg base Tq k aParagraph "text" ["self"] (spPText aParagraph)) (Q_width : Pf P w K mg base Tq k aParagraph "width" ["self"] (spPWidth aParagraph)) (m_len : mg "len" = none) (m_max : mg "max" = none) (m_min : mg "min" = none) : FnG P w K mg base Tq (k + 2) f fd ["_law_well_here", "_law_made"] (spChg aParagraph) := by
  have G__law_draw := G__law_draw.mono (Nat.le_succ k)
  have G__law_text := G__law_text.mono (Nat.le_succ k)
  have M_edits := M_edits.mono (Nat.le_succ k)
  have M_insert := M_insert.mono (Nat.le_succ k)
  have M_remove := M_remove.mono (Nat.le_succ k)
  have M_undo := M_undo.mono (Nat.le_succ k)
  have M_widen := M_widen.mono (Nat.le_succ k)
  refine fn_g Fn sc__law_changed (fun ts Q E h => ?_) fun cdv A outer s H E Z ts QT ET hr hgd hp tk h => ?_
  · obtain ⟨p, n, a, b, c, o, wd, ws, pa, hs, W, N, rfl, hpot, hn, B, hW, hN, q⟩ := h; rfl
  · obtain ⟨p, n, a, b, c, o, wd, ws, pa, hs, W, N, rfl, hpot, hn, B, hW, hN, q⟩ := h
    have hu := room110 hr
    have X := B.x
    have w1 := X.w.w1
    have w2 := X.w.w2
    have hwl := B.l
    have hww := B.w
    have hhn := B.n
    have hnl : (iDs ws).length = ws.length := List.length_map _
    have hHs := B.hs (by omega)
    -- line 305
    refine wss_cons (ws_par 2 3 rfl sc__law_changed.nd (w_prop Q_text hr hgd (w_var 1 ⟨⟨rfl, rfl, rfl⟩, ⟨rfl, ⟨_, _, _, _, _, rfl, ⟨rfl, rfl, ⟨_, rfl, (w_fn G__law_draw hr hgd ⟨rfl, (w_var 0 ⟨rfl, (w_int ⟨rfl, ⟨_, _, _, _, _, _, rfl, (by assumption), (by omega), ⟨by omega, by omega⟩, fun a1 b1 c1 way hp_1 y0 y1 => ⟨rfl, rfl, ⟨_, rfl, Nat.lt_of_sub_eq_succ rfl, Nat.lt_of_sub_eq_succ rfl, ?_⟩⟩⟩⟩)⟩)⟩)⟩⟩⟩⟩⟩)))
    by_cases h0 : way = 0
    · subst h0
      rcases List.eq_nil_or_concat hs with e0 | ⟨h0, p9, e0⟩
      · skip
        -- line 306
        refine wss_cons (ws_if (WW.t (ww_and (wt_cmp (dop_eq (room64 hr)) (w_var 3 (w_int ⟨rfl, rfl, _, rfl, ⟨fun h => (ww_and1 (wt_cmp dop_gt (w_meth0 M_edits hr hgd (w_var 1 ⟨⟨rfl, rfl, rfl⟩, ⟨rfl, ⟨_, _, _, _, _, rfl, ⟨rfl, rfl, (w_int ⟨rfl, rfl, _, rfl, ⟨fun h => ?_, fun h => ?_⟩⟩)⟩⟩⟩⟩)))), fun h => (absurd h (by decide))⟩⟩))))))
        · exact absurd (of_decide_eq_true h) (by rw [e0]; simp)
        refine wss_nil ?_
        -- line 309
        refine wss_cons (ws_set 4 (w_fn G__law_draw hr hgd ⟨rfl, (w_var 0 ⟨rfl, (w_bin dop_add (w_callB dc_len m_len rfl ⟨rfl, (w_var 2 ⟨rfl, (w_int ⟨rfl, rfl, ⟨rfl, ⟨_, _, _, _, _, _, rfl, (by assumption), (by omega), ⟨by omega, by omega⟩, fun a2 b2 c2 t9 hp_2 t0 t1 => ⟨rfl, rfl, ⟨Nat.lt_of_sub_eq_succ rfl, ?_⟩⟩⟩⟩⟩)⟩)⟩))⟩)⟩) sc__law_changed.nd)
        obtain ⟨q9, rfl⟩ := Int.eq_ofNat_of_zero_le t0
        have hq9 : q9 ≤ ws.length := by omega
        -- line 310
        refine wss_cons (ws_if (wt_cmp (dop_eq (room64 hr)) (w_var 3 (w_int ⟨rfl, rfl, _, rfl, ⟨fun h => ?_, fun h => ?_⟩⟩))))
        · exact absurd (of_decide_eq_true h) (by decide)
        by_cases hI : (0 : Int) < 4 ∧ ws.length < 20
        · obtain ⟨hI1, hI2⟩ := hI
          refine wss_one (ws_if (WW.t (ww_and (wt_cmp dop_lt (w_var 3 (w_int ⟨rfl, rfl, _, rfl, ⟨fun h => (ww_and1 (wt_cmp dop_lt (w_callB dc_len m_len rfl ⟨rfl, (w_var 2 ⟨rfl, (w_int ⟨rfl, rfl, _, rfl, ⟨fun h => ?_, fun h => ?_⟩⟩)⟩)⟩))), fun h => (absurd hI1 (of_decide_eq_false h))⟩⟩))))))
          · skip
            -- line 313
            refine wss_one (ws_expr (w_meth M_insert hr hgd (w_var 1 ⟨⟨rfl, rfl, rfl⟩, ⟨rfl, (w_var 4 ⟨rfl, (w_fn G__law_text hr hgd ⟨rfl, (w_var 0 ⟨rfl, (w_prop Q_width hr hgd (w_var 1 ⟨⟨rfl, rfl, rfl⟩, ⟨rfl, ⟨_, _, _, _, _, rfl, ⟨rfl, rfl, ⟨rfl, (w_int ⟨rfl, ⟨_, _, _, _, _, _, _, rfl, (by assumption), (by omega), ⟨by omega, by omega⟩, ⟨by omega, by omega⟩, fun a3 b3 c3 vs hp_3 hvl hvr => ⟨rfl, rfl, ⟨rfl, ⟨o, wd, ws, pa, hs, q9, vs, rfl, X, (by omega), hq9, hvr, (by omega), ⟨rfl, rfl, ?_⟩⟩⟩⟩⟩⟩)⟩⟩⟩⟩⟩))⟩)⟩)⟩)⟩⟩)))
            -- line 316
            refine wss_one (ws_ret (w_bl ?_))
            exact ⟨rfl, rfl, (q a3 b3 c3 (hp_3.le (by omega))).2 wd _ (X.ins q9 hvr (by omega)) (by omega) (by rw [put_len2 ws vs hq9]; omega)⟩
          · exact absurd hI2 (by have := of_decide_eq_false h; omega)
        · skip
          have hI2 : ¬ ws.length < 20 := fun z => hI ⟨by decide, z⟩
          refine wss_one (ws_if (WW.t (ww_and (wt_cmp dop_lt (w_var 3 (w_int ⟨rfl, rfl, _, rfl, ⟨fun h => (ww_and1 (wt_cmp dop_lt (w_callB dc_len m_len rfl ⟨rfl, (w_var 2 ⟨rfl, (w_int ⟨rfl, rfl, _, rfl, ⟨fun h => ?_, fun h => ?_⟩⟩)⟩)⟩))), fun h => (absurd h (by decide))⟩⟩))))))
          · exact absurd (of_decide_eq_true h) (by omega)
          -- line 315
          refine wss_one (ws_expr (w_methX M_remove hr hgd tk  (w_var 1 ⟨⟨rfl, rfl, rfl⟩, ⟨rfl, (w_var 4 ⟨rfl, (w_callB (dc_min2 rfl) m_min rfl ⟨rfl, (w_callB dc_len m_len rfl ⟨rfl, (w_var 2 ⟨rfl, ⟨rfl, (w_bin dop_add (w_var 4 (w_fn G__law_draw hr hgd ⟨rfl, (w_var 0 ⟨rfl, (w_int ⟨rfl, ⟨_, _, _, _, _, _, rfl, (by assumption), (by omega), ⟨by omega, by omega⟩, fun a3 b3 c3 g9 hp_3 g0 g1 => ⟨rfl, rfl, ⟨rfl, rfl, ⟨rfl, ⟨rfl, ⟨rfl, ⟨o, wd, ws, pa, hs, _, _, rfl, X.w.len, (by omega), .inl ⟨q9, (min ((ws.length : Nat) : Int) ((q9 : Int) + g9)).toNat, rfl, (congrArg PyData.int (by rw [hnl]; omega)), (by omega), (by omega), ⟨rfl, rfl, ?_⟩⟩⟩⟩⟩⟩⟩⟩⟩⟩)⟩)⟩)))⟩⟩)⟩)⟩)⟩)⟩⟩)))
          -- line 316
          refine wss_one (ws_ret (w_bl ?_))
          exact ⟨rfl, rfl, (q a3 b3 c3 (hp_3.le (by omega))).2 wd _ (X.rem q9 _ (by omega)) (by omega) (by simp; omega)⟩
      · rw [List.concat_eq_append] at e0
        -- line 306
        refine wss_cons (ws_if (WW.t (ww_and (wt_cmp (dop_eq (room64 hr)) (w_var 3 (w_int ⟨rfl, rfl, _, rfl, ⟨fun h => (ww_and1 (wt_cmp dop_gt (w_meth0 M_edits hr hgd (w_var 1 ⟨⟨rfl, rfl, rfl⟩, ⟨rfl, ⟨_, _, _, _, _, rfl, ⟨rfl, rfl, (w_int ⟨rfl, rfl, _, rfl, ⟨fun h => ?_, fun h => ?_⟩⟩)⟩⟩⟩⟩)))), fun h => (absurd h (by decide))⟩⟩))))))
        · skip
          -- line 307
          refine wss_cons (ws_expr (w_methX0 M_undo hr hgd tk  (w_var 1 ⟨⟨rfl, rfl, rfl⟩, ⟨rfl, ⟨o, wd, ws, pa, hs, rfl, hHs, .inr ⟨h0, p9, e0, ⟨rfl, rfl, ?_⟩⟩⟩⟩⟩)))
          -- line 308
          refine wss_one (ws_ret (w_bl ?_))
          exact ⟨rfl, rfl, (q a1 b1 c1 (hp_1.le (by omega))).1 h0 p9 e0⟩
        · exact absurd (of_decide_eq_false h) (by rw [e0]; simp)
    -- line 306
    refine wss_cons (ws_if (WW.t (ww_and (wt_cmp (dop_eq (room64 hr)) (w_var 3 (w_int ⟨rfl, rfl, _, rfl, ⟨fun h => (absurd (of_decide_eq_true h) h0), fun h => ?sD⟩⟩))))))
    case sD =>
      refine ⟨(fun z => nomatch z), fun _ => wss_nil ?_⟩
      -- line 309
      refine wss_cons (ws_set 4 (w_fn G__law_draw hr hgd ⟨rfl, (w_var 0 ⟨rfl, (w_bin dop_add (w_callB dc_len m_len rfl ⟨rfl, (w_var 2 ⟨rfl, (w_int ⟨rfl, rfl, ⟨rfl, ⟨_, _, _, _, _, _, rfl, (by assumption), (by omega), ⟨by omega, by omega⟩, fun a2 b2 c2 t9 hp_2 t0 t1 => ⟨rfl, rfl, ⟨Nat.lt_of_sub_eq_succ rfl, ?_⟩⟩⟩⟩⟩)⟩)⟩))⟩)⟩) sc__law_changed.nd)
      obtain ⟨q9, rfl⟩ := Int.eq_ofNat_of_zero_le t0
      have hq9 : q9 ≤ ws.length := by omega
      by_cases h1 : way = 1
      · subst h1
        obtain ⟨x0, xs0, m, m1, m2, m3, m4, m5, m6, m7⟩ := max_ints (ns := ws ++ [1]) (by simp)
        have m1' : iDs ws ++ [PyData.int 1] = x0 :: xs0 := by rw [← m1]; simp
        have hm1 : 1 ≤ m := m4 1 (by simp)
        have hmw : m ≤ wd := by
          rcases List.mem_append.mp m3 with z | z
          · exact (X.w.wrd m z).2
          · rw [List.mem_singleton.mp z]; exact w1
        have X2 : ∀ x9 : Int, 0 ≤ x9 → x9 ≤ 8 → Tx (m + x9) ws := fun x9 g0 g1 => ⟨⟨by omega, by omega, X.w.len, fun x hx => ⟨(X.w.wrd x hx).1, by have := m4 x (List.mem_append_left _ hx); omega⟩⟩, X.n⟩
        -- line 310
        refine wss_cons (ws_if (wt_cmp (dop_eq (room64 hr)) (w_var 3 (w_int ⟨rfl, rfl, _, rfl, ⟨fun h => ?_, fun h => ?_⟩⟩))))
        · skip
          -- line 311
          refine wss_one (ws_expr (w_meth M_widen hr hgd (w_var 1 ⟨⟨rfl, rfl, rfl⟩, ⟨rfl, (w_bin dop_add (w_callB (dc_maxL rfl hu) m_max rfl ⟨rfl, (w_bin dop_add (w_var 2 (w_tup ⟨rfl, (w_int ⟨(by first | decide | (simp only [List.length_append, List.length_map, List.length_cons, List.length_nil, List.length_singleton, List.length_replicate, List.length_range, List.length_take, List.length_drop, List.length_dropLast, List.length_reverse, Bool.false_eq_true, eq_self, reduceIte, sizeLine_eq]; omega)), ⟨rfl, rfl, (by first | decide | (simp only [List.length_append, List.length_map, List.length_cons, List.length_nil, List.length_singleton, List.length_replicate, List.length_range, List.length_take, List.length_drop, List.length_dropLast, List.length_reverse, Bool.false_eq_true, eq_self, reduceIte, sizeLine_eq]; omega)), ⟨rfl, ⟨_, _, _, (.inr (congrArg (fun z => [PyData.tuple z]) m1')), m5, m6, m7, m2, (w_fn G__law_draw hr hgd ⟨rfl, (w_var 0 ⟨rfl, (w_int ⟨rfl, ⟨_, _, _, _, _, _, rfl, (by assumption), (by omega), ⟨by omega, by omega⟩, fun a3 b3 c3 x9 hp_3 g0 g1 => ⟨rfl, rfl, ⟨rfl, rfl, ⟨rfl, ⟨o, wd, ws, pa, hs, m + x9, rfl, (X2 x9 g0 (by omega)), (by omega), ⟨rfl, rfl, ?_⟩⟩⟩⟩⟩⟩⟩)⟩)⟩)⟩⟩⟩⟩)⟩)))⟩))⟩⟩)))
          -- line 316
          refine wss_one (ws_ret (w_bl ?_))
          exact ⟨rfl, rfl, (q a3 b3 c3 (hp_3.le (by omega))).2 _ ws (X2 x9 g0 (by omega)) (by omega) hwl⟩
        exact absurd h (by decide)
      · skip
        -- line 310
        refine wss_cons (ws_if (wt_cmp (dop_eq (room64 hr)) (w_var 3 (w_int ⟨rfl, rfl, _, rfl, ⟨fun h => ?_, fun h => ?_⟩⟩))))
        · exact absurd (of_decide_eq_true h) h1
        by_cases hI : way < 4 ∧ ws.length < 20
        · obtain ⟨hI1, hI2⟩ := hI
          refine wss_one (ws_if (WW.t (ww_and (wt_cmp dop_lt (w_var 3 (w_int ⟨rfl, rfl, _, rfl, ⟨fun h => (ww_and1 (wt_cmp dop_lt (w_callB dc_len m_len rfl ⟨rfl, (w_var 2 ⟨rfl, (w_int ⟨rfl, rfl, _, rfl, ⟨fun h => ?_, fun h => ?_⟩⟩)⟩)⟩))), fun h => (absurd hI1 (of_decide_eq_false h))⟩⟩))))))
          · skip
            -- line 313
            refine wss_one (ws_expr (w_meth M_insert hr hgd (w_var 1 ⟨⟨rfl, rfl, rfl⟩, ⟨rfl, (w_var 4 ⟨rfl, (w_fn G__law_text hr hgd ⟨rfl, (w_var 0 ⟨rfl, (w_prop Q_width hr hgd (w_var 1 ⟨⟨rfl, rfl, rfl⟩, ⟨rfl, ⟨_, _, _, _, _, rfl, ⟨rfl, rfl, ⟨rfl, (w_int ⟨rfl, ⟨_, _, _, _, _, _, _, rfl, (by assumption), (by omega), ⟨by omega, by omega⟩, ⟨by omega, by omega⟩, fun a3 b3 c3 vs hp_3 hvl hvr => ⟨rfl, rfl, ⟨rfl, ⟨o, wd, ws, pa, hs, q9, vs, rfl, X, (by omega), hq9, hvr, (by omega), ⟨rfl, rfl, ?_⟩⟩⟩⟩⟩⟩)⟩⟩⟩⟩⟩))⟩)⟩)⟩)⟩⟩)))
            -- line 316
            refine wss_one (ws_ret (w_bl ?_))
            exact ⟨rfl, rfl, (q a3 b3 c3 (hp_3.le (by omega))).2 wd _ (X.ins q9 hvr (by omega)) (by omega) (by rw [put_len2 ws vs hq9]; omega)⟩
          · exact absurd hI2 (by have := of_decide_eq_false h; omega)
        · skip
          refine wss_one (ws_if (WW.t (ww_and (wt_cmp dop_lt (w_var 3 (w_int ⟨rfl, rfl, _, rfl, ⟨fun h => (ww_and1 (wt_cmp dop_lt (w_callB dc_len m_len rfl ⟨rfl, (w_var 2 ⟨rfl, (w_int ⟨rfl, rfl, _, rfl, ⟨fun h => ?_, fun h => ?_⟩⟩)⟩)⟩))), fun h => ?sR⟩⟩))))))
          case sR =>
            refine ⟨(fun z => nomatch z), fun _ => ?_⟩
            -- line 315
            refine wss_one (ws_expr (w_methX M_remove hr hgd tk  (w_var 1 ⟨⟨rfl, rfl, rfl⟩, ⟨rfl, (w_var 4 ⟨rfl, (w_callB (dc_min2 rfl) m_min rfl ⟨rfl, (w_callB dc_len m_len rfl ⟨rfl, (w_var 2 ⟨rfl, ⟨rfl, (w_bin dop_add (w_var 4 (w_fn G__law_draw hr hgd ⟨rfl, (w_var 0 ⟨rfl, (w_int ⟨rfl, ⟨_, _, _, _, _, _, rfl, (by assumption), (by omega), ⟨by omega, by omega⟩, fun a3 b3 c3 g9 hp_3 g0 g1 => ⟨rfl, rfl, ⟨rfl, rfl, ⟨rfl, ⟨rfl, ⟨rfl, ⟨o, wd, ws, pa, hs, _, _, rfl, X.w.len, (by omega), .inl ⟨q9, (min ((ws.length : Nat) : Int) ((q9 : Int) + g9)).toNat, rfl, (congrArg PyData.int (by rw [hnl]; omega)), (by omega), (by omega), ⟨rfl, rfl, ?_⟩⟩⟩⟩⟩⟩⟩⟩⟩⟩)⟩)⟩)))⟩⟩)⟩)⟩)⟩)⟩⟩)))
            -- line 316
            refine wss_one (ws_ret (w_bl ?_))
            exact ⟨rfl, rfl, (q a3 b3 c3 (hp_3.le (by omega))).2 wd _ (X.rem q9 _ (by omega)) (by omega) (by simp; omega)⟩
          · exact absurd (of_decide_eq_true h) (by rename_i h9; exact fun z => hI ⟨of_decide_eq_true h9, by omega⟩)
          -- line 315
          refine wss_one (ws_expr (w_methX M_remove hr hgd tk  (w_var 1 ⟨⟨rfl, rfl, rfl⟩, ⟨rfl, (w_var 4 ⟨rfl, (w_callB (dc_min2 rfl) m_min rfl ⟨rfl, (w_callB dc_len m_len rfl ⟨rfl, (w_var 2 ⟨rfl, ⟨rfl, (w_bin dop_add (w_var 4 (w_fn G__law_draw hr hgd ⟨rfl, (w_var 0 ⟨rfl, (w_int ⟨rfl, ⟨_, _, _, _, _, _, rfl, (by assumption), (by omega), ⟨by omega, by omega⟩, fun a3 b3 c3 g9 hp_3 g0 g1 => ⟨rfl, rfl, ⟨rfl, rfl, ⟨rfl, ⟨rfl, ⟨rfl, ⟨o, wd, ws, pa, hs, _, _, rfl, X.w.len, (by omega), .inl ⟨q9, (min ((ws.length : Nat) : Int) ((q9 : Int) + g9)).toNat, rfl, (congrArg PyData.int (by rw [hnl]; omega)), (by omega), (by omega), ⟨rfl, rfl, ?_⟩⟩⟩⟩⟩⟩⟩⟩⟩⟩)⟩)⟩)))⟩⟩)⟩)⟩)⟩)⟩⟩)))
          -- line 316
          refine wss_one (ws_ret (w_bl ?_))
          exact ⟨rfl, rfl, (q a3 b3 c3 (hp_3.le (by omega))).2 wd _ (X.rem q9 _ (by omega)) (by omega) (by simp; omega)⟩
end
end K92

/-! QTv: any of a list of booleans. -/
namespace QL
open PySem PySem.Spec PyProof.Rows L2
variable {X : Cx}
end QL

/-! QV: repr and str of data with dicts: only a dict's own address must be other than that of the modules' table. -/
namespace QL
open PySem PySem.Spec PyProof.Rows L2
/-- a value as it is read, and how it is shown -/
def ShK (P : Program) (w : World) (h : Heap) (u : Value) (d : D) : Prop := ∃ as bs, Reads h u d as ∧ ReadAtMost h d.depth bs ∧ ReprK P w bs h d.depth u d.shown
def ShA (P : Program) (w : World) (h : Heap) (us : List Value) (ds : List D) : Prop := ∃ as bs, ReadsAll h us ds as ∧ ReadAtMost h (PyData.depthAll ds) bs ∧ ReprAllK P w bs h (PyData.depthAll ds) us (PyData.shownAll ds)
theorem ShA.nil {P : Program} {w : World} {h : Heap} : ShA P w h [] [] := ⟨[], [], .nil, fun _ z => (nomatch z), by simp only [PyData.shownAll]; exact .nil⟩
theorem ShA.cons {P : Program} {w : World} {h : Heap} {u : Value} {us : List Value} {d : D} {ds : List D} (a : ShK P w h u d) (b : ShA P w h us ds) : ShA P w h (u :: us) (d :: ds) := by
  obtain ⟨as1, bs1, r1, m1, k1⟩ := a
  obtain ⟨as2, bs2, r2, m2, k2⟩ := b
  have e : PyData.depthAll (d :: ds) = max d.depth (PyData.depthAll ds) := by simp only [PyData.depthAll]
  refine ⟨as1 ++ as2, bs1 ++ bs2, .cons r1 r2, ?_, ?_⟩
  · rw [e]
    exact (m1.mono (Nat.le_max_left _ _)).append (m2.mono (Nat.le_max_right _ _))
  · rw [e]
    simp only [PyData.shownAll]
    exact .cons ((k1.more fun b hb => List.mem_append_left bs2 hb).level_le (Nat.le_max_left _ _)) (k2.more_le (fun b hb => List.mem_append_right bs1 hb) (Nat.le_max_right _ _))
/-- the texts of the parts are not longer than the whole -/
def fitsA (ds : List D) : Prop := ∀ t ∈ PyData.shownAll ds, t.length ≤ sizeLine
theorem fitsA.head {d : D} {ds : List D} (h : fitsA (d :: ds)) : d.shown.length ≤ sizeLine := h _ (by simp only [PyData.shownAll]; exact List.mem_cons_self)
end QL

/-! QU: data of any kind whose text is short. -/
namespace QL
open PySem PySem.Spec PyProof.Rows L2
mutual
def okD : D → Bool
  | .none => true
  | .bool _ => true
  | .int i => decide (i.natAbs < 2 ^ 200)
  | .str x => x.cps.toList.all fun c => decide (c < 16 ^ 8)
  | .list xs => okA xs
  | .tuple xs => okA xs
  | .dict kvs => okK kvs
def okA : List D → Bool
  | [] => true
  | x :: xs => okD x && okA xs
def okK : List (D × D) → Bool
  | [] => true
  | (a, b) :: r => okD a && okD b && okK r
end
/-- short data: depth, weight -/
structure Short (n w : Nat) (d : D) : Prop where
  ok : okD d = true
  dp : d.depth ≤ n
  wt : d.weight ≤ w
theorem Short.le {n w n' w' : Nat} {d : D} (h : Short n w d) (hn : n ≤ n') (hw : w ≤ w') : Short n' w' d := ⟨h.ok, Nat.le_trans h.dp hn, Nat.le_trans h.wt hw⟩
end QL

/-! QTE: range(a, b, -1). -/
namespace QL
open PySem PySem.Spec PyProof.Rows L2
end QL

/-! QTS: texts (str). -/
namespace QL
open PySem PySem.Spec PyProof.Rows L2
abbrev stl (x : Str) : List Nat := x.cps.toList
end QL

/-! QTV: sources: words of small letters, one blank between. -/
namespace QL
open PySem PySem.Spec PyProof.Rows L2
abbrev LETS : Str := "abcdefghijklmnopqrstuvwxyz"
def lets : List Nat := stl LETS
theorem lets_mem {c : Nat} : c ∈ lets ↔ 97 ≤ c ∧ c ≤ 122 := by
  have e : lets = (List.range 26).map (· + 97) := by decide +kernel
  rw [e, List.mem_map]
  constructor
  · rintro ⟨k, hk, rfl⟩
    have := List.mem_range.mp hk
    omega
  · intro h
    exact ⟨c - 97, List.mem_range.mpr (by omega), by omega⟩
/-- a word goes on, or is begun -/
def begun (l : List Nat) (i : Nat) : Bool := decide (0 < i) && !decide (l[i - 1]? = some 32)
def okC (l : List Nat) (i c : Nat) : Bool := decide (c ∈ lets) || (decide (c = 32) && begun l i)
def fb (l : List Nat) : Nat → Nat → Option Nat
  | 0, _ => none
  | n + 1, i => match l[i]? with
    | none => none
    | some c => if okC l i c = true then fb l n (i + 1) else some i
/-- the sign with which no source goes on -/
def wr (l : List Nat) : Option Nat := match fb l l.length 0 with
  | some i => some i
  | none => if l.getLast? = some 32 then some l.length else none
/-! ### texts to be shown -/
def okS (s : Str) : Bool := okD (.str s)
theorem okS_iff {s : Str} : okS s = true ↔ ∀ c ∈ stl s, c < 16 ^ 8 := by
  unfold okS
  simp only [okD]
  rw [List.all_eq_true]
  exact ⟨fun h c hc => of_decide_eq_true (h c hc), fun h c hc => decide_eq_true (h c hc)⟩
theorem sIx_nat (n q d : Nat) (h : q ≤ n) : HT.sIx n d (some (q : Int)) = q := by
  unfold HT.sIx
  simp
  rw [if_neg (by omega)]
  omega
/-- words of small letters, one blank between: the source -/
structure Sent (ws : List Str) (m : Nat) : Prop where
  len : ∀ w ∈ ws, 1 ≤ w.length ∧ w.length ≤ m
  let_ : ∀ w ∈ ws, ∀ c ∈ stl w, c ∈ lets
theorem Sent.snoc {ws : List Str} {m : Nat} (h : Sent ws m) {w : Str} (h1 : 1 ≤ w.length) (h2 : w.length ≤ m) (h3 : ∀ c ∈ stl w, c ∈ lets) : Sent (ws ++ [w]) m :=
  ⟨fun x hx => (List.mem_append.mp hx).elim (h.len x) fun z => by rw [List.mem_singleton.mp z]; exact ⟨h1, h2⟩, fun x hx => (List.mem_append.mp hx).elim (h.let_ x) fun z => by rw [List.mem_singleton.mp z]; exact h3⟩
end QL

/-! QTV2: one sign times n. -/
namespace QL
open PySem PySem.Spec PyProof.Rows L2
end QL

/-! LZu: streams by what is held. -/
namespace LM
open PySem
section
variable {wd : Int} {ws : List Int}
/-- what one more word gives hangs on what is held alone -/
theorem same_new {a b : List Int} (h : hsL wd a = hsL wd b) (u : Int) : newL wd a u = newL wd b u := by unfold newL; rw [h]
end
end LM

/-! QTV3: sources read back; lines of words as strings. -/
namespace QL
open PySem PySem.Spec PyProof.Rows L2 LM
theorem Sent.free {ws : List Str} {m : Nat} (h : Sent ws m) : ∀ w ∈ ws, 32 ∉ stl w := fun w hw hc => by
  have := lets_mem.mp (h.let_ w hw 32 hc)
  omega
theorem Sent.sub {ws vs : List Str} {m : Nat} (h : Sent ws m) (hs : ∀ v ∈ vs, v ∈ ws) : Sent vs m := ⟨fun x hx => h.len x (hs x hx), fun x hx => h.let_ x (hs x hx)⟩
theorem Sent.app {ws vs : List Str} {m : Nat} (h : Sent ws m) (g : Sent vs m) : Sent (ws ++ vs) m := ⟨fun x hx => (List.mem_append.mp hx).elim (h.len x) (g.len x), fun x hx => (List.mem_append.mp hx).elim (h.let_ x) (g.let_ x)⟩
theorem Sent.le {ws : List Str} {m m' : Nat} (h : Sent ws m) (l : m ≤ m') : Sent ws m' := ⟨fun x hx => ⟨(h.len x hx).1, Nat.le_trans (h.len x hx).2 l⟩, h.let_⟩
end QL
namespace QL
open PySem PySem.Spec PyProof.Rows L2 LM
def Asc (s : Str) : Prop := ∀ c ∈ stl s, c < 200
theorem Asc.ok {s : Str} (h : Asc s) : okS s = true := okS_iff.mpr fun c hc => by
  have := h c hc
  have b : (200 : Nat) < 16 ^ 8 := by decide
  omega
theorem Asc.strOk {s : Str} (h : Asc s) : PyData.strOk s = true := by
  unfold PyData.strOk
  rw [Array.all_eq_true_iff_forall_mem]
  exact fun c hc => decide_eq_true (by have := h c (Array.mem_toList_iff.mpr hc); omega)
end QL

namespace K92
open PySem PySem.Spec PyProof.Rows L2 QL
open LM
abbrev Asc7 (d : D) : Prop := ∀ k : Nat, 200 ≤ k → k ∉ d.shown.cps.toList
theorem asc_i (i : Int) : Asc7 (.int i) := fun k h => shown_int_free' ⟨by omega, by omega⟩ i
theorem asc_l {xs : List D} (h : ∀ x ∈ xs, Asc7 x) : Asc7 (.list xs) := fun k hk => by
  rw [PyData.shown_list, mem_cps_append, mem_cps_append, signs_lbrack, signs_rbrack, mem_join]
  rintro ((hm | (⟨t, ht, hc⟩ | ⟨_, hm⟩)) | hm)
  · have := List.mem_singleton.mp hm; omega
  · exact shownAll_free (fun x hx => h x hx k hk) t ht hc
  · rw [signs_sep] at hm; simp only [List.mem_cons, List.not_mem_nil, or_false] at hm; omega
  · have := List.mem_singleton.mp hm; omega
theorem asc_t {xs : List D} (h : ∀ x ∈ xs, Asc7 x) : Asc7 (.tuple xs) := fun k hk => by
  rw [PyData.shown_tuple, mem_cps_append, mem_cps_append, signs_lparen, mem_join, signs_tuple_end]
  rintro ((hm | (⟨t, ht, hc⟩ | ⟨_, hm⟩)) | hm)
  · have := List.mem_singleton.mp hm; omega
  · exact shownAll_free (fun x hx => h x hx k hk) t ht hc
  · rw [signs_sep] at hm; simp only [List.mem_cons, List.not_mem_nil, or_false] at hm; omega
  · split at hm <;> (simp only [List.mem_cons, List.not_mem_nil, or_false] at hm; omega)
theorem asc_map {α : Type} {f : α → D} {xs : List α} (h : ∀ x, Asc7 (f x)) : ∀ d ∈ xs.map f, Asc7 d := fun d hd => by
  obtain ⟨x, _, rfl⟩ := List.mem_map.mp hd
  exact h x
theorem asc_cons {d : D} {ds : List D} (h : Asc7 d) (g : ∀ x ∈ ds, Asc7 x) : ∀ x ∈ d :: ds, Asc7 x := fun x hx => (List.mem_cons.mp hx).elim (fun e => e ▸ h) (g x)
theorem asc_nil : ∀ x ∈ ([] : List D), Asc7 x := fun _ z => nomatch z
theorem ans_ok (wd : Int) (ws : List Int) : PyData.strOk (ansS wd ws) = true := by
  have f : ∀ q, Asc7 (fmD wd ws q) := fun q => asc_t (asc_map fun p => asc_t (asc_cons (asc_i _) (asc_cons (asc_i _) asc_nil)))
  have a : Asc7 (ansD wd ws) := asc_l (asc_cons (asc_i _) (asc_cons (asc_t (asc_map asc_i)) (asc_cons (asc_t (asc_map fun n => asc_i _)) (asc_cons (asc_i _) (asc_cons (asc_l (asc_cons (f _) (asc_cons (f _) (asc_cons (f _) asc_nil)))) asc_nil)))))
  exact Asc.strOk fun c hc => Nat.lt_of_not_le fun h => a c h hc
theorem ans_sh (hs : Hst) : SeqAt.shaped (.list (hs.map fun p => PyData.str (ansS p.1 p.2))) = true := by
  have a : ∀ hs : Hst, PyData.canLayAll0 (hs.map fun p => PyData.str (ansS p.1 p.2)) = true ∧ PyData.depthAll (hs.map fun p => PyData.str (ansS p.1 p.2)) = 0 := fun hs => by
    induction hs with
    | nil => exact ⟨rfl, rfl⟩
    | cons p hs ih =>
      exact ⟨by simp only [List.map_cons, PyData.canLayAll0, PyData.canLay0, ans_ok, ih.1, Bool.and_self], by simp only [List.map_cons, PyData.depthAll, PyData.depth, ih.2]; rfl⟩
  obtain ⟨a1, a2⟩ := a hs
  unfold SeqAt.shaped
  simp only [PyData.canLay0, a1, PyData.depth, a2]
  rfl
theorem ans_nil (hs : Hst) : PyData.eqv (.list (hs.map fun p => PyData.str (ansS p.1 p.2))) (.list []) = decide (hs = []) := by
  cases hs with
  | nil => rfl
  | cons x xs => simp [PyData.eqv, PyData.eqvAll]
noncomputable abbrev ansE (p : Int × List Int) : D := .str (ansS p.1 p.2)
theorem two_fine {wd : Int} {ws : List Int} (X : Tx wd ws) (hl : ws.length ≤ 22) : Fine 60 3 (.list [.tuple (nDs (bestLay wd ws)), .int (C wd ws (LS wd ws))]) :=
  (FineA.lst (FineA.cons ((fine_lay X.w hl).mono (Nat.le_refl _) (by decide : 1 ≤ 2)) (FineA.cons (fine_cost X.w) fineA_nil))).mono (by decide) (Nat.le_refl _)
theorem app_pop (xs : List D) (x : D) : (xs ++ [x])[(xs ++ [x]).length - 1]? = some x ∧ (xs ++ [x]).dropLast = xs := ⟨by simp, List.dropLast_concat⟩
def spLaw (K : PySem.W.Frag) : Spc := fun ts QT _ => ∃ (a : Addr) (ns : List Int), ts = [scT K a ns] ∧ ns.length ≤ 63 ∧ QT (.va (.bool true)) [some (scT K a ns)]
section
variable {P : Program} {w : World} {K : PySem.W.Frag} {mg : Str → Option Value} {base : Heap} {Tq : List (Addr × Str)}
abbrev N_law : List Str := ["_law_script", "_law_k", "_law_well_here", "_law_wide", "_law_past", "_law_made", "_law_turn", "_law_before", "_law_due", "_law_row", "_law_new", "_law_other"]
theorem sc_law : FnScope N_law ["_law_script"] (defScope (topS 52)) := ⟨rfl, rfl, rfl, by decide +kernel, rfl, by decide +kernel, by decide +kernel⟩
theorem g_law {f : Addr} {fd : FuncData} {k : Nat} {aNothingToUndo : Addr} {aParagraph : Addr} (Fn : Fun K "law" "law" (topS 52) f fd) (TX_Paragraph : Txt_Paragraph K aParagraph) (G__law_answers : Df P w K mg base Tq k "_law_answers" ["_law_made"] (spAns aParagraph)) (G__law_changed : Df P w K mg base Tq k "_law_changed" ["_law_well_here", "_law_made"] (spChg aParagraph)) (G__law_draw : Df P w K mg base Tq k "_law_draw" ["_law_well_here", "_law_many"] spTake) (G__law_text : Df P w K mg base Tq k "_law_text" ["_law_well_here", "_law_wide", "_law_most"] spTextD) (G__law_together : Df P w K mg base Tq k "_law_together" ["_law_wide", "_law_row"] (spTog aParagraph)) (G__law_well : Df P w K mg base Tq k "_law_well" ["_law_script", "_law_k"] (spPot K)) (G_best_cost : Df P w K mg base Tq k "best_cost" ["width", "text"] spBestCost) (G_best_layout : Df P w K mg base Tq k "best_layout" ["width", "text"] spBest) (G_settled_lines : Df P w K mg base Tq k "settled_lines" ["width", "text"] spSetL) (M___eq__ : Mf P w K mg base Tq k aParagraph "__eq__" ["self", "other"] (spPEq aParagraph)) (M_cost : Mf P w K mg base Tq k aParagraph "cost" ["self"] (spPCost aParagraph)) (M_edits : Mf P w K mg base Tq k aParagraph "edits" ["self"] (spPEdits aParagraph)) (M_firm : Mf P w K mg base Tq k aParagraph "firm" ["self", "at"] (spPFirmG aParagraph)) (M_layout : Mf P w K mg base Tq k aParagraph "layout" ["self"] (spPLayout aParagraph)) (M_undo : Mf P w K mg base Tq k aParagraph "undo" ["self"] (spPUndo aParagraph aNothingToUndo)) (C_Paragraph : Ck P w K mg base Tq k "Paragraph" aParagraph ["self", "width", "text"] (spPInit aParagraph)) (Q_text : Pf P w K mg base Tq k aParagraph "text" ["self"] (spPText aParagraph)) (Q_width : Pf P w K mg base Tq k aParagraph "width" ["self"] (spPWidth aParagraph)) (m_len : mg "len" = none) (m_max : mg "max" = none) (m_min : mg "min" = none) (m_range : mg "range" = none) : FnG P w K mg base Tq (k + 2) f fd ["_law_script"] (spLaw K) := by
  have G__law_answers := G__law_answers.mono (Nat.le_succ k)
  have G__law_changed := G__law_changed.mono (Nat.le_succ k)
  have G__law_draw := G__law_draw.mono (Nat.le_succ k)
  have G__law_text := G__law_text.mono (Nat.le_succ k)
  have G__law_together := G__law_together.mono (Nat.le_succ k)
  have G__law_well := G__law_well.mono (Nat.le_succ k)
  have G_best_cost := G_best_cost.mono (Nat.le_succ k)
  have G_best_layout := G_best_layout.mono (Nat.le_succ k)
  have G_settled_lines := G_settled_lines.mono (Nat.le_succ k)
  have M_cost := M_cost.mono (Nat.le_succ k)
  have M_edits := M_edits.mono (Nat.le_succ k)
  have M_firm := M_firm.mono (Nat.le_succ k)
  have M_layout := M_layout.mono (Nat.le_succ k)
  have M_undo := M_undo.mono (Nat.le_succ k)
  refine fn_g Fn sc_law (fun ts Q E h => ?_) fun cdv A outer s H E Z ts QT ET hr hgd hp tk h => ?_
  · obtain ⟨a, ns, rfl, hl, q⟩ := h; rfl
  · obtain ⟨a, ns, rfl, hl, q⟩ := h
    refine wss_cons (ws_for hp rfl (pg_name (i := 1) sc_law.nd rfl (.inl rfl)) (gok_name 1) (wi_range1 m_range ⟨rfl, w_callB (dc_max2 rfl) m_max rfl ⟨rfl, w_int ⟨rfl, w_callB (dc_min2 rfl) m_min rfl ⟨rfl, w_int ⟨rfl, w_scLen 0 m_len rfl ⟨rfl, rfl, ⟨rfl, rfl, ⟨rfl, ⟨by omega, by omega⟩, ?_⟩⟩⟩⟩⟩⟩⟩⟩))
    refine ⟨fun j e => ∃ o1 o2 o3 o4 o5 o6 o7 o8 o9 o10 o11, e = [some (scT K a ns), o1, o2, o3, o4, o5, o6, o7, o8, o9, o10, o11], ⟨none, none, none, none, none, none, none, none, none, none, none, rfl⟩, ?_, ?_⟩
    · rintro j d e hd ⟨o1, o2, o3, o4, o5, o6, o7, o8, o9, o10, o11, rfl⟩
      obtain ⟨rfl, hj⟩ := rangeD_at hd
      refine ⟨Nat.lt_of_sub_eq_succ rfl, ?_⟩
      -- line 319
      refine wss_cons (ws_set 2 (w_fn G__law_well hr hgd ⟨rfl, (w_var 0 ⟨rfl, (w_var 1 ⟨rfl, ⟨_, _, _, rfl, ⟨by omega, by omega⟩, (by first | assumption | omega | decide), fun p x0 y0 hp_0 => ⟨rfl, rfl, ⟨Nat.lt_of_sub_eq_succ rfl, ?_⟩⟩⟩⟩)⟩)⟩) sc_law.nd)
      -- line 320
      refine wss_cons (ws_par 3 4 rfl sc_law.nd (w_bin dop_add (w_int (w_fn G__law_draw hr hgd ⟨rfl, (w_var 2 ⟨rfl, (w_int ⟨rfl, ⟨_, _, _, _, _, _, rfl, (by assumption), (by omega), ⟨by omega, by omega⟩, fun a1 b1 c1 d_1 hp_1 h0_1 h1_1 => ⟨rfl, rfl, ⟨rfl, rfl, ⟨_, rfl, (w_lst ⟨(by first | decide | (simp only [List.length_append, List.length_map, List.length_cons, List.length_nil, List.length_singleton, List.length_replicate, List.length_range, List.length_take, List.length_drop, List.length_dropLast, List.length_reverse, Bool.false_eq_true, eq_self, reduceIte, sizeLine_eq]; omega)), fun p1 => ⟨_, rfl, Nat.lt_of_sub_eq_succ rfl, Nat.lt_of_sub_eq_succ rfl, ?_⟩⟩)⟩⟩⟩⟩⟩)⟩)⟩))))
      obtain ⟨wd0, hwd⟩ : ∃ wd, wd = 1 + d_1 := ⟨_, rfl⟩
      have w12 : 1 ≤ wd0 ∧ wd0 ≤ 10 := by omega
      rw [← hwd]
      -- line 321
      refine wss_cons (ws_set 5 (w_make C_Paragraph hr hgd ⟨rfl, (w_var 3 ⟨rfl, (w_fn G__law_text hr hgd ⟨rfl, (w_var 2 ⟨rfl, (w_var 3 ⟨rfl, (w_int ⟨rfl, ⟨_, _, _, _, _, _, _, rfl, (by assumption), (by omega), ⟨by omega, by omega⟩, ⟨by omega, by omega⟩, fun a2 b2 c2 ws0 hp_2 hl_2 hr_2 => ⟨rfl, rfl, fun o => ⟨_, wd0, ws0, rfl, (⟨⟨by omega, by omega, by omega, hr_2⟩, by omega⟩), fun pa => ⟨rfl, rfl, ⟨Nat.lt_of_sub_eq_succ rfl, ?_⟩⟩⟩⟩⟩⟩)⟩)⟩)⟩)⟩)⟩) sc_law.nd)
      have X0 : Tx wd0 ws0 := ⟨⟨by omega, by omega, by omega, hr_2⟩, by omega⟩
      have B0 : Bu 10 0 wd0 ws0 [] := ⟨X0, by omega, by omega, Nat.le_refl _, fun _ z => nomatch z⟩
      -- line 322
      refine wss_cons (ws_for hp rfl (pg_name (i := 6) sc_law.nd rfl (by first | exact Or.inl rfl | exact Or.inr rfl)) (gok_name 6) (wi_range1 m_range ⟨rfl, (w_int ⟨rfl, ⟨by omega, by omega⟩, ?_⟩)⟩))
      refine ⟨fun i e => ∃ x y z wd ws hs o6 o7 o8 o9 o10 o11, PotOk (50 + 50 * i) x y z ∧ Bu (10 + 8 * i) i wd ws hs ∧ e = [some (scT K a ns), some (.va (.int (0 + (j : Int)))), some (.lst p (potD x y z)), some (.va (.int wd0)), some (.lst p1 ((hs).map ansE)), some (.ins o aParagraph (parF wd ws pa hs)), o6, o7, o8, o9, o10, o11], ⟨a2, b2, c2, wd0, ws0, [], o6, o7, o8, o9, o10, o11, hp_2.le (by omega), B0.le (by omega) (by omega), rfl⟩, ?_, ?_⟩
      · rintro i dd e hd ⟨x, y, z, wd, ws, hs, o6, o7, o8, o9, o10, o11, hq, B, rfl⟩
        obtain ⟨rfl, hi⟩ := rangeD_at hd
        have hi15 : i < 15 := hi
        refine ⟨Nat.lt_of_sub_eq_succ rfl, ?_⟩
        have X := B.x
        have hwl := B.l
        have hhn := B.n
        -- line 323
        refine wss_cons (ws_set 7 (w_fn G__law_answers hr hgd ⟨rfl, (w_var 5 ⟨rfl, ⟨o, wd, ws, pa, hs, rfl, X, hwl, ⟨rfl, rfl, ⟨Nat.lt_of_sub_eq_succ rfl, ?_⟩⟩⟩⟩)⟩) sc_law.nd)
        refine wss_cons (WS.imp (P := fun r => ∃ e, r = .nx e ∧ ∃ x y z wd2 ws2 hs2 o7, PotOk (50 + 50 * i + 40) x y z ∧ Bu (10 + 8 * (i + 1)) (i + 1) wd2 ws2 hs2 ∧ e = [some (scT K a ns), some (.va (.int (0 + (j : Int)))), some (.lst p (potD x y z)), some (.va (.int wd0)), some (.lst p1 ((hs2).map ansE)), some (.ins o aParagraph (parF wd2 ws2 pa hs2)), some (.va (.int (0 + (i : Int)))), o7, o8, o9, o10, o11]) ?ifp ?ifk)
        case ifp =>
          refine ws_if (wt_val (w_fn G__law_changed hr hgd ⟨rfl, (w_var 2 ⟨rfl, (w_var 5 ⟨rfl, ⟨rfl, ⟨_, _, _, _, _, o, wd, ws, pa, hs, 10 + 8 * (i : Int), i, rfl, hq, (by omega), B, (by omega), (by omega), fun a2 b2 c2 hp_2 => ⟨fun h0 p9 e9 => ⟨rfl, rfl, ⟨rfl, rfl, ⟨_, rfl, ⟨fun h => ?_, fun h => ?_⟩⟩⟩⟩, fun wd2 ws2 X2 hw2 hl2 => ⟨rfl, rfl, ⟨rfl, rfl, ⟨_, rfl, ⟨fun h => ?_, fun h => ?_⟩⟩⟩⟩⟩⟩⟩⟩)⟩)⟩))
          · skip
            subst e9
            have BP := B.pop
            have hap := app_pop (h0.map ansE) (ansE p9)
            have ePm : (h0 ++ [p9]).map ansE = h0.map ansE ++ [ansE p9] := by rw [List.map_append]; rfl
            rw [← ePm] at hap
            -- line 325
            refine wss_one (ws_expr (w_pop (w_var 4 ⟨_, _, _, _, _, rfl, rfl, hap.1, ?_⟩)))
            exact ⟨_, rfl, a2, b2, c2, p9.1, p9.2, h0, some (.va (.str (ansS wd ws))), hp_2, BP.le (by omega) (by omega), (show ([some (scT K a ns), some (.va (.int (0 + (j : Int)))), some (.lst p (potD a2 b2 c2)), some (.va (.int wd0)), some (.lst p1 (((h0 ++ [p9]).map ansE).dropLast)), some (.ins o aParagraph (parF p9.1 p9.2 pa h0)), some (.va (.int (0 + (i : Int)))), some (.va (.str (ansS wd ws))), o8, o9, o10, o11] : QL.Env) = [some (scT K a ns), some (.va (.int (0 + (j : Int)))), some (.lst p (potD a2 b2 c2)), some (.va (.int wd0)), some (.lst p1 (h0.map ansE)), some (.ins o aParagraph (parF p9.1 p9.2 pa h0)), some (.va (.int (0 + (i : Int)))), some (.va (.str (ansS wd ws))), o8, o9, o10, o11] from by rw [hap.2])⟩
          · exact absurd h (by decide)
          · exact absurd h (by decide)
          · skip
            -- line 327
            refine wss_one (ws_expr (w_append (w_var 4 ⟨_, _, _, _, rfl, rfl, (w_var 7 ⟨_, _, rfl, rfl, (by simp only [List.length_append, List.length_map, List.length_cons, List.length_nil, List.length_singleton, List.length_replicate, List.length_range, List.length_take, List.length_drop, List.length_dropLast, List.length_reverse, Bool.false_eq_true, eq_self, reduceIte, sizeLine_eq]; omega), ?_⟩)⟩)))
            refine ⟨_, rfl, a2, b2, c2, wd2, ws2, hs ++ [(wd, ws)], some (.va (.str (ansS wd ws))), hp_2, by rw [show (10 : Int) + 8 * ((i : Int) + 1) = 10 + 8 * (i : Int) + 8 by omega]; exact B.push X2 hw2 hl2, ?_⟩
            rw [List.map_append]; rfl
        case ifk =>
          rintro r ⟨e, rfl, x, y, z, wd, ws, hs, o7, hq, B, rfl⟩
          have X := B.x
          have hwl := B.l
          have hhn := B.n
          have w1 := X.w.w1
          have hnl : (iDs ws).length = ws.length := List.length_map _
          show WSs _ _ _ [some (scT K a ns), some (.va (.int (0 + (j : Int)))), some (.lst p (potD x y z)), some (.va (.int wd0)), some (.lst p1 ((hs).map ansE)), some (.ins o aParagraph (parF wd ws pa hs)), some (.va (.int (0 + (i : Int)))), o7, o8, o9, o10, o11] _
          -- line 328
          refine wss_cons (ws_par 8 9 rfl sc_law.nd (w_fn G__law_answers hr hgd ⟨rfl, (w_var 5 ⟨rfl, ⟨o, wd, ws, pa, hs, rfl, X, hwl, ⟨rfl, rfl, ⟨_, rfl, (w_prop Q_text hr hgd (w_var 5 ⟨⟨rfl, rfl, rfl⟩, ⟨rfl, ⟨o, wd, ws, pa, hs, rfl, ⟨rfl, rfl, ⟨_, rfl, Nat.lt_of_sub_eq_succ rfl, Nat.lt_of_sub_eq_succ rfl, ?_⟩⟩⟩⟩⟩))⟩⟩⟩⟩)⟩))
          -- line 329
          refine wss_cons (ws_par 10 11 rfl sc_law.nd (w_make C_Paragraph hr hgd ⟨rfl, (w_prop Q_width hr hgd (w_var 5 ⟨⟨rfl, rfl, rfl⟩, ⟨rfl, ⟨o, wd, ws, pa, hs, rfl, ⟨rfl, rfl, ⟨rfl, (w_var 9 fun nw => ⟨_, wd, ws, rfl, X, fun pn => ⟨rfl, rfl, ⟨_, rfl, (w_fn G__law_together hr hgd ⟨rfl, (w_prop Q_width hr hgd (w_var 5 ⟨⟨rfl, rfl, rfl⟩, ⟨rfl, ⟨o, wd, ws, pa, hs, rfl, ⟨rfl, rfl, ⟨rfl, (w_var 9 ⟨wd, ws, rfl, X, (by omega), fun ot po hso hho => ⟨_, rfl, Nat.lt_of_sub_eq_succ rfl, Nat.lt_of_sub_eq_succ rfl, ?_⟩⟩)⟩⟩⟩⟩⟩))⟩)⟩⟩⟩)⟩⟩⟩⟩⟩))⟩))
          -- line 330
          refine wss_cons (ws_if (WW.t (ww_or (wt_cmp (dop_ne (room64 hr)) (w_fn G__law_answers hr hgd ⟨rfl, (w_var 10 ⟨rfl, ⟨nw, wd, ws, pn, [], rfl, X, hwl, ⟨rfl, rfl, (w_var 8 ⟨rfl, rfl, _, rfl, ⟨fun h => (ww_or (wt_cmp (dop_ne (room64 hr)) (w_fn G__law_answers hr hgd ⟨rfl, (w_var 11 ⟨rfl, ⟨ot, wd, ws, po, hso, rfl, X, hwl, ⟨rfl, rfl, (w_var 8 ⟨rfl, rfl, _, rfl, ⟨fun h => (ww_or (wt_eqO .ne TX_Paragraph.eqc M___eq__ hr hgd (w_var 10 ⟨⟨_, rfl⟩, (w_var 5 ⟨⟨_, rfl⟩, ⟨_, rfl⟩, ⟨rfl, ⟨rfl, ⟨_, wd, ws, pn, [], _, rfl, X, .inl ⟨_, wd, ws, pa, hs, rfl, X, ⟨rfl, rfl, ⟨rfl, rfl, ⟨_, rfl, ⟨fun h => (ww_or1 (wt_eqO .ne TX_Paragraph.eqc M___eq__ hr hgd (w_var 11 ⟨⟨_, rfl⟩, (w_var 5 ⟨⟨_, rfl⟩, ⟨_, rfl⟩, ⟨rfl, ⟨rfl, ⟨_, wd, ws, po, hso, _, rfl, X, .inl ⟨_, wd, ws, pa, hs, rfl, X, ⟨rfl, rfl, ⟨rfl, rfl, ⟨_, rfl, ⟨fun h => ?_, fun h => ?_⟩⟩⟩⟩⟩⟩⟩⟩⟩)⟩))), fun h => ?s1⟩⟩⟩⟩⟩⟩⟩⟩⟩)⟩))), fun h => ?s2⟩⟩)⟩⟩⟩)⟩))), fun h => ?s3⟩⟩)⟩⟩⟩)⟩)))))
          case s1 => exact absurd (show (!decide ((wd, ws) = (wd, ws))) = true from h) (by simp)
          case s2 => exact ne_self h
          case s3 => exact ne_self h
          · exact absurd (show (!decide ((wd, ws) = (wd, ws))) = true from h) (by simp)
          refine wss_nil ?_
          -- line 332
          refine wss_cons (ws_if (wt_cmp (dop_ne (room64 hr)) (w_lst ⟨rfl, (w_fn G_best_layout hr hgd ⟨rfl, (w_prop Q_width hr hgd (w_var 5 ⟨⟨rfl, rfl, rfl⟩, ⟨rfl, ⟨o, wd, ws, pa, hs, rfl, ⟨rfl, rfl, ⟨rfl, (w_var 9 ⟨wd, ws, rfl, X.w, ⟨rfl, (w_fn G_best_cost hr hgd ⟨rfl, (w_prop Q_width hr hgd (w_var 5 ⟨⟨rfl, rfl, rfl⟩, ⟨rfl, ⟨o, wd, ws, pa, hs, rfl, ⟨rfl, rfl, ⟨rfl, (w_var 9 ⟨wd, ws, rfl, X.w, ⟨(Nat.le_of_lt (small2000 (n := 2) (by decide))), fun p2 => (w_lst ⟨rfl, (w_meth0 M_layout hr hgd (w_var 5 ⟨⟨rfl, rfl, rfl⟩, ⟨rfl, ⟨o, wd, ws, pa, hs, rfl, X.w, ⟨rfl, rfl, ⟨rfl, (w_meth0 M_cost hr hgd (w_var 5 ⟨⟨rfl, rfl, rfl⟩, ⟨rfl, ⟨o, wd, ws, pa, hs, rfl, X.w, ⟨rfl, rfl, ⟨(Nat.le_of_lt (small2000 (n := 2) (by decide))), fun p3 => ⟨rfl, rfl, ((two_fine X hwl).shaped (by decide)), ((two_fine X hwl).shaped (by decide)), _, rfl, ⟨fun h => ?_, fun h => ?_⟩⟩⟩⟩⟩⟩⟩))⟩⟩⟩⟩⟩))⟩)⟩⟩)⟩⟩⟩⟩⟩))⟩)⟩⟩)⟩⟩⟩⟩⟩))⟩)⟩)))
          · exact (two_fine X hwl).neF h
          refine wss_nil ?_
          -- line 334
          refine wss_one (ws_if (WW.t (ww_or (wt_cmp (dop_ne (room64 hr)) (w_fn G_settled_lines hr hgd ⟨rfl, (w_prop Q_width hr hgd (w_var 5 ⟨⟨rfl, rfl, rfl⟩, ⟨rfl, ⟨o, wd, ws, pa, hs, rfl, ⟨rfl, rfl, ⟨rfl, (w_var 9 ⟨wd, ws, rfl, X.w, (w_meth M_firm hr hgd (w_var 5 ⟨⟨rfl, rfl, rfl⟩, ⟨rfl, (w_callB dc_len m_len rfl ⟨rfl, (w_var 9 ⟨rfl, ⟨rfl, ⟨o, wd, ws, pa, hs, ws.length, (congrArg (fun (z : Nat) => [T.ins o aParagraph (parF wd ws pa hs), T.va (PyData.int (z : Int))]) hnl), X.w, (Nat.le_refl _), ⟨rfl, rfl, ⟨rfl, rfl, ((fine_firm X.w hwl).shaped (by decide)), (by rw [List.take_length]; exact (fine_firm X.w hwl).shaped (by decide)), _, rfl, ⟨fun h => (ww_or1 (wt_cmp (dop_ne (room64 hr)) (w_meth0 M_edits hr hgd (w_var 5 ⟨⟨rfl, rfl, rfl⟩, ⟨rfl, ⟨o, wd, ws, pa, hs, rfl, ⟨rfl, rfl, (w_callB dc_len m_len rfl ⟨rfl, (w_var 4 ⟨rfl, ⟨rfl, rfl, _, rfl, ⟨fun h => ?_, fun h => ?_⟩⟩⟩)⟩)⟩⟩⟩⟩)))), fun h => ?s9⟩⟩⟩⟩⟩⟩)⟩)⟩⟩))⟩)⟩⟩⟩⟩⟩))⟩)))))
          case s9 => exact (fine_firm X.w hwl).neF (show (!PyData.eqv (.tuple ((prsN (stE wd ws)).map enP)) (.tuple ((prsN (stE wd ws)).map enP))) = true from (by have h9 := h; rw [List.take_length] at h9; exact h9))
          · exact absurd (show (!decide (((hs.length : Nat) : Int) = (((hs.map ansE).length : Nat) : Int))) = true from h) (by rw [List.length_map]; simp)
          exact wss_nil ⟨_, _, _, wd, ws, hs, _, _, _, _, _, _, hq.le (by omega), B, rfl⟩
      · rintro e ⟨x, y, z, wd, ws, hs, o6, o7, o8, o9, o10, o11, hq, B, rfl⟩
        rw [rangeD_len] at B
        have B : Bu 1000 100 wd ws hs := B.le (by decide) (by decide)
        let Iv : Nat → QL.Env → Prop := fun m9 en => ∃ w8 s8 h8, h8.length = m9 ∧ Bu 1000 100 w8 s8 h8 ∧ en = [some (scT K a ns), some (.va (.int (0 + (j : Int)))), some (.lst p (potD x y z)), some (.va (.int wd0)), some (.lst p1 ((h8).map ansE)), some (.ins o aParagraph (parF w8 s8 pa h8)), o6, o7, o8, o9, o10, o11]
        -- line 336
        refine wss_one (ws_while Iv hs.length ⟨wd, ws, hs, rfl, B, rfl⟩ ?step hp)
        case step =>
          rintro m9 en ⟨w8, s8, h8, hl8, B8, rfl⟩
          have hs8 := B8.hs (by omega)
          refine (wt_cmp (dop_ne (room64 hr)) (w_var 4 (w_lst ⟨(by first | decide | (simp only [List.length_append, List.length_map, List.length_cons, List.length_nil, List.length_singleton, List.length_replicate, List.length_range, List.length_take, List.length_drop, List.length_dropLast, List.length_reverse, Bool.false_eq_true, eq_self, reduceIte, sizeLine_eq]; omega)), fun p4 => ⟨rfl, rfl, (ans_sh h8), (by rfl), _, rfl, ⟨fun h => ?_, fun h => ?_⟩⟩⟩)))
          · rcases List.eq_nil_or_concat h8 with e0 | ⟨h0, p9, e0⟩
            · exact absurd (show (!PyData.eqv (.list (h8.map ansE)) (.list [])) = true from h) (by rw [show PyData.eqv (.list (h8.map ansE)) (.list []) = decide (h8 = []) from ans_nil h8, e0]; decide)
            rw [List.concat_eq_append] at e0
            subst e0
            have BP := B8.pop
            have hap := app_pop (h0.map ansE) (ansE p9)
            have ePm : (h0 ++ [p9]).map ansE = h0.map ansE ++ [ansE p9] := by rw [List.map_append]; rfl
            rw [← ePm] at hap
            -- line 337
            refine wss_cons (ws_expr (w_methX0 M_undo hr hgd tk  (w_var 5 ⟨⟨rfl, rfl, rfl⟩, ⟨rfl, ⟨o, w8, s8, pa, (h0 ++ [p9]), rfl, hs8, .inr ⟨h0, p9, rfl, ⟨rfl, rfl, ?_⟩⟩⟩⟩⟩)))
            -- line 338
            refine wss_one (ws_if (wt_cmp (dop_ne (room64 hr)) (w_fn G__law_answers hr hgd ⟨rfl, (w_var 5 ⟨rfl, ⟨o, p9.1, p9.2, pa, h0, rfl, BP.x, BP.l, ⟨rfl, rfl, (w_pop (w_var 4 ⟨_, _, _, _, _, rfl, rfl, hap.1, ⟨rfl, rfl, _, rfl, ⟨fun h => ?_, fun h => ?_⟩⟩⟩))⟩⟩⟩)⟩)))
            · exact ne_self h
            exact wss_nil ⟨h0.length, by rw [← hl8, List.length_append]; exact Nat.lt_succ_self _, p9.1, p9.2, h0, rfl, BP, (show ([some (scT K a ns), some (.va (.int (0 + (j : Int)))), some (.lst p (potD x y z)), some (.va (.int wd0)), some (.lst p1 (((h0 ++ [p9]).map ansE).dropLast)), some (.ins o aParagraph (parF p9.1 p9.2 pa h0)), o6, o7, o8, o9, o10, o11] : QL.Env) = [some (scT K a ns), some (.va (.int (0 + (j : Int)))), some (.lst p (potD x y z)), some (.va (.int wd0)), some (.lst p1 (h0.map ansE)), some (.ins o aParagraph (parF p9.1 p9.2 pa h0)), o6, o7, o8, o9, o10, o11] from by rw [hap.2])⟩
          exact ⟨_, _, _, _, _, _, _, _, _, _, _, rfl⟩
    · rintro e ⟨o1, o2, o3, o4, o5, o6, o7, o8, o9, o10, o11, rfl⟩
      exact wss_one (ws_ret (w_bl ⟨rfl, q⟩))
end
end K92

namespace K92
open PySem PySem.Spec PyProof.Rows L2 QL

def fnL0 : List FnQ := [⟨fun K => (He.ga K "sums_of"), "sums_of", "sums_of", topS 16, false⟩,
  ⟨fun K => (He.ga K "length_by"), "length_by", "length_by", topS 17, false⟩,
  ⟨fun K => (He.ma K (He.ga K "Table") "begins"), "begins", "Table.begins", inClass (topS 19) 1, false⟩,
  ⟨fun K => (He.ma K (He.ga K "Table") "square"), "square", "Table.square", inClass (topS 19) 2, false⟩,
  ⟨fun K => (He.ma K (He.ga K "Table") "way"), "way", "Table.way", inClass (topS 19) 3, false⟩,
  ⟨fun K => (He.ma K (He.ga K "Table") "last_start"), "last_start", "Table.last_start", inClass (topS 19) 4, false⟩,
  ⟨fun K => (He.ma K (He.ga K "Table") "__init__"), "__init__", "Table.__init__", inClass (topS 19) 0, false⟩,
  ⟨fun K => (He.ga K "best_layout"), "best_layout", "best_layout", topS 21, false⟩,
  ⟨fun K => (He.ga K "best_cost"), "best_cost", "best_cost", topS 22, false⟩,
  ⟨fun K => (He.ma K (He.ga K "Goers") "room"), "room", "Goers.room", inClass (topS 24) 1, false⟩,
  ⟨fun K => (He.ma K (He.ga K "Goers") "fitting"), "fitting", "Goers.fitting", inClass (topS 24) 2, false⟩,
  ⟨fun K => (He.ma K (He.ga K "Goers") "closed_cost_at"), "closed_cost_at", "Goers.closed_cost_at", inClass (topS 24) 3, false⟩,
  ⟨fun K => (He.ma K (He.ga K "Goers") "closing_start"), "closing_start", "Goers.closing_start", inClass (topS 24) 4, false⟩,
  ⟨fun K => (He.ma K (He.ga K "Goers") "open_start"), "open_start", "Goers.open_start", inClass (topS 24) 5, false⟩,
  ⟨fun K => (He.ma K (He.ga K "Goers") "last_fitting"), "last_fitting", "Goers.last_fitting", inClass (topS 24) 6, false⟩,
  ⟨fun K => (He.ma K (He.ga K "Goers") "last_closing"), "last_closing", "Goers.last_closing", inClass (topS 24) 7, false⟩,
  ⟨fun K => (He.ma K (He.ga K "Goers") "__init__"), "__init__", "Goers.__init__", inClass (topS 24) 0, false⟩,
  ⟨fun K => (He.ma K (He.ga K "Goers") "ranges"), "ranges", "Goers.ranges", inClass (topS 24) 8, false⟩,
  ⟨fun K => (He.ga K "closing_starts"), "closing_starts", "closing_starts", topS 25, false⟩,
  ⟨fun K => (He.ga K "open_starts"), "open_starts", "open_starts", topS 26, false⟩]
def fnL1 : List FnQ := [⟨fun K => (He.ga K "starts"), "starts", "starts", topS 27, false⟩,
  ⟨fun K => (He.ga K "all_ends"), "all_ends", "all_ends", topS 32, false⟩,
  ⟨fun K => (He.ga K "counted_states"), "counted_states", "counted_states", topS 33, false⟩,
  ⟨fun K => (He.ga K "states"), "states", "states", topS 34, false⟩,
  ⟨fun K => (He.ga K "lines_of"), "lines_of", "lines_of", topS 20, false⟩,
  ⟨fun K => (He.ga K "settled_ends"), "settled_ends", "settled_ends", topS 35, false⟩,
  ⟨fun K => (He.ga K "settled_lines"), "settled_lines", "settled_lines", topS 36, false⟩,
  ⟨fun K => (He.ga K "_law_well"), "_law_well", "_law_well", topS 45, false⟩,
  ⟨fun K => (He.ga K "_law_draw"), "_law_draw", "_law_draw", topS 46, false⟩,
  ⟨fun K => (He.ga K "_law_pick"), "_law_pick", "_law_pick", topS 47, false⟩,
  ⟨fun K => (He.ga K "_law_text"), "_law_text", "_law_text", topS 48, false⟩,
  ⟨fun K => (He.ga K "is_integer"), "is_integer", "is_integer", topS 11, false⟩,
  ⟨fun K => (He.ga K "is_between"), "is_between", "is_between", topS 12, false⟩,
  ⟨fun K => (He.ga K "is_width"), "is_width", "is_width", topS 13, false⟩,
  ⟨fun K => (He.ga K "are_words"), "are_words", "are_words", topS 14, false⟩,
  ⟨fun K => (He.ga K "is_text"), "is_text", "is_text", topS 15, false⟩,
  ⟨fun K => (He.ma K (He.ga K "BadPlace") "__init__"), "__init__", "BadPlace.__init__", inClass (topS 3) 0, false⟩,
  ⟨fun K => (He.ma K (He.ga K "NothingToUndo") "__init__"), "__init__", "NothingToUndo.__init__", inClass (topS 7) 0, false⟩,
  ⟨fun K => (He.ga K "check_width"), "check_width", "check_width", topS 42, false⟩,
  ⟨fun K => (He.ma K (He.ga K "Paragraph") "__init__"), "__init__", "Paragraph.__init__", inClass (topS 43) 0, true⟩]
def fnL2 : List FnQ := [⟨fun K => (rcAt K (He.ma K (He.ga K "Paragraph") "width") "property"), "width", "Paragraph.width", inClass (topS 43) 1, false⟩,
  ⟨fun K => (rcAt K (He.ma K (He.ga K "Paragraph") "text") "property"), "text", "Paragraph.text", inClass (topS 43) 2, false⟩,
  ⟨fun K => (He.ma K (He.ga K "Paragraph") "__len__"), "__len__", "Paragraph.__len__", inClass (topS 43) 4, false⟩,
  ⟨fun K => (He.ma K (He.ga K "Paragraph") "edits"), "edits", "Paragraph.edits", inClass (topS 43) 15, false⟩,
  ⟨fun K => (He.ma K (He.ga K "Paragraph") "check_place"), "check_place", "Paragraph.check_place", inClass (topS 43) 8, false⟩,
  ⟨fun K => (He.ma K (He.ga K "Paragraph") "change"), "change", "Paragraph.change", inClass (topS 43) 9, false⟩,
  ⟨fun K => (He.ma K (He.ga K "Paragraph") "firm"), "firm", "Paragraph.firm", inClass (topS 43) 13, false⟩,
  ⟨fun K => (He.ma K (He.ga K "Paragraph") "insert"), "insert", "Paragraph.insert", inClass (topS 43) 10, false⟩,
  ⟨fun K => (He.ma K (He.ga K "Paragraph") "remove"), "remove", "Paragraph.remove", inClass (topS 43) 11, false⟩,
  ⟨fun K => (He.ma K (He.ga K "Paragraph") "widen"), "widen", "Paragraph.widen", inClass (topS 43) 12, false⟩,
  ⟨fun K => (He.ma K (He.ga K "Paragraph") "undo"), "undo", "Paragraph.undo", inClass (topS 43) 14, false⟩,
  ⟨fun K => (He.ma K (He.ga K "Paragraph") "layout"), "layout", "Paragraph.layout", inClass (topS 43) 6, false⟩,
  ⟨fun K => (He.ma K (He.ga K "Paragraph") "cost"), "cost", "Paragraph.cost", inClass (topS 43) 7, false⟩,
  ⟨fun K => (He.ma K (He.ga K "Paragraph") "__eq__"), "__eq__", "Paragraph.__eq__", inClass (topS 43) 3, false⟩,
  ⟨fun K => (He.ga K "_law_answers"), "_law_answers", "_law_answers", topS 49, false⟩,
  ⟨fun K => (He.ga K "_law_together"), "_law_together", "_law_together", topS 50, false⟩,
  ⟨fun K => (He.ga K "_law_changed"), "_law_changed", "_law_changed", topS 51, false⟩,
  ⟨fun K => (He.ga K "law"), "law", "law", topS 52, false⟩]
def fnL : List FnQ := fnL0 ++ fnL1 ++ fnL2
def xsL0 : List (PySem.W.Frag → Bool) := [fun K => decide (PySem.W.nsIn K mainGlobals "Goers" = some (some (.ref (He.ga K "Goers")))),
  fun K => PySem.W.plainGet K (He.ga K "Goers") Str.empty,
  fun K => PySem.W.hasDictIn K (He.ga K "Goers"),
  fun K => PySem.W.plainOver K (He.ga K "Goers"),
  fun K => decide (PySem.W.findIn K (.ref (He.ga K "Goers")) "__setattr__" = some (some (.builtin "object.__setattr__"))),
  fun K => PySem.W.makesIn K (He.ga K "Goers"),
  fun K => PySem.W.keepIn K (.ref (He.ga K "Goers")),
  fun K => decide (PySem.W.findIn K (.ref (He.ga K "Goers")) "most" = some none),
  fun K => decide (PySem.W.findIn K (.ref (He.ga K "Goers")) "table" = some none),
  fun K => decide (PySem.W.findIn K (.ref (He.ga K "Goers")) "reaches" = some none),
  fun K => decide (PySem.W.nsIn K mainGlobals "Paragraph" = some (some (.ref (He.ga K "Paragraph")))),
  fun K => PySem.W.plainGet K (He.ga K "Paragraph") Str.empty,
  fun K => PySem.W.hasDictIn K (He.ga K "Paragraph"),
  fun K => PySem.W.plainOver K (He.ga K "Paragraph"),
  fun K => decide (PySem.W.findIn K (.ref (He.ga K "Paragraph")) "__setattr__" = some (some (.builtin "object.__setattr__"))),
  fun K => PySem.W.makesIn K (He.ga K "Paragraph"),
  fun K => PySem.W.keepIn K (.ref (He.ga K "Paragraph")),
  fun K => decide (PySem.W.findIn K (.ref (He.ga K "Paragraph")) "present" = some none),
  fun K => decide (PySem.W.findIn K (.ref (He.ga K "Paragraph")) "past" = some none),
  fun K => decide (PySem.W.findIn K (.ref (He.ga K "Paragraph")) "__ne__" = some (some (.builtin "object.__ne__"))),
  fun K => decide (PySem.W.mroIn K (He.ga K "Paragraph") (.type "object") = some true),
  fun K => decide (PySem.W.mroIn K (He.ga K "Paragraph") (.type "tuple") = some false),
  fun K => decide (PySem.W.mroIn K (He.ga K "Paragraph") (.type "int") = some false),
  fun K => decide (PySem.W.mroIn K (He.ga K "Paragraph") (.type "str") = some false),
  fun K => decide (PySem.W.mroIn K (He.ga K "Paragraph") (.type "NoneType") = some false),
  fun K => decide (PySem.W.findIn K (.ref (He.ga K "Paragraph")) "__class__" = some (some (.builtin "object.__class__"))),
  fun K => decide (PySem.W.specialIn K (.builtin "object.__class__") "__get__" = some (some (.builtin "getset_descriptor.__get__"))),
  fun K => decide (PySem.W.takesIn K (.builtin "object.__class__") = some true),
  fun K => ((PySem.W.clsIn K (He.ga K "Paragraph")).isSome && PySem.W.typeIn K (.ref (He.ga K "Paragraph")) == some (.type "type")),
  fun K => decide (PySem.W.nsIn K mainGlobals "Table" = some (some (.ref (He.ga K "Table")))),
  fun K => PySem.W.plainGet K (He.ga K "Table") Str.empty,
  fun K => PySem.W.hasDictIn K (He.ga K "Table"),
  fun K => PySem.W.plainOver K (He.ga K "Table"),
  fun K => decide (PySem.W.findIn K (.ref (He.ga K "Table")) "__setattr__" = some (some (.builtin "object.__setattr__"))),
  fun K => PySem.W.makesIn K (He.ga K "Table"),
  fun K => PySem.W.keepIn K (.ref (He.ga K "Table")),
  fun K => decide (PySem.W.findIn K (.ref (He.ga K "Table")) "wide" = some none),
  fun K => decide (PySem.W.findIn K (.ref (He.ga K "Table")) "sums" = some none),
  fun K => decide (PySem.W.findIn K (.ref (He.ga K "Table")) "costs" = some none),
  fun K => decide (PySem.W.findIn K (.ref (He.ga K "Table")) "befores" = some none)]
def xsL1 : List (PySem.W.Frag → Bool) := [fun K => decide (PySem.W.nsIn K mainGlobals "BadPlace" = some (some (.ref (He.ga K "BadPlace")))),
  fun K => decide (PySem.W.nsIn K mainGlobals "LineError" = some (some (.ref (He.ga K "LineError")))),
  fun K => decide (PySem.W.nsIn K mainGlobals "NothingToUndo" = some (some (.ref (He.ga K "NothingToUndo")))),
  fun K => excQ K (He.ga K "BadPlace"),
  fun K => decide (PySem.W.findIn K (.ref (He.ga K "BadPlace")) "__setattr__" = some (some (.builtin "object.__setattr__"))),
  fun K => decide (PySem.W.subIn K (.ref (He.ga K "BadPlace")) (.type "BaseException") = some true),
  fun K => decide (PySem.W.typeIn K (.ref (He.ga K "BadPlace")) = some (.type "type")),
  fun K => PySem.W.keepIn K (.ref (He.ga K "BadPlace")),
  fun K => decide (PySem.W.findIn K (.ref (He.ga K "BadPlace")) "value" = some none),
  fun K => excQ K (He.ga K "NothingToUndo"),
  fun K => decide (PySem.W.findIn K (.ref (He.ga K "NothingToUndo")) "__setattr__" = some (some (.builtin "object.__setattr__"))),
  fun K => decide (PySem.W.subIn K (.ref (He.ga K "NothingToUndo")) (.type "BaseException") = some true),
  fun K => decide (PySem.W.typeIn K (.ref (He.ga K "NothingToUndo")) = some (.type "type")),
  fun K => PySem.W.keepIn K (.ref (He.ga K "NothingToUndo")),
  fun K => PySem.W.readsIn K (He.ga K "LineError") (.type "type"),
  fun K => decide (PySem.W.specialIn K (.ref (He.ga K "LineError")) "__getattribute__" = some (some (.builtin "type.__getattribute__"))),
  fun K => cvB (PySem.W.findCls K (.ref (He.ga K "LineError")) (.type "type") "__init__") "ValueError.__init__",
  fun K => decide (PySem.W.nsIn K mainGlobals "sums_of" = some (some (.ref (He.ga K "sums_of")))),
  fun K => PySem.W.keepIn K (.ref (He.ga K "sums_of")),
  fun K => decide (PySem.W.nsIn K mainGlobals "length_by" = some (some (.ref (He.ga K "length_by")))),
  fun K => PySem.W.keepIn K (.ref (He.ga K "length_by")),
  fun K => decide (PySem.W.findIn K (.ref (He.ga K "Table")) "begins" = some (some (.ref (He.ma K (He.ga K "Table") "begins")))),
  fun K => PySem.W.isFn K (.ref (He.ma K (He.ga K "Table") "begins")),
  fun K => PySem.W.keepIn K (.ref (He.ma K (He.ga K "Table") "begins")),
  fun K => decide (PySem.W.findIn K (.ref (He.ga K "Table")) "square" = some (some (.ref (He.ma K (He.ga K "Table") "square")))),
  fun K => PySem.W.isFn K (.ref (He.ma K (He.ga K "Table") "square")),
  fun K => PySem.W.keepIn K (.ref (He.ma K (He.ga K "Table") "square")),
  fun K => decide (PySem.W.findIn K (.ref (He.ga K "Table")) "way" = some (some (.ref (He.ma K (He.ga K "Table") "way")))),
  fun K => PySem.W.isFn K (.ref (He.ma K (He.ga K "Table") "way")),
  fun K => PySem.W.keepIn K (.ref (He.ma K (He.ga K "Table") "way")),
  fun K => decide (PySem.W.findIn K (.ref (He.ga K "Table")) "last_start" = some (some (.ref (He.ma K (He.ga K "Table") "last_start")))),
  fun K => PySem.W.isFn K (.ref (He.ma K (He.ga K "Table") "last_start")),
  fun K => PySem.W.keepIn K (.ref (He.ma K (He.ga K "Table") "last_start")),
  fun K => decide (PySem.W.findIn K (.ref (He.ga K "Table")) "__init__" = some (some (.ref (He.ma K (He.ga K "Table") "__init__")))),
  fun K => PySem.W.isFn K (.ref (He.ma K (He.ga K "Table") "__init__")),
  fun K => PySem.W.keepIn K (.ref (He.ma K (He.ga K "Table") "__init__")),
  fun K => decide (PySem.W.nsIn K mainGlobals "best_layout" = some (some (.ref (He.ga K "best_layout")))),
  fun K => PySem.W.keepIn K (.ref (He.ga K "best_layout")),
  fun K => decide (PySem.W.nsIn K mainGlobals "best_cost" = some (some (.ref (He.ga K "best_cost")))),
  fun K => PySem.W.keepIn K (.ref (He.ga K "best_cost"))]
def xsL2 : List (PySem.W.Frag → Bool) := [fun K => decide (PySem.W.findIn K (.ref (He.ga K "Goers")) "room" = some (some (.ref (He.ma K (He.ga K "Goers") "room")))),
  fun K => PySem.W.isFn K (.ref (He.ma K (He.ga K "Goers") "room")),
  fun K => PySem.W.keepIn K (.ref (He.ma K (He.ga K "Goers") "room")),
  fun K => decide (PySem.W.findIn K (.ref (He.ga K "Goers")) "fitting" = some (some (.ref (He.ma K (He.ga K "Goers") "fitting")))),
  fun K => PySem.W.isFn K (.ref (He.ma K (He.ga K "Goers") "fitting")),
  fun K => PySem.W.keepIn K (.ref (He.ma K (He.ga K "Goers") "fitting")),
  fun K => decide (PySem.W.findIn K (.ref (He.ga K "Goers")) "closed_cost_at" = some (some (.ref (He.ma K (He.ga K "Goers") "closed_cost_at")))),
  fun K => PySem.W.isFn K (.ref (He.ma K (He.ga K "Goers") "closed_cost_at")),
  fun K => PySem.W.keepIn K (.ref (He.ma K (He.ga K "Goers") "closed_cost_at")),
  fun K => decide (PySem.W.findIn K (.ref (He.ga K "Goers")) "closing_start" = some (some (.ref (He.ma K (He.ga K "Goers") "closing_start")))),
  fun K => PySem.W.isFn K (.ref (He.ma K (He.ga K "Goers") "closing_start")),
  fun K => PySem.W.keepIn K (.ref (He.ma K (He.ga K "Goers") "closing_start")),
  fun K => decide (PySem.W.findIn K (.ref (He.ga K "Goers")) "open_start" = some (some (.ref (He.ma K (He.ga K "Goers") "open_start")))),
  fun K => PySem.W.isFn K (.ref (He.ma K (He.ga K "Goers") "open_start")),
  fun K => PySem.W.keepIn K (.ref (He.ma K (He.ga K "Goers") "open_start")),
  fun K => decide (PySem.W.findIn K (.ref (He.ga K "Goers")) "last_fitting" = some (some (.ref (He.ma K (He.ga K "Goers") "last_fitting")))),
  fun K => PySem.W.isFn K (.ref (He.ma K (He.ga K "Goers") "last_fitting")),
  fun K => PySem.W.keepIn K (.ref (He.ma K (He.ga K "Goers") "last_fitting")),
  fun K => decide (PySem.W.findIn K (.ref (He.ga K "Goers")) "last_closing" = some (some (.ref (He.ma K (He.ga K "Goers") "last_closing")))),
  fun K => PySem.W.isFn K (.ref (He.ma K (He.ga K "Goers") "last_closing")),
  fun K => PySem.W.keepIn K (.ref (He.ma K (He.ga K "Goers") "last_closing")),
  fun K => decide (PySem.W.findIn K (.ref (He.ga K "Goers")) "__init__" = some (some (.ref (He.ma K (He.ga K "Goers") "__init__")))),
  fun K => PySem.W.isFn K (.ref (He.ma K (He.ga K "Goers") "__init__")),
  fun K => PySem.W.keepIn K (.ref (He.ma K (He.ga K "Goers") "__init__")),
  fun K => decide (PySem.W.findIn K (.ref (He.ga K "Goers")) "ranges" = some (some (.ref (He.ma K (He.ga K "Goers") "ranges")))),
  fun K => PySem.W.isFn K (.ref (He.ma K (He.ga K "Goers") "ranges")),
  fun K => PySem.W.keepIn K (.ref (He.ma K (He.ga K "Goers") "ranges")),
  fun K => decide (PySem.W.nsIn K mainGlobals "closing_starts" = some (some (.ref (He.ga K "closing_starts")))),
  fun K => PySem.W.keepIn K (.ref (He.ga K "closing_starts")),
  fun K => decide (PySem.W.nsIn K mainGlobals "open_starts" = some (some (.ref (He.ga K "open_starts")))),
  fun K => PySem.W.keepIn K (.ref (He.ga K "open_starts")),
  fun K => decide (PySem.W.nsIn K mainGlobals "starts" = some (some (.ref (He.ga K "starts")))),
  fun K => PySem.W.keepIn K (.ref (He.ga K "starts")),
  fun K => decide (PySem.W.nsIn K mainGlobals "all_ends" = some (some (.ref (He.ga K "all_ends")))),
  fun K => PySem.W.keepIn K (.ref (He.ga K "all_ends")),
  fun K => decide (PySem.W.nsIn K mainGlobals "counted_states" = some (some (.ref (He.ga K "counted_states")))),
  fun K => PySem.W.keepIn K (.ref (He.ga K "counted_states")),
  fun K => decide (PySem.W.nsIn K mainGlobals "states" = some (some (.ref (He.ga K "states")))),
  fun K => PySem.W.keepIn K (.ref (He.ga K "states")),
  fun K => decide (PySem.W.nsIn K mainGlobals "lines_of" = some (some (.ref (He.ga K "lines_of"))))]
def xsL3 : List (PySem.W.Frag → Bool) := [fun K => PySem.W.keepIn K (.ref (He.ga K "lines_of")),
  fun K => decide (PySem.W.nsIn K mainGlobals "settled_ends" = some (some (.ref (He.ga K "settled_ends")))),
  fun K => PySem.W.keepIn K (.ref (He.ga K "settled_ends")),
  fun K => decide (PySem.W.nsIn K mainGlobals "settled_lines" = some (some (.ref (He.ga K "settled_lines")))),
  fun K => PySem.W.keepIn K (.ref (He.ga K "settled_lines")),
  fun K => decide (PySem.W.nsIn K mainGlobals "_law_well" = some (some (.ref (He.ga K "_law_well")))),
  fun K => PySem.W.keepIn K (.ref (He.ga K "_law_well")),
  fun K => decide (PySem.W.nsIn K mainGlobals "_law_draw" = some (some (.ref (He.ga K "_law_draw")))),
  fun K => PySem.W.keepIn K (.ref (He.ga K "_law_draw")),
  fun K => decide (PySem.W.nsIn K mainGlobals "_law_pick" = some (some (.ref (He.ga K "_law_pick")))),
  fun K => PySem.W.keepIn K (.ref (He.ga K "_law_pick")),
  fun K => decide (PySem.W.nsIn K mainGlobals "_law_text" = some (some (.ref (He.ga K "_law_text")))),
  fun K => PySem.W.keepIn K (.ref (He.ga K "_law_text")),
  fun K => decide (PySem.W.nsIn K mainGlobals "is_integer" = some (some (.ref (He.ga K "is_integer")))),
  fun K => PySem.W.keepIn K (.ref (He.ga K "is_integer")),
  fun K => decide (PySem.W.nsIn K mainGlobals "is_between" = some (some (.ref (He.ga K "is_between")))),
  fun K => PySem.W.keepIn K (.ref (He.ga K "is_between")),
  fun K => decide (PySem.W.nsIn K mainGlobals "is_width" = some (some (.ref (He.ga K "is_width")))),
  fun K => PySem.W.keepIn K (.ref (He.ga K "is_width")),
  fun K => decide (PySem.W.nsIn K mainGlobals "are_words" = some (some (.ref (He.ga K "are_words")))),
  fun K => PySem.W.keepIn K (.ref (He.ga K "are_words")),
  fun K => decide (PySem.W.nsIn K mainGlobals "is_text" = some (some (.ref (He.ga K "is_text")))),
  fun K => PySem.W.keepIn K (.ref (He.ga K "is_text")),
  fun K => decide (PySem.W.findIn K (.ref (He.ga K "BadPlace")) "__init__" = some (some (.ref (He.ma K (He.ga K "BadPlace") "__init__")))),
  fun K => decide (PySem.W.typeIn K (.ref (He.ma K (He.ga K "BadPlace") "__init__")) = some (.type "function")),
  fun K => PySem.W.keepIn K (.ref (He.ma K (He.ga K "BadPlace") "__init__")),
  fun K => decide (PySem.W.findIn K (.ref (He.ga K "NothingToUndo")) "__init__" = some (some (.ref (He.ma K (He.ga K "NothingToUndo") "__init__")))),
  fun K => decide (PySem.W.typeIn K (.ref (He.ma K (He.ga K "NothingToUndo") "__init__")) = some (.type "function")),
  fun K => PySem.W.keepIn K (.ref (He.ma K (He.ga K "NothingToUndo") "__init__")),
  fun K => decide (PySem.W.nsIn K mainGlobals "check_width" = some (some (.ref (He.ga K "check_width")))),
  fun K => PySem.W.keepIn K (.ref (He.ga K "check_width")),
  fun K => decide (PySem.W.findIn K (.ref (He.ga K "Paragraph")) "__init__" = some (some (.ref (He.ma K (He.ga K "Paragraph") "__init__")))),
  fun K => PySem.W.isFn K (.ref (He.ma K (He.ga K "Paragraph") "__init__")),
  fun K => PySem.W.keepIn K (.ref (He.ma K (He.ga K "Paragraph") "__init__")),
  fun K => decide (PySem.W.findIn K (.ref (He.ga K "Paragraph")) "width" = some (some (.ref (He.ma K (He.ga K "Paragraph") "width")))),
  fun K => decide (PySem.W.specialIn K (.ref (He.ma K (He.ga K "Paragraph") "width")) "__get__" = some (some (.builtin "property.__get__"))),
  fun K => decide (PySem.W.takesIn K (.ref (He.ma K (He.ga K "Paragraph") "width")) = some true),
  fun K => rcB K (He.ma K (He.ga K "Paragraph") "width") "property",
  fun K => PySem.W.keepIn K (.ref (rcAt K (He.ma K (He.ga K "Paragraph") "width") "property")),
  fun K => decide (PySem.W.findIn K (.ref (He.ga K "Paragraph")) "text" = some (some (.ref (He.ma K (He.ga K "Paragraph") "text"))))]
def xsL4 : List (PySem.W.Frag → Bool) := [fun K => decide (PySem.W.specialIn K (.ref (He.ma K (He.ga K "Paragraph") "text")) "__get__" = some (some (.builtin "property.__get__"))),
  fun K => decide (PySem.W.takesIn K (.ref (He.ma K (He.ga K "Paragraph") "text")) = some true),
  fun K => rcB K (He.ma K (He.ga K "Paragraph") "text") "property",
  fun K => PySem.W.keepIn K (.ref (rcAt K (He.ma K (He.ga K "Paragraph") "text") "property")),
  fun K => decide (PySem.W.findIn K (.ref (He.ga K "Paragraph")) "__len__" = some (some (.ref (He.ma K (He.ga K "Paragraph") "__len__")))),
  fun K => PySem.W.isFn K (.ref (He.ma K (He.ga K "Paragraph") "__len__")),
  fun K => PySem.W.keepIn K (.ref (He.ma K (He.ga K "Paragraph") "__len__")),
  fun K => decide (PySem.W.findIn K (.ref (He.ga K "Paragraph")) "edits" = some (some (.ref (He.ma K (He.ga K "Paragraph") "edits")))),
  fun K => PySem.W.isFn K (.ref (He.ma K (He.ga K "Paragraph") "edits")),
  fun K => PySem.W.keepIn K (.ref (He.ma K (He.ga K "Paragraph") "edits")),
  fun K => decide (PySem.W.findIn K (.ref (He.ga K "Paragraph")) "check_place" = some (some (.ref (He.ma K (He.ga K "Paragraph") "check_place")))),
  fun K => PySem.W.isFn K (.ref (He.ma K (He.ga K "Paragraph") "check_place")),
  fun K => PySem.W.keepIn K (.ref (He.ma K (He.ga K "Paragraph") "check_place")),
  fun K => decide (PySem.W.findIn K (.ref (He.ga K "Paragraph")) "change" = some (some (.ref (He.ma K (He.ga K "Paragraph") "change")))),
  fun K => PySem.W.isFn K (.ref (He.ma K (He.ga K "Paragraph") "change")),
  fun K => PySem.W.keepIn K (.ref (He.ma K (He.ga K "Paragraph") "change")),
  fun K => decide (PySem.W.findIn K (.ref (He.ga K "Paragraph")) "firm" = some (some (.ref (He.ma K (He.ga K "Paragraph") "firm")))),
  fun K => PySem.W.isFn K (.ref (He.ma K (He.ga K "Paragraph") "firm")),
  fun K => PySem.W.keepIn K (.ref (He.ma K (He.ga K "Paragraph") "firm")),
  fun K => decide (PySem.W.findIn K (.ref (He.ga K "Paragraph")) "insert" = some (some (.ref (He.ma K (He.ga K "Paragraph") "insert")))),
  fun K => PySem.W.isFn K (.ref (He.ma K (He.ga K "Paragraph") "insert")),
  fun K => PySem.W.keepIn K (.ref (He.ma K (He.ga K "Paragraph") "insert")),
  fun K => decide (PySem.W.findIn K (.ref (He.ga K "Paragraph")) "remove" = some (some (.ref (He.ma K (He.ga K "Paragraph") "remove")))),
  fun K => PySem.W.isFn K (.ref (He.ma K (He.ga K "Paragraph") "remove")),
  fun K => PySem.W.keepIn K (.ref (He.ma K (He.ga K "Paragraph") "remove")),
  fun K => decide (PySem.W.findIn K (.ref (He.ga K "Paragraph")) "widen" = some (some (.ref (He.ma K (He.ga K "Paragraph") "widen")))),
  fun K => PySem.W.isFn K (.ref (He.ma K (He.ga K "Paragraph") "widen")),
  fun K => PySem.W.keepIn K (.ref (He.ma K (He.ga K "Paragraph") "widen")),
  fun K => decide (PySem.W.findIn K (.ref (He.ga K "Paragraph")) "undo" = some (some (.ref (He.ma K (He.ga K "Paragraph") "undo")))),
  fun K => PySem.W.isFn K (.ref (He.ma K (He.ga K "Paragraph") "undo")),
  fun K => PySem.W.keepIn K (.ref (He.ma K (He.ga K "Paragraph") "undo")),
  fun K => decide (PySem.W.findIn K (.ref (He.ga K "Paragraph")) "layout" = some (some (.ref (He.ma K (He.ga K "Paragraph") "layout")))),
  fun K => PySem.W.isFn K (.ref (He.ma K (He.ga K "Paragraph") "layout")),
  fun K => PySem.W.keepIn K (.ref (He.ma K (He.ga K "Paragraph") "layout")),
  fun K => decide (PySem.W.findIn K (.ref (He.ga K "Paragraph")) "cost" = some (some (.ref (He.ma K (He.ga K "Paragraph") "cost")))),
  fun K => PySem.W.isFn K (.ref (He.ma K (He.ga K "Paragraph") "cost")),
  fun K => PySem.W.keepIn K (.ref (He.ma K (He.ga K "Paragraph") "cost")),
  fun K => decide (PySem.W.findIn K (.ref (He.ga K "Paragraph")) "__eq__" = some (some (.ref (He.ma K (He.ga K "Paragraph") "__eq__")))),
  fun K => PySem.W.isFn K (.ref (He.ma K (He.ga K "Paragraph") "__eq__")),
  fun K => PySem.W.keepIn K (.ref (He.ma K (He.ga K "Paragraph") "__eq__"))]
def xsL5 : List (PySem.W.Frag → Bool) := [fun K => decide (PySem.W.nsIn K mainGlobals "_law_answers" = some (some (.ref (He.ga K "_law_answers")))),
  fun K => PySem.W.keepIn K (.ref (He.ga K "_law_answers")),
  fun K => decide (PySem.W.nsIn K mainGlobals "_law_together" = some (some (.ref (He.ga K "_law_together")))),
  fun K => PySem.W.keepIn K (.ref (He.ga K "_law_together")),
  fun K => decide (PySem.W.nsIn K mainGlobals "_law_changed" = some (some (.ref (He.ga K "_law_changed")))),
  fun K => PySem.W.keepIn K (.ref (He.ga K "_law_changed")),
  fun K => decide (PySem.W.nsIn K mainGlobals "law" = some (some (.ref (He.ga K "law")))),
  fun K => PySem.W.keepIn K (.ref (He.ga K "law")),
  fun K => decide (PySem.W.nsIn K mainGlobals "abs" = some none),
  fun K => decide (PySem.W.nsIn K mainGlobals "all" = some none),
  fun K => decide (PySem.W.nsIn K mainGlobals "bool" = some none),
  fun K => decide (PySem.W.nsIn K mainGlobals "enumerate" = some none),
  fun K => decide (PySem.W.nsIn K mainGlobals "int" = some none),
  fun K => decide (PySem.W.nsIn K mainGlobals "isinstance" = some none),
  fun K => decide (PySem.W.nsIn K mainGlobals "len" = some none),
  fun K => decide (PySem.W.nsIn K mainGlobals "max" = some none),
  fun K => decide (PySem.W.nsIn K mainGlobals "min" = some none),
  fun K => decide (PySem.W.nsIn K mainGlobals "range" = some none),
  fun K => decide (PySem.W.nsIn K mainGlobals "repr" = some none),
  fun K => decide (PySem.W.nsIn K mainGlobals "reversed" = some none),
  fun K => decide (PySem.W.nsIn K mainGlobals "sorted" = some none),
  fun K => decide (PySem.W.nsIn K mainGlobals "tuple" = some none),
  fun K => decide (PySem.W.nsIn K mainGlobals "zip" = some none),
  fun K => (He.Fa.str "ALWAYS" "always").ok K,
  fun K => (He.Fa.int "MOST_WIDTH" 1000000000).ok K,
  fun K => (He.Fa.int "MOST_WORDS" 300).ok K,
  fun K => (He.Fa.str "NEVER" "never").ok K,
  fun K => (He.Fa.str "SOMETIMES" "sometimes").ok K,
  fun K => eB K (He.ma K (He.ga K "Paragraph") "__init__")]
def xsL : List (PySem.W.Frag → Bool) := xsL0 ++ xsL1 ++ xsL2 ++ xsL3 ++ xsL4 ++ xsL5
def mkL : List (PySem.W.Frag → Addr) := []
def esL : List (PySem.W.Frag → Addr) := [fun K => (eAt K (He.ma K (He.ga K "Paragraph") "__init__"))]
theorem head_ok {l : PySem.W.OpenLaw} {w : World} {K : PySem.W.Frag} {h : Heap} {mg : Str → Option Value} {fa : Addr} (X : K.In h) (G : h.Ns mainGlobals mg) (hfa : mg "law" = some (.ref fa)) (cEm : SaysE fnL xsL mkL esL h K) :
    ∃ (cs : Cs) (Es : List Addr), CsAt K h cs ∧ EmAt K h Es ∧ ∃ (fd : FuncData), (∀ (s : Shared) (v : Value), BindsTo s fd ⟨[v], []⟩ [("_law_script", v)]) ∧ ∀ base : Heap, K.In base → base.Ns mainGlobals mg → (∀ p ∈ cs, LamX.TabB base mg p.1 p.2.1) → FnG l.prog w K mg base (Cs.tqE cs Es) 21 fa fd ["_law_script"] (spLaw K) := by
  have c := cEm.q
  have aaGoers : PySem.W.nsIn K mainGlobals "Goers" = some (some (.ref (He.ga K "Goers"))) := of_decide_eq_true (exF c.xs 0 rfl)
  have pgGoers : PySem.W.plainGet K (He.ga K "Goers") Str.empty = true := exF c.xs 1 rfl
  have hdGoers : PySem.W.hasDictIn K (He.ga K "Goers") = true := exF c.xs 2 rfl
  have poGoers : PySem.W.plainOver K (He.ga K "Goers") = true := exF c.xs 3 rfl
  have saGoers : PySem.W.findIn K (.ref (He.ga K "Goers")) "__setattr__" = some (some (.builtin "object.__setattr__")) := of_decide_eq_true (exF c.xs 4 rfl)
  have mkGoers : PySem.W.makesIn K (He.ga K "Goers") = true := exF c.xs 5 rfl
  have kcGoers : PySem.W.keepIn K (.ref (He.ga K "Goers")) = true := exF c.xs 6 rfl
  have nGoers_most : PySem.W.findIn K (.ref (He.ga K "Goers")) "most" = some none := of_decide_eq_true (exF c.xs 7 rfl)
  have nGoers_table : PySem.W.findIn K (.ref (He.ga K "Goers")) "table" = some none := of_decide_eq_true (exF c.xs 8 rfl)
  have nGoers_reaches : PySem.W.findIn K (.ref (He.ga K "Goers")) "reaches" = some none := of_decide_eq_true (exF c.xs 9 rfl)
  have aaParagraph : PySem.W.nsIn K mainGlobals "Paragraph" = some (some (.ref (He.ga K "Paragraph"))) := of_decide_eq_true (exF c.xs 10 rfl)
  have pgParagraph : PySem.W.plainGet K (He.ga K "Paragraph") Str.empty = true := exF c.xs 11 rfl
  have hdParagraph : PySem.W.hasDictIn K (He.ga K "Paragraph") = true := exF c.xs 12 rfl
  have poParagraph : PySem.W.plainOver K (He.ga K "Paragraph") = true := exF c.xs 13 rfl
  have saParagraph : PySem.W.findIn K (.ref (He.ga K "Paragraph")) "__setattr__" = some (some (.builtin "object.__setattr__")) := of_decide_eq_true (exF c.xs 14 rfl)
  have mkParagraph : PySem.W.makesIn K (He.ga K "Paragraph") = true := exF c.xs 15 rfl
  have kcParagraph : PySem.W.keepIn K (.ref (He.ga K "Paragraph")) = true := exF c.xs 16 rfl
  have nParagraph_present : PySem.W.findIn K (.ref (He.ga K "Paragraph")) "present" = some none := of_decide_eq_true (exF c.xs 17 rfl)
  have nParagraph_past : PySem.W.findIn K (.ref (He.ga K "Paragraph")) "past" = some none := of_decide_eq_true (exF c.xs 18 rfl)
  have xParagraph_q_ne : PySem.W.findIn K (.ref (He.ga K "Paragraph")) "__ne__" = some (some (.builtin "object.__ne__")) := of_decide_eq_true (exF c.xs 19 rfl)
  have xParagraph_q_ob : PySem.W.mroIn K (He.ga K "Paragraph") (.type "object") = some true := of_decide_eq_true (exF c.xs 20 rfl)
  have xParagraph_q_tu : PySem.W.mroIn K (He.ga K "Paragraph") (.type "tuple") = some false := of_decide_eq_true (exF c.xs 21 rfl)
  have xParagraph_q_it : PySem.W.mroIn K (He.ga K "Paragraph") (.type "int") = some false := of_decide_eq_true (exF c.xs 22 rfl)
  have xParagraph_q_st : PySem.W.mroIn K (He.ga K "Paragraph") (.type "str") = some false := of_decide_eq_true (exF c.xs 23 rfl)
  have xParagraph_q_no : PySem.W.mroIn K (He.ga K "Paragraph") (.type "NoneType") = some false := of_decide_eq_true (exF c.xs 24 rfl)
  have xParagraph_q_ha : PySem.W.findIn K (.ref (He.ga K "Paragraph")) "__class__" = some (some (.builtin "object.__class__")) := of_decide_eq_true (exF c.xs 25 rfl)
  have xParagraph_q_hn : PySem.W.specialIn K (.builtin "object.__class__") "__get__" = some (some (.builtin "getset_descriptor.__get__")) := of_decide_eq_true (exF c.xs 26 rfl)
  have xParagraph_q_tk : PySem.W.takesIn K (.builtin "object.__class__") = some true := of_decide_eq_true (exF c.xs 27 rfl)
  have xParagraph_q_kc : ((PySem.W.clsIn K (He.ga K "Paragraph")).isSome && PySem.W.typeIn K (.ref (He.ga K "Paragraph")) == some (.type "type")) = true := exF c.xs 28 rfl
  have aaTable : PySem.W.nsIn K mainGlobals "Table" = some (some (.ref (He.ga K "Table"))) := of_decide_eq_true (exF c.xs 29 rfl)
  have pgTable : PySem.W.plainGet K (He.ga K "Table") Str.empty = true := exF c.xs 30 rfl
  have hdTable : PySem.W.hasDictIn K (He.ga K "Table") = true := exF c.xs 31 rfl
  have poTable : PySem.W.plainOver K (He.ga K "Table") = true := exF c.xs 32 rfl
  have saTable : PySem.W.findIn K (.ref (He.ga K "Table")) "__setattr__" = some (some (.builtin "object.__setattr__")) := of_decide_eq_true (exF c.xs 33 rfl)
  have mkTable : PySem.W.makesIn K (He.ga K "Table") = true := exF c.xs 34 rfl
  have kcTable : PySem.W.keepIn K (.ref (He.ga K "Table")) = true := exF c.xs 35 rfl
  have nTable_wide : PySem.W.findIn K (.ref (He.ga K "Table")) "wide" = some none := of_decide_eq_true (exF c.xs 36 rfl)
  have nTable_sums : PySem.W.findIn K (.ref (He.ga K "Table")) "sums" = some none := of_decide_eq_true (exF c.xs 37 rfl)
  have nTable_costs : PySem.W.findIn K (.ref (He.ga K "Table")) "costs" = some none := of_decide_eq_true (exF c.xs 38 rfl)
  have nTable_befores : PySem.W.findIn K (.ref (He.ga K "Table")) "befores" = some none := of_decide_eq_true (exF c.xs 39 rfl)
  have aaBadPlace : PySem.W.nsIn K mainGlobals "BadPlace" = some (some (.ref (He.ga K "BadPlace"))) := of_decide_eq_true (exF c.xs 40 rfl)
  have aaLineError : PySem.W.nsIn K mainGlobals "LineError" = some (some (.ref (He.ga K "LineError"))) := of_decide_eq_true (exF c.xs 41 rfl)
  have aaNothingToUndo : PySem.W.nsIn K mainGlobals "NothingToUndo" = some (some (.ref (He.ga K "NothingToUndo"))) := of_decide_eq_true (exF c.xs 42 rfl)
  obtain ⟨_, _, _, _, _, _, _, _, _, _, _, _, _, _, _, lkBadPlace, rvBadPlace⟩ := excQ_of (show excQ K (He.ga K "BadPlace") = true from exF c.xs 43 rfl)
  have saBadPlace : PySem.W.findIn K (.ref (He.ga K "BadPlace")) "__setattr__" = some (some (.builtin "object.__setattr__")) := of_decide_eq_true (exF c.xs 44 rfl)
  have exBadPlace : PySem.W.subIn K (.ref (He.ga K "BadPlace")) (.type "BaseException") = some true := of_decide_eq_true (exF c.xs 45 rfl)
  have tyBadPlace : PySem.W.typeIn K (.ref (He.ga K "BadPlace")) = some (.type "type") := of_decide_eq_true (exF c.xs 46 rfl)
  have kcBadPlace : PySem.W.keepIn K (.ref (He.ga K "BadPlace")) = true := exF c.xs 47 rfl
  have noBadPlace : PySem.W.findIn K (.ref (He.ga K "BadPlace")) "value" = some none := of_decide_eq_true (exF c.xs 48 rfl)
  obtain ⟨_, _, _, _, _, _, _, _, _, _, _, _, _, _, _, lkNothingToUndo, rvNothingToUndo⟩ := excQ_of (show excQ K (He.ga K "NothingToUndo") = true from exF c.xs 49 rfl)
  have saNothingToUndo : PySem.W.findIn K (.ref (He.ga K "NothingToUndo")) "__setattr__" = some (some (.builtin "object.__setattr__")) := of_decide_eq_true (exF c.xs 50 rfl)
  have exNothingToUndo : PySem.W.subIn K (.ref (He.ga K "NothingToUndo")) (.type "BaseException") = some true := of_decide_eq_true (exF c.xs 51 rfl)
  have tyNothingToUndo : PySem.W.typeIn K (.ref (He.ga K "NothingToUndo")) = some (.type "type") := of_decide_eq_true (exF c.xs 52 rfl)
  have kcNothingToUndo : PySem.W.keepIn K (.ref (He.ga K "NothingToUndo")) = true := exF c.xs 53 rfl
  have rdLineError : PySem.W.readsIn K (He.ga K "LineError") (.type "type") = true := exF c.xs 54 rfl
  have gaLineError : PySem.W.specialIn K (.ref (He.ga K "LineError")) "__getattribute__" = some (some (.builtin "type.__getattribute__")) := of_decide_eq_true (exF c.xs 55 rfl)
  have hkLineError : cvB (PySem.W.findCls K (.ref (He.ga K "LineError")) (.type "type") "__init__") "ValueError.__init__" = true := exF c.xs 56 rfl
  replace hkLineError := cvB_ok hkLineError
  have a0 : PySem.W.nsIn K mainGlobals "sums_of" = some (some (.ref (He.ga K "sums_of"))) := of_decide_eq_true (exF c.xs 57 rfl)
  obtain ⟨oc0, od0, kV0, dc0, pm0, an0, cd0, ct0, sl0, l0, c0⟩ := FnQ.get0 (c.fns 0 _ rfl).1 (c.fns 0 _ rfl).2 rfl
  replace l0 : K.lookup (He.ga K "sums_of") = some ⟨oc0, od0, .func (PySem.W.fnOf "sums_of" "sums_of" (defArgs (topS 16)) (defBody (topS 16)) (defScope (topS 16)) .none kV0 dc0 pm0 an0 cd0 ct0), sl0⟩ := l0
  replace c0 : PySem.W.codeIn K cd0 "sums_of" = true := c0
  have k0 : PySem.W.keepIn K (.ref (He.ga K "sums_of")) = true := exF c.xs 58 rfl
  have a1 : PySem.W.nsIn K mainGlobals "length_by" = some (some (.ref (He.ga K "length_by"))) := of_decide_eq_true (exF c.xs 59 rfl)
  obtain ⟨oc1, od1, kV1, dc1, pm1, an1, cd1, ct1, sl1, l1, c1⟩ := FnQ.get0 (c.fns 1 _ rfl).1 (c.fns 1 _ rfl).2 rfl
  replace l1 : K.lookup (He.ga K "length_by") = some ⟨oc1, od1, .func (PySem.W.fnOf "length_by" "length_by" (defArgs (topS 17)) (defBody (topS 17)) (defScope (topS 17)) .none kV1 dc1 pm1 an1 cd1 ct1), sl1⟩ := l1
  replace c1 : PySem.W.codeIn K cd1 "length_by" = true := c1
  have k1 : PySem.W.keepIn K (.ref (He.ga K "length_by")) = true := exF c.xs 60 rfl
  have a2 : PySem.W.findIn K (.ref (He.ga K "Table")) "begins" = some (some (.ref (He.ma K (He.ga K "Table") "begins"))) := of_decide_eq_true (exF c.xs 61 rfl)
  have i2 : PySem.W.isFn K (.ref (He.ma K (He.ga K "Table") "begins")) = true := exF c.xs 62 rfl
  obtain ⟨oc2, od2, kV2, dc2, pm2, an2, cd2, ct2, sl2, l2, c2⟩ := FnQ.get0 (c.fns 2 _ rfl).1 (c.fns 2 _ rfl).2 rfl
  replace l2 : K.lookup (He.ma K (He.ga K "Table") "begins") = some ⟨oc2, od2, .func (PySem.W.fnOf "begins" "Table.begins" (defArgs (inClass (topS 19) 1)) (defBody (inClass (topS 19) 1)) (defScope (inClass (topS 19) 1)) .none kV2 dc2 pm2 an2 cd2 ct2), sl2⟩ := l2
  replace c2 : PySem.W.codeIn K cd2 "Table.begins" = true := c2
  have k2 : PySem.W.keepIn K (.ref (He.ma K (He.ga K "Table") "begins")) = true := exF c.xs 63 rfl
  have a3 : PySem.W.findIn K (.ref (He.ga K "Table")) "square" = some (some (.ref (He.ma K (He.ga K "Table") "square"))) := of_decide_eq_true (exF c.xs 64 rfl)
  have i3 : PySem.W.isFn K (.ref (He.ma K (He.ga K "Table") "square")) = true := exF c.xs 65 rfl
  obtain ⟨oc3, od3, kV3, dc3, pm3, an3, cd3, ct3, sl3, l3, c3⟩ := FnQ.get0 (c.fns 3 _ rfl).1 (c.fns 3 _ rfl).2 rfl
  replace l3 : K.lookup (He.ma K (He.ga K "Table") "square") = some ⟨oc3, od3, .func (PySem.W.fnOf "square" "Table.square" (defArgs (inClass (topS 19) 2)) (defBody (inClass (topS 19) 2)) (defScope (inClass (topS 19) 2)) .none kV3 dc3 pm3 an3 cd3 ct3), sl3⟩ := l3
  replace c3 : PySem.W.codeIn K cd3 "Table.square" = true := c3
  have k3 : PySem.W.keepIn K (.ref (He.ma K (He.ga K "Table") "square")) = true := exF c.xs 66 rfl
  have a4 : PySem.W.findIn K (.ref (He.ga K "Table")) "way" = some (some (.ref (He.ma K (He.ga K "Table") "way"))) := of_decide_eq_true (exF c.xs 67 rfl)
  have i4 : PySem.W.isFn K (.ref (He.ma K (He.ga K "Table") "way")) = true := exF c.xs 68 rfl
  obtain ⟨oc4, od4, kV4, dc4, pm4, an4, cd4, ct4, sl4, l4, c4⟩ := FnQ.get0 (c.fns 4 _ rfl).1 (c.fns 4 _ rfl).2 rfl
  replace l4 : K.lookup (He.ma K (He.ga K "Table") "way") = some ⟨oc4, od4, .func (PySem.W.fnOf "way" "Table.way" (defArgs (inClass (topS 19) 3)) (defBody (inClass (topS 19) 3)) (defScope (inClass (topS 19) 3)) .none kV4 dc4 pm4 an4 cd4 ct4), sl4⟩ := l4
  replace c4 : PySem.W.codeIn K cd4 "Table.way" = true := c4
  have k4 : PySem.W.keepIn K (.ref (He.ma K (He.ga K "Table") "way")) = true := exF c.xs 69 rfl
  have a5 : PySem.W.findIn K (.ref (He.ga K "Table")) "last_start" = some (some (.ref (He.ma K (He.ga K "Table") "last_start"))) := of_decide_eq_true (exF c.xs 70 rfl)
  have i5 : PySem.W.isFn K (.ref (He.ma K (He.ga K "Table") "last_start")) = true := exF c.xs 71 rfl
  obtain ⟨oc5, od5, kV5, dc5, pm5, an5, cd5, ct5, sl5, l5, c5⟩ := FnQ.get0 (c.fns 5 _ rfl).1 (c.fns 5 _ rfl).2 rfl
  replace l5 : K.lookup (He.ma K (He.ga K "Table") "last_start") = some ⟨oc5, od5, .func (PySem.W.fnOf "last_start" "Table.last_start" (defArgs (inClass (topS 19) 4)) (defBody (inClass (topS 19) 4)) (defScope (inClass (topS 19) 4)) .none kV5 dc5 pm5 an5 cd5 ct5), sl5⟩ := l5
  replace c5 : PySem.W.codeIn K cd5 "Table.last_start" = true := c5
  have k5 : PySem.W.keepIn K (.ref (He.ma K (He.ga K "Table") "last_start")) = true := exF c.xs 72 rfl
  have a6 : PySem.W.findIn K (.ref (He.ga K "Table")) "__init__" = some (some (.ref (He.ma K (He.ga K "Table") "__init__"))) := of_decide_eq_true (exF c.xs 73 rfl)
  have i6 : PySem.W.isFn K (.ref (He.ma K (He.ga K "Table") "__init__")) = true := exF c.xs 74 rfl
  obtain ⟨oc6, od6, kV6, dc6, pm6, an6, cd6, ct6, sl6, l6, c6⟩ := FnQ.get0 (c.fns 6 _ rfl).1 (c.fns 6 _ rfl).2 rfl
  replace l6 : K.lookup (He.ma K (He.ga K "Table") "__init__") = some ⟨oc6, od6, .func (PySem.W.fnOf "__init__" "Table.__init__" (defArgs (inClass (topS 19) 0)) (defBody (inClass (topS 19) 0)) (defScope (inClass (topS 19) 0)) .none kV6 dc6 pm6 an6 cd6 ct6), sl6⟩ := l6
  replace c6 : PySem.W.codeIn K cd6 "Table.__init__" = true := c6
  have k6 : PySem.W.keepIn K (.ref (He.ma K (He.ga K "Table") "__init__")) = true := exF c.xs 75 rfl
  have a7 : PySem.W.nsIn K mainGlobals "best_layout" = some (some (.ref (He.ga K "best_layout"))) := of_decide_eq_true (exF c.xs 76 rfl)
  obtain ⟨oc7, od7, kV7, dc7, pm7, an7, cd7, ct7, sl7, l7, c7⟩ := FnQ.get0 (c.fns 7 _ rfl).1 (c.fns 7 _ rfl).2 rfl
  replace l7 : K.lookup (He.ga K "best_layout") = some ⟨oc7, od7, .func (PySem.W.fnOf "best_layout" "best_layout" (defArgs (topS 21)) (defBody (topS 21)) (defScope (topS 21)) .none kV7 dc7 pm7 an7 cd7 ct7), sl7⟩ := l7
  replace c7 : PySem.W.codeIn K cd7 "best_layout" = true := c7
  have k7 : PySem.W.keepIn K (.ref (He.ga K "best_layout")) = true := exF c.xs 77 rfl
  have a8 : PySem.W.nsIn K mainGlobals "best_cost" = some (some (.ref (He.ga K "best_cost"))) := of_decide_eq_true (exF c.xs 78 rfl)
  obtain ⟨oc8, od8, kV8, dc8, pm8, an8, cd8, ct8, sl8, l8, c8⟩ := FnQ.get0 (c.fns 8 _ rfl).1 (c.fns 8 _ rfl).2 rfl
  replace l8 : K.lookup (He.ga K "best_cost") = some ⟨oc8, od8, .func (PySem.W.fnOf "best_cost" "best_cost" (defArgs (topS 22)) (defBody (topS 22)) (defScope (topS 22)) .none kV8 dc8 pm8 an8 cd8 ct8), sl8⟩ := l8
  replace c8 : PySem.W.codeIn K cd8 "best_cost" = true := c8
  have k8 : PySem.W.keepIn K (.ref (He.ga K "best_cost")) = true := exF c.xs 79 rfl
  have a9 : PySem.W.findIn K (.ref (He.ga K "Goers")) "room" = some (some (.ref (He.ma K (He.ga K "Goers") "room"))) := of_decide_eq_true (exF c.xs 80 rfl)
  have i9 : PySem.W.isFn K (.ref (He.ma K (He.ga K "Goers") "room")) = true := exF c.xs 81 rfl
  obtain ⟨oc9, od9, kV9, dc9, pm9, an9, cd9, ct9, sl9, l9, c9⟩ := FnQ.get0 (c.fns 9 _ rfl).1 (c.fns 9 _ rfl).2 rfl
  replace l9 : K.lookup (He.ma K (He.ga K "Goers") "room") = some ⟨oc9, od9, .func (PySem.W.fnOf "room" "Goers.room" (defArgs (inClass (topS 24) 1)) (defBody (inClass (topS 24) 1)) (defScope (inClass (topS 24) 1)) .none kV9 dc9 pm9 an9 cd9 ct9), sl9⟩ := l9
  replace c9 : PySem.W.codeIn K cd9 "Goers.room" = true := c9
  have k9 : PySem.W.keepIn K (.ref (He.ma K (He.ga K "Goers") "room")) = true := exF c.xs 82 rfl
  have a10 : PySem.W.findIn K (.ref (He.ga K "Goers")) "fitting" = some (some (.ref (He.ma K (He.ga K "Goers") "fitting"))) := of_decide_eq_true (exF c.xs 83 rfl)
  have i10 : PySem.W.isFn K (.ref (He.ma K (He.ga K "Goers") "fitting")) = true := exF c.xs 84 rfl
  obtain ⟨oc10, od10, kV10, dc10, pm10, an10, cd10, ct10, sl10, l10, c10⟩ := FnQ.get0 (c.fns 10 _ rfl).1 (c.fns 10 _ rfl).2 rfl
  replace l10 : K.lookup (He.ma K (He.ga K "Goers") "fitting") = some ⟨oc10, od10, .func (PySem.W.fnOf "fitting" "Goers.fitting" (defArgs (inClass (topS 24) 2)) (defBody (inClass (topS 24) 2)) (defScope (inClass (topS 24) 2)) .none kV10 dc10 pm10 an10 cd10 ct10), sl10⟩ := l10
  replace c10 : PySem.W.codeIn K cd10 "Goers.fitting" = true := c10
  have k10 : PySem.W.keepIn K (.ref (He.ma K (He.ga K "Goers") "fitting")) = true := exF c.xs 85 rfl
  have a11 : PySem.W.findIn K (.ref (He.ga K "Goers")) "closed_cost_at" = some (some (.ref (He.ma K (He.ga K "Goers") "closed_cost_at"))) := of_decide_eq_true (exF c.xs 86 rfl)
  have i11 : PySem.W.isFn K (.ref (He.ma K (He.ga K "Goers") "closed_cost_at")) = true := exF c.xs 87 rfl
  obtain ⟨oc11, od11, kV11, dc11, pm11, an11, cd11, ct11, sl11, l11, c11⟩ := FnQ.get0 (c.fns 11 _ rfl).1 (c.fns 11 _ rfl).2 rfl
  replace l11 : K.lookup (He.ma K (He.ga K "Goers") "closed_cost_at") = some ⟨oc11, od11, .func (PySem.W.fnOf "closed_cost_at" "Goers.closed_cost_at" (defArgs (inClass (topS 24) 3)) (defBody (inClass (topS 24) 3)) (defScope (inClass (topS 24) 3)) .none kV11 dc11 pm11 an11 cd11 ct11), sl11⟩ := l11
  replace c11 : PySem.W.codeIn K cd11 "Goers.closed_cost_at" = true := c11
  have k11 : PySem.W.keepIn K (.ref (He.ma K (He.ga K "Goers") "closed_cost_at")) = true := exF c.xs 88 rfl
  have a12 : PySem.W.findIn K (.ref (He.ga K "Goers")) "closing_start" = some (some (.ref (He.ma K (He.ga K "Goers") "closing_start"))) := of_decide_eq_true (exF c.xs 89 rfl)
  have i12 : PySem.W.isFn K (.ref (He.ma K (He.ga K "Goers") "closing_start")) = true := exF c.xs 90 rfl
  obtain ⟨oc12, od12, kV12, dc12, pm12, an12, cd12, ct12, sl12, l12, c12⟩ := FnQ.get0 (c.fns 12 _ rfl).1 (c.fns 12 _ rfl).2 rfl
  replace l12 : K.lookup (He.ma K (He.ga K "Goers") "closing_start") = some ⟨oc12, od12, .func (PySem.W.fnOf "closing_start" "Goers.closing_start" (defArgs (inClass (topS 24) 4)) (defBody (inClass (topS 24) 4)) (defScope (inClass (topS 24) 4)) .none kV12 dc12 pm12 an12 cd12 ct12), sl12⟩ := l12
  replace c12 : PySem.W.codeIn K cd12 "Goers.closing_start" = true := c12
  have k12 : PySem.W.keepIn K (.ref (He.ma K (He.ga K "Goers") "closing_start")) = true := exF c.xs 91 rfl
  have a13 : PySem.W.findIn K (.ref (He.ga K "Goers")) "open_start" = some (some (.ref (He.ma K (He.ga K "Goers") "open_start"))) := of_decide_eq_true (exF c.xs 92 rfl)
  have i13 : PySem.W.isFn K (.ref (He.ma K (He.ga K "Goers") "open_start")) = true := exF c.xs 93 rfl
  obtain ⟨oc13, od13, kV13, dc13, pm13, an13, cd13, ct13, sl13, l13, c13⟩ := FnQ.get0 (c.fns 13 _ rfl).1 (c.fns 13 _ rfl).2 rfl
  replace l13 : K.lookup (He.ma K (He.ga K "Goers") "open_start") = some ⟨oc13, od13, .func (PySem.W.fnOf "open_start" "Goers.open_start" (defArgs (inClass (topS 24) 5)) (defBody (inClass (topS 24) 5)) (defScope (inClass (topS 24) 5)) .none kV13 dc13 pm13 an13 cd13 ct13), sl13⟩ := l13
  replace c13 : PySem.W.codeIn K cd13 "Goers.open_start" = true := c13
  have k13 : PySem.W.keepIn K (.ref (He.ma K (He.ga K "Goers") "open_start")) = true := exF c.xs 94 rfl
  have a14 : PySem.W.findIn K (.ref (He.ga K "Goers")) "last_fitting" = some (some (.ref (He.ma K (He.ga K "Goers") "last_fitting"))) := of_decide_eq_true (exF c.xs 95 rfl)
  have i14 : PySem.W.isFn K (.ref (He.ma K (He.ga K "Goers") "last_fitting")) = true := exF c.xs 96 rfl
  obtain ⟨oc14, od14, kV14, dc14, pm14, an14, cd14, ct14, sl14, l14, c14⟩ := FnQ.get0 (c.fns 14 _ rfl).1 (c.fns 14 _ rfl).2 rfl
  replace l14 : K.lookup (He.ma K (He.ga K "Goers") "last_fitting") = some ⟨oc14, od14, .func (PySem.W.fnOf "last_fitting" "Goers.last_fitting" (defArgs (inClass (topS 24) 6)) (defBody (inClass (topS 24) 6)) (defScope (inClass (topS 24) 6)) .none kV14 dc14 pm14 an14 cd14 ct14), sl14⟩ := l14
  replace c14 : PySem.W.codeIn K cd14 "Goers.last_fitting" = true := c14
  have k14 : PySem.W.keepIn K (.ref (He.ma K (He.ga K "Goers") "last_fitting")) = true := exF c.xs 97 rfl
  have a15 : PySem.W.findIn K (.ref (He.ga K "Goers")) "last_closing" = some (some (.ref (He.ma K (He.ga K "Goers") "last_closing"))) := of_decide_eq_true (exF c.xs 98 rfl)
  have i15 : PySem.W.isFn K (.ref (He.ma K (He.ga K "Goers") "last_closing")) = true := exF c.xs 99 rfl
  obtain ⟨oc15, od15, kV15, dc15, pm15, an15, cd15, ct15, sl15, l15, c15⟩ := FnQ.get0 (c.fns 15 _ rfl).1 (c.fns 15 _ rfl).2 rfl
  replace l15 : K.lookup (He.ma K (He.ga K "Goers") "last_closing") = some ⟨oc15, od15, .func (PySem.W.fnOf "last_closing" "Goers.last_closing" (defArgs (inClass (topS 24) 7)) (defBody (inClass (topS 24) 7)) (defScope (inClass (topS 24) 7)) .none kV15 dc15 pm15 an15 cd15 ct15), sl15⟩ := l15
  replace c15 : PySem.W.codeIn K cd15 "Goers.last_closing" = true := c15
  have k15 : PySem.W.keepIn K (.ref (He.ma K (He.ga K "Goers") "last_closing")) = true := exF c.xs 100 rfl
  have a16 : PySem.W.findIn K (.ref (He.ga K "Goers")) "__init__" = some (some (.ref (He.ma K (He.ga K "Goers") "__init__"))) := of_decide_eq_true (exF c.xs 101 rfl)
  have i16 : PySem.W.isFn K (.ref (He.ma K (He.ga K "Goers") "__init__")) = true := exF c.xs 102 rfl
  obtain ⟨oc16, od16, kV16, dc16, pm16, an16, cd16, ct16, sl16, l16, c16⟩ := FnQ.get0 (c.fns 16 _ rfl).1 (c.fns 16 _ rfl).2 rfl
  replace l16 : K.lookup (He.ma K (He.ga K "Goers") "__init__") = some ⟨oc16, od16, .func (PySem.W.fnOf "__init__" "Goers.__init__" (defArgs (inClass (topS 24) 0)) (defBody (inClass (topS 24) 0)) (defScope (inClass (topS 24) 0)) .none kV16 dc16 pm16 an16 cd16 ct16), sl16⟩ := l16
  replace c16 : PySem.W.codeIn K cd16 "Goers.__init__" = true := c16
  have k16 : PySem.W.keepIn K (.ref (He.ma K (He.ga K "Goers") "__init__")) = true := exF c.xs 103 rfl
  have a17 : PySem.W.findIn K (.ref (He.ga K "Goers")) "ranges" = some (some (.ref (He.ma K (He.ga K "Goers") "ranges"))) := of_decide_eq_true (exF c.xs 104 rfl)
  have i17 : PySem.W.isFn K (.ref (He.ma K (He.ga K "Goers") "ranges")) = true := exF c.xs 105 rfl
  obtain ⟨oc17, od17, kV17, dc17, pm17, an17, cd17, ct17, sl17, l17, c17⟩ := FnQ.get0 (c.fns 17 _ rfl).1 (c.fns 17 _ rfl).2 rfl
  replace l17 : K.lookup (He.ma K (He.ga K "Goers") "ranges") = some ⟨oc17, od17, .func (PySem.W.fnOf "ranges" "Goers.ranges" (defArgs (inClass (topS 24) 8)) (defBody (inClass (topS 24) 8)) (defScope (inClass (topS 24) 8)) .none kV17 dc17 pm17 an17 cd17 ct17), sl17⟩ := l17
  replace c17 : PySem.W.codeIn K cd17 "Goers.ranges" = true := c17
  have k17 : PySem.W.keepIn K (.ref (He.ma K (He.ga K "Goers") "ranges")) = true := exF c.xs 106 rfl
  have a18 : PySem.W.nsIn K mainGlobals "closing_starts" = some (some (.ref (He.ga K "closing_starts"))) := of_decide_eq_true (exF c.xs 107 rfl)
  obtain ⟨oc18, od18, kV18, dc18, pm18, an18, cd18, ct18, sl18, l18, c18⟩ := FnQ.get0 (c.fns 18 _ rfl).1 (c.fns 18 _ rfl).2 rfl
  replace l18 : K.lookup (He.ga K "closing_starts") = some ⟨oc18, od18, .func (PySem.W.fnOf "closing_starts" "closing_starts" (defArgs (topS 25)) (defBody (topS 25)) (defScope (topS 25)) .none kV18 dc18 pm18 an18 cd18 ct18), sl18⟩ := l18
  replace c18 : PySem.W.codeIn K cd18 "closing_starts" = true := c18
  have k18 : PySem.W.keepIn K (.ref (He.ga K "closing_starts")) = true := exF c.xs 108 rfl
  have a19 : PySem.W.nsIn K mainGlobals "open_starts" = some (some (.ref (He.ga K "open_starts"))) := of_decide_eq_true (exF c.xs 109 rfl)
  obtain ⟨oc19, od19, kV19, dc19, pm19, an19, cd19, ct19, sl19, l19, c19⟩ := FnQ.get0 (c.fns 19 _ rfl).1 (c.fns 19 _ rfl).2 rfl
  replace l19 : K.lookup (He.ga K "open_starts") = some ⟨oc19, od19, .func (PySem.W.fnOf "open_starts" "open_starts" (defArgs (topS 26)) (defBody (topS 26)) (defScope (topS 26)) .none kV19 dc19 pm19 an19 cd19 ct19), sl19⟩ := l19
  replace c19 : PySem.W.codeIn K cd19 "open_starts" = true := c19
  have k19 : PySem.W.keepIn K (.ref (He.ga K "open_starts")) = true := exF c.xs 110 rfl
  have a20 : PySem.W.nsIn K mainGlobals "starts" = some (some (.ref (He.ga K "starts"))) := of_decide_eq_true (exF c.xs 111 rfl)
  obtain ⟨oc20, od20, kV20, dc20, pm20, an20, cd20, ct20, sl20, l20, c20⟩ := FnQ.get0 (c.fns 20 _ rfl).1 (c.fns 20 _ rfl).2 rfl
  replace l20 : K.lookup (He.ga K "starts") = some ⟨oc20, od20, .func (PySem.W.fnOf "starts" "starts" (defArgs (topS 27)) (defBody (topS 27)) (defScope (topS 27)) .none kV20 dc20 pm20 an20 cd20 ct20), sl20⟩ := l20
  replace c20 : PySem.W.codeIn K cd20 "starts" = true := c20
  have k20 : PySem.W.keepIn K (.ref (He.ga K "starts")) = true := exF c.xs 112 rfl
  have a21 : PySem.W.nsIn K mainGlobals "all_ends" = some (some (.ref (He.ga K "all_ends"))) := of_decide_eq_true (exF c.xs 113 rfl)
  obtain ⟨oc21, od21, kV21, dc21, pm21, an21, cd21, ct21, sl21, l21, c21⟩ := FnQ.get0 (c.fns 21 _ rfl).1 (c.fns 21 _ rfl).2 rfl
  replace l21 : K.lookup (He.ga K "all_ends") = some ⟨oc21, od21, .func (PySem.W.fnOf "all_ends" "all_ends" (defArgs (topS 32)) (defBody (topS 32)) (defScope (topS 32)) .none kV21 dc21 pm21 an21 cd21 ct21), sl21⟩ := l21
  replace c21 : PySem.W.codeIn K cd21 "all_ends" = true := c21
  have k21 : PySem.W.keepIn K (.ref (He.ga K "all_ends")) = true := exF c.xs 114 rfl
  have a22 : PySem.W.nsIn K mainGlobals "counted_states" = some (some (.ref (He.ga K "counted_states"))) := of_decide_eq_true (exF c.xs 115 rfl)
  obtain ⟨oc22, od22, kV22, dc22, pm22, an22, cd22, ct22, sl22, l22, c22⟩ := FnQ.get0 (c.fns 22 _ rfl).1 (c.fns 22 _ rfl).2 rfl
  replace l22 : K.lookup (He.ga K "counted_states") = some ⟨oc22, od22, .func (PySem.W.fnOf "counted_states" "counted_states" (defArgs (topS 33)) (defBody (topS 33)) (defScope (topS 33)) .none kV22 dc22 pm22 an22 cd22 ct22), sl22⟩ := l22
  replace c22 : PySem.W.codeIn K cd22 "counted_states" = true := c22
  have k22 : PySem.W.keepIn K (.ref (He.ga K "counted_states")) = true := exF c.xs 116 rfl
  have a23 : PySem.W.nsIn K mainGlobals "states" = some (some (.ref (He.ga K "states"))) := of_decide_eq_true (exF c.xs 117 rfl)
  obtain ⟨oc23, od23, kV23, dc23, pm23, an23, cd23, ct23, sl23, l23, c23⟩ := FnQ.get0 (c.fns 23 _ rfl).1 (c.fns 23 _ rfl).2 rfl
  replace l23 : K.lookup (He.ga K "states") = some ⟨oc23, od23, .func (PySem.W.fnOf "states" "states" (defArgs (topS 34)) (defBody (topS 34)) (defScope (topS 34)) .none kV23 dc23 pm23 an23 cd23 ct23), sl23⟩ := l23
  replace c23 : PySem.W.codeIn K cd23 "states" = true := c23
  have k23 : PySem.W.keepIn K (.ref (He.ga K "states")) = true := exF c.xs 118 rfl
  have a24 : PySem.W.nsIn K mainGlobals "lines_of" = some (some (.ref (He.ga K "lines_of"))) := of_decide_eq_true (exF c.xs 119 rfl)
  obtain ⟨oc24, od24, kV24, dc24, pm24, an24, cd24, ct24, sl24, l24, c24⟩ := FnQ.get0 (c.fns 24 _ rfl).1 (c.fns 24 _ rfl).2 rfl
  replace l24 : K.lookup (He.ga K "lines_of") = some ⟨oc24, od24, .func (PySem.W.fnOf "lines_of" "lines_of" (defArgs (topS 20)) (defBody (topS 20)) (defScope (topS 20)) .none kV24 dc24 pm24 an24 cd24 ct24), sl24⟩ := l24
  replace c24 : PySem.W.codeIn K cd24 "lines_of" = true := c24
  have k24 : PySem.W.keepIn K (.ref (He.ga K "lines_of")) = true := exF c.xs 120 rfl
  have a25 : PySem.W.nsIn K mainGlobals "settled_ends" = some (some (.ref (He.ga K "settled_ends"))) := of_decide_eq_true (exF c.xs 121 rfl)
  obtain ⟨oc25, od25, kV25, dc25, pm25, an25, cd25, ct25, sl25, l25, c25⟩ := FnQ.get0 (c.fns 25 _ rfl).1 (c.fns 25 _ rfl).2 rfl
  replace l25 : K.lookup (He.ga K "settled_ends") = some ⟨oc25, od25, .func (PySem.W.fnOf "settled_ends" "settled_ends" (defArgs (topS 35)) (defBody (topS 35)) (defScope (topS 35)) .none kV25 dc25 pm25 an25 cd25 ct25), sl25⟩ := l25
  replace c25 : PySem.W.codeIn K cd25 "settled_ends" = true := c25
  have k25 : PySem.W.keepIn K (.ref (He.ga K "settled_ends")) = true := exF c.xs 122 rfl
  have a26 : PySem.W.nsIn K mainGlobals "settled_lines" = some (some (.ref (He.ga K "settled_lines"))) := of_decide_eq_true (exF c.xs 123 rfl)
  obtain ⟨oc26, od26, kV26, dc26, pm26, an26, cd26, ct26, sl26, l26, c26⟩ := FnQ.get0 (c.fns 26 _ rfl).1 (c.fns 26 _ rfl).2 rfl
  replace l26 : K.lookup (He.ga K "settled_lines") = some ⟨oc26, od26, .func (PySem.W.fnOf "settled_lines" "settled_lines" (defArgs (topS 36)) (defBody (topS 36)) (defScope (topS 36)) .none kV26 dc26 pm26 an26 cd26 ct26), sl26⟩ := l26
  replace c26 : PySem.W.codeIn K cd26 "settled_lines" = true := c26
  have k26 : PySem.W.keepIn K (.ref (He.ga K "settled_lines")) = true := exF c.xs 124 rfl
  have a27 : PySem.W.nsIn K mainGlobals "_law_well" = some (some (.ref (He.ga K "_law_well"))) := of_decide_eq_true (exF c.xs 125 rfl)
  obtain ⟨oc27, od27, kV27, dc27, pm27, an27, cd27, ct27, sl27, l27, c27⟩ := FnQ.get0 (c.fns 27 _ rfl).1 (c.fns 27 _ rfl).2 rfl
  replace l27 : K.lookup (He.ga K "_law_well") = some ⟨oc27, od27, .func (PySem.W.fnOf "_law_well" "_law_well" (defArgs (topS 45)) (defBody (topS 45)) (defScope (topS 45)) .none kV27 dc27 pm27 an27 cd27 ct27), sl27⟩ := l27
  replace c27 : PySem.W.codeIn K cd27 "_law_well" = true := c27
  have k27 : PySem.W.keepIn K (.ref (He.ga K "_law_well")) = true := exF c.xs 126 rfl
  have a28 : PySem.W.nsIn K mainGlobals "_law_draw" = some (some (.ref (He.ga K "_law_draw"))) := of_decide_eq_true (exF c.xs 127 rfl)
  obtain ⟨oc28, od28, kV28, dc28, pm28, an28, cd28, ct28, sl28, l28, c28⟩ := FnQ.get0 (c.fns 28 _ rfl).1 (c.fns 28 _ rfl).2 rfl
  replace l28 : K.lookup (He.ga K "_law_draw") = some ⟨oc28, od28, .func (PySem.W.fnOf "_law_draw" "_law_draw" (defArgs (topS 46)) (defBody (topS 46)) (defScope (topS 46)) .none kV28 dc28 pm28 an28 cd28 ct28), sl28⟩ := l28
  replace c28 : PySem.W.codeIn K cd28 "_law_draw" = true := c28
  have k28 : PySem.W.keepIn K (.ref (He.ga K "_law_draw")) = true := exF c.xs 128 rfl
  have a29 : PySem.W.nsIn K mainGlobals "_law_pick" = some (some (.ref (He.ga K "_law_pick"))) := of_decide_eq_true (exF c.xs 129 rfl)
  obtain ⟨oc29, od29, kV29, dc29, pm29, an29, cd29, ct29, sl29, l29, c29⟩ := FnQ.get0 (c.fns 29 _ rfl).1 (c.fns 29 _ rfl).2 rfl
  replace l29 : K.lookup (He.ga K "_law_pick") = some ⟨oc29, od29, .func (PySem.W.fnOf "_law_pick" "_law_pick" (defArgs (topS 47)) (defBody (topS 47)) (defScope (topS 47)) .none kV29 dc29 pm29 an29 cd29 ct29), sl29⟩ := l29
  replace c29 : PySem.W.codeIn K cd29 "_law_pick" = true := c29
  have k29 : PySem.W.keepIn K (.ref (He.ga K "_law_pick")) = true := exF c.xs 130 rfl
  have a30 : PySem.W.nsIn K mainGlobals "_law_text" = some (some (.ref (He.ga K "_law_text"))) := of_decide_eq_true (exF c.xs 131 rfl)
  obtain ⟨oc30, od30, kV30, dc30, pm30, an30, cd30, ct30, sl30, l30, c30⟩ := FnQ.get0 (c.fns 30 _ rfl).1 (c.fns 30 _ rfl).2 rfl
  replace l30 : K.lookup (He.ga K "_law_text") = some ⟨oc30, od30, .func (PySem.W.fnOf "_law_text" "_law_text" (defArgs (topS 48)) (defBody (topS 48)) (defScope (topS 48)) .none kV30 dc30 pm30 an30 cd30 ct30), sl30⟩ := l30
  replace c30 : PySem.W.codeIn K cd30 "_law_text" = true := c30
  have k30 : PySem.W.keepIn K (.ref (He.ga K "_law_text")) = true := exF c.xs 132 rfl
  have a31 : PySem.W.nsIn K mainGlobals "is_integer" = some (some (.ref (He.ga K "is_integer"))) := of_decide_eq_true (exF c.xs 133 rfl)
  obtain ⟨oc31, od31, kV31, dc31, pm31, an31, cd31, ct31, sl31, l31, c31⟩ := FnQ.get0 (c.fns 31 _ rfl).1 (c.fns 31 _ rfl).2 rfl
  replace l31 : K.lookup (He.ga K "is_integer") = some ⟨oc31, od31, .func (PySem.W.fnOf "is_integer" "is_integer" (defArgs (topS 11)) (defBody (topS 11)) (defScope (topS 11)) .none kV31 dc31 pm31 an31 cd31 ct31), sl31⟩ := l31
  replace c31 : PySem.W.codeIn K cd31 "is_integer" = true := c31
  have k31 : PySem.W.keepIn K (.ref (He.ga K "is_integer")) = true := exF c.xs 134 rfl
  have a32 : PySem.W.nsIn K mainGlobals "is_between" = some (some (.ref (He.ga K "is_between"))) := of_decide_eq_true (exF c.xs 135 rfl)
  obtain ⟨oc32, od32, kV32, dc32, pm32, an32, cd32, ct32, sl32, l32, c32⟩ := FnQ.get0 (c.fns 32 _ rfl).1 (c.fns 32 _ rfl).2 rfl
  replace l32 : K.lookup (He.ga K "is_between") = some ⟨oc32, od32, .func (PySem.W.fnOf "is_between" "is_between" (defArgs (topS 12)) (defBody (topS 12)) (defScope (topS 12)) .none kV32 dc32 pm32 an32 cd32 ct32), sl32⟩ := l32
  replace c32 : PySem.W.codeIn K cd32 "is_between" = true := c32
  have k32 : PySem.W.keepIn K (.ref (He.ga K "is_between")) = true := exF c.xs 136 rfl
  have a33 : PySem.W.nsIn K mainGlobals "is_width" = some (some (.ref (He.ga K "is_width"))) := of_decide_eq_true (exF c.xs 137 rfl)
  obtain ⟨oc33, od33, kV33, dc33, pm33, an33, cd33, ct33, sl33, l33, c33⟩ := FnQ.get0 (c.fns 33 _ rfl).1 (c.fns 33 _ rfl).2 rfl
  replace l33 : K.lookup (He.ga K "is_width") = some ⟨oc33, od33, .func (PySem.W.fnOf "is_width" "is_width" (defArgs (topS 13)) (defBody (topS 13)) (defScope (topS 13)) .none kV33 dc33 pm33 an33 cd33 ct33), sl33⟩ := l33
  replace c33 : PySem.W.codeIn K cd33 "is_width" = true := c33
  have k33 : PySem.W.keepIn K (.ref (He.ga K "is_width")) = true := exF c.xs 138 rfl
  have a34 : PySem.W.nsIn K mainGlobals "are_words" = some (some (.ref (He.ga K "are_words"))) := of_decide_eq_true (exF c.xs 139 rfl)
  obtain ⟨oc34, od34, kV34, dc34, pm34, an34, cd34, ct34, sl34, l34, c34⟩ := FnQ.get0 (c.fns 34 _ rfl).1 (c.fns 34 _ rfl).2 rfl
  replace l34 : K.lookup (He.ga K "are_words") = some ⟨oc34, od34, .func (PySem.W.fnOf "are_words" "are_words" (defArgs (topS 14)) (defBody (topS 14)) (defScope (topS 14)) .none kV34 dc34 pm34 an34 cd34 ct34), sl34⟩ := l34
  replace c34 : PySem.W.codeIn K cd34 "are_words" = true := c34
  have k34 : PySem.W.keepIn K (.ref (He.ga K "are_words")) = true := exF c.xs 140 rfl
  have a35 : PySem.W.nsIn K mainGlobals "is_text" = some (some (.ref (He.ga K "is_text"))) := of_decide_eq_true (exF c.xs 141 rfl)
  obtain ⟨oc35, od35, kV35, dc35, pm35, an35, cd35, ct35, sl35, l35, c35⟩ := FnQ.get0 (c.fns 35 _ rfl).1 (c.fns 35 _ rfl).2 rfl
  replace l35 : K.lookup (He.ga K "is_text") = some ⟨oc35, od35, .func (PySem.W.fnOf "is_text" "is_text" (defArgs (topS 15)) (defBody (topS 15)) (defScope (topS 15)) .none kV35 dc35 pm35 an35 cd35 ct35), sl35⟩ := l35
  replace c35 : PySem.W.codeIn K cd35 "is_text" = true := c35
  have k35 : PySem.W.keepIn K (.ref (He.ga K "is_text")) = true := exF c.xs 142 rfl
  have a36 : PySem.W.findIn K (.ref (He.ga K "BadPlace")) "__init__" = some (some (.ref (He.ma K (He.ga K "BadPlace") "__init__"))) := of_decide_eq_true (exF c.xs 143 rfl)
  have i36 : PySem.W.typeIn K (.ref (He.ma K (He.ga K "BadPlace") "__init__")) = some (.type "function") := of_decide_eq_true (exF c.xs 144 rfl)
  obtain ⟨oc36, od36, kV36, dc36, pm36, an36, cd36, ct36, sl36, l36, c36⟩ := FnQ.get0 (c.fns 36 _ rfl).1 (c.fns 36 _ rfl).2 rfl
  replace l36 : K.lookup (He.ma K (He.ga K "BadPlace") "__init__") = some ⟨oc36, od36, .func (PySem.W.fnOf "__init__" "BadPlace.__init__" (defArgs (inClass (topS 3) 0)) (defBody (inClass (topS 3) 0)) (defScope (inClass (topS 3) 0)) .none kV36 dc36 pm36 an36 cd36 ct36), sl36⟩ := l36
  replace c36 : PySem.W.codeIn K cd36 "BadPlace.__init__" = true := c36
  have k36 : PySem.W.keepIn K (.ref (He.ma K (He.ga K "BadPlace") "__init__")) = true := exF c.xs 145 rfl
  have a37 : PySem.W.findIn K (.ref (He.ga K "NothingToUndo")) "__init__" = some (some (.ref (He.ma K (He.ga K "NothingToUndo") "__init__"))) := of_decide_eq_true (exF c.xs 146 rfl)
  have i37 : PySem.W.typeIn K (.ref (He.ma K (He.ga K "NothingToUndo") "__init__")) = some (.type "function") := of_decide_eq_true (exF c.xs 147 rfl)
  obtain ⟨oc37, od37, kV37, dc37, pm37, an37, cd37, ct37, sl37, l37, c37⟩ := FnQ.get0 (c.fns 37 _ rfl).1 (c.fns 37 _ rfl).2 rfl
  replace l37 : K.lookup (He.ma K (He.ga K "NothingToUndo") "__init__") = some ⟨oc37, od37, .func (PySem.W.fnOf "__init__" "NothingToUndo.__init__" (defArgs (inClass (topS 7) 0)) (defBody (inClass (topS 7) 0)) (defScope (inClass (topS 7) 0)) .none kV37 dc37 pm37 an37 cd37 ct37), sl37⟩ := l37
  replace c37 : PySem.W.codeIn K cd37 "NothingToUndo.__init__" = true := c37
  have k37 : PySem.W.keepIn K (.ref (He.ma K (He.ga K "NothingToUndo") "__init__")) = true := exF c.xs 148 rfl
  have a38 : PySem.W.nsIn K mainGlobals "check_width" = some (some (.ref (He.ga K "check_width"))) := of_decide_eq_true (exF c.xs 149 rfl)
  obtain ⟨oc38, od38, kV38, dc38, pm38, an38, cd38, ct38, sl38, l38, c38⟩ := FnQ.get0 (c.fns 38 _ rfl).1 (c.fns 38 _ rfl).2 rfl
  replace l38 : K.lookup (He.ga K "check_width") = some ⟨oc38, od38, .func (PySem.W.fnOf "check_width" "check_width" (defArgs (topS 42)) (defBody (topS 42)) (defScope (topS 42)) .none kV38 dc38 pm38 an38 cd38 ct38), sl38⟩ := l38
  replace c38 : PySem.W.codeIn K cd38 "check_width" = true := c38
  have k38 : PySem.W.keepIn K (.ref (He.ga K "check_width")) = true := exF c.xs 150 rfl
  have a39 : PySem.W.findIn K (.ref (He.ga K "Paragraph")) "__init__" = some (some (.ref (He.ma K (He.ga K "Paragraph") "__init__"))) := of_decide_eq_true (exF c.xs 151 rfl)
  have i39 : PySem.W.isFn K (.ref (He.ma K (He.ga K "Paragraph") "__init__")) = true := exF c.xs 152 rfl
  obtain ⟨oc39, od39, kV39, dc39, pm39, an39, cd39, ct39, sl39, T39, oT39, dT39, dv39, nT39, sT39, l39, c39, d39⟩ := FnQ.get1 (c.fns 39 _ rfl).1 (c.fns 39 _ rfl).2 rfl
  replace l39 : K.lookup (He.ma K (He.ga K "Paragraph") "__init__") = some ⟨oc39, od39, .func (PySem.W.fnOf "__init__" "Paragraph.__init__" (defArgs (inClass (topS 43) 0)) (defBody (inClass (topS 43) 0)) (defScope (inClass (topS 43) 0)) (.ref T39) kV39 dc39 pm39 an39 cd39 ct39), sl39⟩ := l39
  replace c39 : PySem.W.codeIn K cd39 "Paragraph.__init__" = true := c39
  have k39 : PySem.W.keepIn K (.ref (He.ma K (He.ga K "Paragraph") "__init__")) = true := exF c.xs 153 rfl
  have a40 : PySem.W.findIn K (.ref (He.ga K "Paragraph")) "width" = some (some (.ref (He.ma K (He.ga K "Paragraph") "width"))) := of_decide_eq_true (exF c.xs 154 rfl)
  have g_40 : PySem.W.specialIn K (.ref (He.ma K (He.ga K "Paragraph") "width")) "__get__" = some (some (.builtin "property.__get__")) := of_decide_eq_true (exF c.xs 155 rfl)
  have t40 : PySem.W.takesIn K (.ref (He.ma K (He.ga K "Paragraph") "width")) = some true := of_decide_eq_true (exF c.xs 156 rfl)
  obtain ⟨rs40, r40⟩ := rcB_ok (show rcB K (He.ma K (He.ga K "Paragraph") "width") "property" = true from exF c.xs 157 rfl)
  obtain ⟨oc40, od40, kV40, dc40, pm40, an40, cd40, ct40, sl40, l40, c40⟩ := FnQ.get0 (c.fns 40 _ rfl).1 (c.fns 40 _ rfl).2 rfl
  replace l40 : K.lookup (rcAt K (He.ma K (He.ga K "Paragraph") "width") "property") = some ⟨oc40, od40, .func (PySem.W.fnOf "width" "Paragraph.width" (defArgs (inClass (topS 43) 1)) (defBody (inClass (topS 43) 1)) (defScope (inClass (topS 43) 1)) .none kV40 dc40 pm40 an40 cd40 ct40), sl40⟩ := l40
  replace c40 : PySem.W.codeIn K cd40 "Paragraph.width" = true := c40
  have k40 : PySem.W.keepIn K (.ref (rcAt K (He.ma K (He.ga K "Paragraph") "width") "property")) = true := exF c.xs 158 rfl
  have a41 : PySem.W.findIn K (.ref (He.ga K "Paragraph")) "text" = some (some (.ref (He.ma K (He.ga K "Paragraph") "text"))) := of_decide_eq_true (exF c.xs 159 rfl)
  have g_41 : PySem.W.specialIn K (.ref (He.ma K (He.ga K "Paragraph") "text")) "__get__" = some (some (.builtin "property.__get__")) := of_decide_eq_true (exF c.xs 160 rfl)
  have t41 : PySem.W.takesIn K (.ref (He.ma K (He.ga K "Paragraph") "text")) = some true := of_decide_eq_true (exF c.xs 161 rfl)
  obtain ⟨rs41, r41⟩ := rcB_ok (show rcB K (He.ma K (He.ga K "Paragraph") "text") "property" = true from exF c.xs 162 rfl)
  obtain ⟨oc41, od41, kV41, dc41, pm41, an41, cd41, ct41, sl41, l41, c41⟩ := FnQ.get0 (c.fns 41 _ rfl).1 (c.fns 41 _ rfl).2 rfl
  replace l41 : K.lookup (rcAt K (He.ma K (He.ga K "Paragraph") "text") "property") = some ⟨oc41, od41, .func (PySem.W.fnOf "text" "Paragraph.text" (defArgs (inClass (topS 43) 2)) (defBody (inClass (topS 43) 2)) (defScope (inClass (topS 43) 2)) .none kV41 dc41 pm41 an41 cd41 ct41), sl41⟩ := l41
  replace c41 : PySem.W.codeIn K cd41 "Paragraph.text" = true := c41
  have k41 : PySem.W.keepIn K (.ref (rcAt K (He.ma K (He.ga K "Paragraph") "text") "property")) = true := exF c.xs 163 rfl
  have a42 : PySem.W.findIn K (.ref (He.ga K "Paragraph")) "__len__" = some (some (.ref (He.ma K (He.ga K "Paragraph") "__len__"))) := of_decide_eq_true (exF c.xs 164 rfl)
  have i42 : PySem.W.isFn K (.ref (He.ma K (He.ga K "Paragraph") "__len__")) = true := exF c.xs 165 rfl
  obtain ⟨oc42, od42, kV42, dc42, pm42, an42, cd42, ct42, sl42, l42, c42⟩ := FnQ.get0 (c.fns 42 _ rfl).1 (c.fns 42 _ rfl).2 rfl
  replace l42 : K.lookup (He.ma K (He.ga K "Paragraph") "__len__") = some ⟨oc42, od42, .func (PySem.W.fnOf "__len__" "Paragraph.__len__" (defArgs (inClass (topS 43) 4)) (defBody (inClass (topS 43) 4)) (defScope (inClass (topS 43) 4)) .none kV42 dc42 pm42 an42 cd42 ct42), sl42⟩ := l42
  replace c42 : PySem.W.codeIn K cd42 "Paragraph.__len__" = true := c42
  have k42 : PySem.W.keepIn K (.ref (He.ma K (He.ga K "Paragraph") "__len__")) = true := exF c.xs 166 rfl
  have a43 : PySem.W.findIn K (.ref (He.ga K "Paragraph")) "edits" = some (some (.ref (He.ma K (He.ga K "Paragraph") "edits"))) := of_decide_eq_true (exF c.xs 167 rfl)
  have i43 : PySem.W.isFn K (.ref (He.ma K (He.ga K "Paragraph") "edits")) = true := exF c.xs 168 rfl
  obtain ⟨oc43, od43, kV43, dc43, pm43, an43, cd43, ct43, sl43, l43, c43⟩ := FnQ.get0 (c.fns 43 _ rfl).1 (c.fns 43 _ rfl).2 rfl
  replace l43 : K.lookup (He.ma K (He.ga K "Paragraph") "edits") = some ⟨oc43, od43, .func (PySem.W.fnOf "edits" "Paragraph.edits" (defArgs (inClass (topS 43) 15)) (defBody (inClass (topS 43) 15)) (defScope (inClass (topS 43) 15)) .none kV43 dc43 pm43 an43 cd43 ct43), sl43⟩ := l43
  replace c43 : PySem.W.codeIn K cd43 "Paragraph.edits" = true := c43
  have k43 : PySem.W.keepIn K (.ref (He.ma K (He.ga K "Paragraph") "edits")) = true := exF c.xs 169 rfl
  have a44 : PySem.W.findIn K (.ref (He.ga K "Paragraph")) "check_place" = some (some (.ref (He.ma K (He.ga K "Paragraph") "check_place"))) := of_decide_eq_true (exF c.xs 170 rfl)
  have i44 : PySem.W.isFn K (.ref (He.ma K (He.ga K "Paragraph") "check_place")) = true := exF c.xs 171 rfl
  obtain ⟨oc44, od44, kV44, dc44, pm44, an44, cd44, ct44, sl44, l44, c44⟩ := FnQ.get0 (c.fns 44 _ rfl).1 (c.fns 44 _ rfl).2 rfl
  replace l44 : K.lookup (He.ma K (He.ga K "Paragraph") "check_place") = some ⟨oc44, od44, .func (PySem.W.fnOf "check_place" "Paragraph.check_place" (defArgs (inClass (topS 43) 8)) (defBody (inClass (topS 43) 8)) (defScope (inClass (topS 43) 8)) .none kV44 dc44 pm44 an44 cd44 ct44), sl44⟩ := l44
  replace c44 : PySem.W.codeIn K cd44 "Paragraph.check_place" = true := c44
  have k44 : PySem.W.keepIn K (.ref (He.ma K (He.ga K "Paragraph") "check_place")) = true := exF c.xs 172 rfl
  have a45 : PySem.W.findIn K (.ref (He.ga K "Paragraph")) "change" = some (some (.ref (He.ma K (He.ga K "Paragraph") "change"))) := of_decide_eq_true (exF c.xs 173 rfl)
  have i45 : PySem.W.isFn K (.ref (He.ma K (He.ga K "Paragraph") "change")) = true := exF c.xs 174 rfl
  obtain ⟨oc45, od45, kV45, dc45, pm45, an45, cd45, ct45, sl45, l45, c45⟩ := FnQ.get0 (c.fns 45 _ rfl).1 (c.fns 45 _ rfl).2 rfl
  replace l45 : K.lookup (He.ma K (He.ga K "Paragraph") "change") = some ⟨oc45, od45, .func (PySem.W.fnOf "change" "Paragraph.change" (defArgs (inClass (topS 43) 9)) (defBody (inClass (topS 43) 9)) (defScope (inClass (topS 43) 9)) .none kV45 dc45 pm45 an45 cd45 ct45), sl45⟩ := l45
  replace c45 : PySem.W.codeIn K cd45 "Paragraph.change" = true := c45
  have k45 : PySem.W.keepIn K (.ref (He.ma K (He.ga K "Paragraph") "change")) = true := exF c.xs 175 rfl
  have a46 : PySem.W.findIn K (.ref (He.ga K "Paragraph")) "firm" = some (some (.ref (He.ma K (He.ga K "Paragraph") "firm"))) := of_decide_eq_true (exF c.xs 176 rfl)
  have i46 : PySem.W.isFn K (.ref (He.ma K (He.ga K "Paragraph") "firm")) = true := exF c.xs 177 rfl
  obtain ⟨oc46, od46, kV46, dc46, pm46, an46, cd46, ct46, sl46, l46, c46⟩ := FnQ.get0 (c.fns 46 _ rfl).1 (c.fns 46 _ rfl).2 rfl
  replace l46 : K.lookup (He.ma K (He.ga K "Paragraph") "firm") = some ⟨oc46, od46, .func (PySem.W.fnOf "firm" "Paragraph.firm" (defArgs (inClass (topS 43) 13)) (defBody (inClass (topS 43) 13)) (defScope (inClass (topS 43) 13)) .none kV46 dc46 pm46 an46 cd46 ct46), sl46⟩ := l46
  replace c46 : PySem.W.codeIn K cd46 "Paragraph.firm" = true := c46
  have k46 : PySem.W.keepIn K (.ref (He.ma K (He.ga K "Paragraph") "firm")) = true := exF c.xs 178 rfl
  have a47 : PySem.W.findIn K (.ref (He.ga K "Paragraph")) "insert" = some (some (.ref (He.ma K (He.ga K "Paragraph") "insert"))) := of_decide_eq_true (exF c.xs 179 rfl)
  have i47 : PySem.W.isFn K (.ref (He.ma K (He.ga K "Paragraph") "insert")) = true := exF c.xs 180 rfl
  obtain ⟨oc47, od47, kV47, dc47, pm47, an47, cd47, ct47, sl47, l47, c47⟩ := FnQ.get0 (c.fns 47 _ rfl).1 (c.fns 47 _ rfl).2 rfl
  replace l47 : K.lookup (He.ma K (He.ga K "Paragraph") "insert") = some ⟨oc47, od47, .func (PySem.W.fnOf "insert" "Paragraph.insert" (defArgs (inClass (topS 43) 10)) (defBody (inClass (topS 43) 10)) (defScope (inClass (topS 43) 10)) .none kV47 dc47 pm47 an47 cd47 ct47), sl47⟩ := l47
  replace c47 : PySem.W.codeIn K cd47 "Paragraph.insert" = true := c47
  have k47 : PySem.W.keepIn K (.ref (He.ma K (He.ga K "Paragraph") "insert")) = true := exF c.xs 181 rfl
  have a48 : PySem.W.findIn K (.ref (He.ga K "Paragraph")) "remove" = some (some (.ref (He.ma K (He.ga K "Paragraph") "remove"))) := of_decide_eq_true (exF c.xs 182 rfl)
  have i48 : PySem.W.isFn K (.ref (He.ma K (He.ga K "Paragraph") "remove")) = true := exF c.xs 183 rfl
  obtain ⟨oc48, od48, kV48, dc48, pm48, an48, cd48, ct48, sl48, l48, c48⟩ := FnQ.get0 (c.fns 48 _ rfl).1 (c.fns 48 _ rfl).2 rfl
  replace l48 : K.lookup (He.ma K (He.ga K "Paragraph") "remove") = some ⟨oc48, od48, .func (PySem.W.fnOf "remove" "Paragraph.remove" (defArgs (inClass (topS 43) 11)) (defBody (inClass (topS 43) 11)) (defScope (inClass (topS 43) 11)) .none kV48 dc48 pm48 an48 cd48 ct48), sl48⟩ := l48
  replace c48 : PySem.W.codeIn K cd48 "Paragraph.remove" = true := c48
  have k48 : PySem.W.keepIn K (.ref (He.ma K (He.ga K "Paragraph") "remove")) = true := exF c.xs 184 rfl
  have a49 : PySem.W.findIn K (.ref (He.ga K "Paragraph")) "widen" = some (some (.ref (He.ma K (He.ga K "Paragraph") "widen"))) := of_decide_eq_true (exF c.xs 185 rfl)
  have i49 : PySem.W.isFn K (.ref (He.ma K (He.ga K "Paragraph") "widen")) = true := exF c.xs 186 rfl
  obtain ⟨oc49, od49, kV49, dc49, pm49, an49, cd49, ct49, sl49, l49, c49⟩ := FnQ.get0 (c.fns 49 _ rfl).1 (c.fns 49 _ rfl).2 rfl
  replace l49 : K.lookup (He.ma K (He.ga K "Paragraph") "widen") = some ⟨oc49, od49, .func (PySem.W.fnOf "widen" "Paragraph.widen" (defArgs (inClass (topS 43) 12)) (defBody (inClass (topS 43) 12)) (defScope (inClass (topS 43) 12)) .none kV49 dc49 pm49 an49 cd49 ct49), sl49⟩ := l49
  replace c49 : PySem.W.codeIn K cd49 "Paragraph.widen" = true := c49
  have k49 : PySem.W.keepIn K (.ref (He.ma K (He.ga K "Paragraph") "widen")) = true := exF c.xs 187 rfl
  have a50 : PySem.W.findIn K (.ref (He.ga K "Paragraph")) "undo" = some (some (.ref (He.ma K (He.ga K "Paragraph") "undo"))) := of_decide_eq_true (exF c.xs 188 rfl)
  have i50 : PySem.W.isFn K (.ref (He.ma K (He.ga K "Paragraph") "undo")) = true := exF c.xs 189 rfl
  obtain ⟨oc50, od50, kV50, dc50, pm50, an50, cd50, ct50, sl50, l50, c50⟩ := FnQ.get0 (c.fns 50 _ rfl).1 (c.fns 50 _ rfl).2 rfl
  replace l50 : K.lookup (He.ma K (He.ga K "Paragraph") "undo") = some ⟨oc50, od50, .func (PySem.W.fnOf "undo" "Paragraph.undo" (defArgs (inClass (topS 43) 14)) (defBody (inClass (topS 43) 14)) (defScope (inClass (topS 43) 14)) .none kV50 dc50 pm50 an50 cd50 ct50), sl50⟩ := l50
  replace c50 : PySem.W.codeIn K cd50 "Paragraph.undo" = true := c50
  have k50 : PySem.W.keepIn K (.ref (He.ma K (He.ga K "Paragraph") "undo")) = true := exF c.xs 190 rfl
  have a51 : PySem.W.findIn K (.ref (He.ga K "Paragraph")) "layout" = some (some (.ref (He.ma K (He.ga K "Paragraph") "layout"))) := of_decide_eq_true (exF c.xs 191 rfl)
  have i51 : PySem.W.isFn K (.ref (He.ma K (He.ga K "Paragraph") "layout")) = true := exF c.xs 192 rfl
  obtain ⟨oc51, od51, kV51, dc51, pm51, an51, cd51, ct51, sl51, l51, c51⟩ := FnQ.get0 (c.fns 51 _ rfl).1 (c.fns 51 _ rfl).2 rfl
  replace l51 : K.lookup (He.ma K (He.ga K "Paragraph") "layout") = some ⟨oc51, od51, .func (PySem.W.fnOf "layout" "Paragraph.layout" (defArgs (inClass (topS 43) 6)) (defBody (inClass (topS 43) 6)) (defScope (inClass (topS 43) 6)) .none kV51 dc51 pm51 an51 cd51 ct51), sl51⟩ := l51
  replace c51 : PySem.W.codeIn K cd51 "Paragraph.layout" = true := c51
  have k51 : PySem.W.keepIn K (.ref (He.ma K (He.ga K "Paragraph") "layout")) = true := exF c.xs 193 rfl
  have a52 : PySem.W.findIn K (.ref (He.ga K "Paragraph")) "cost" = some (some (.ref (He.ma K (He.ga K "Paragraph") "cost"))) := of_decide_eq_true (exF c.xs 194 rfl)
  have i52 : PySem.W.isFn K (.ref (He.ma K (He.ga K "Paragraph") "cost")) = true := exF c.xs 195 rfl
  obtain ⟨oc52, od52, kV52, dc52, pm52, an52, cd52, ct52, sl52, l52, c52⟩ := FnQ.get0 (c.fns 52 _ rfl).1 (c.fns 52 _ rfl).2 rfl
  replace l52 : K.lookup (He.ma K (He.ga K "Paragraph") "cost") = some ⟨oc52, od52, .func (PySem.W.fnOf "cost" "Paragraph.cost" (defArgs (inClass (topS 43) 7)) (defBody (inClass (topS 43) 7)) (defScope (inClass (topS 43) 7)) .none kV52 dc52 pm52 an52 cd52 ct52), sl52⟩ := l52
  replace c52 : PySem.W.codeIn K cd52 "Paragraph.cost" = true := c52
  have k52 : PySem.W.keepIn K (.ref (He.ma K (He.ga K "Paragraph") "cost")) = true := exF c.xs 196 rfl
  have a53 : PySem.W.findIn K (.ref (He.ga K "Paragraph")) "__eq__" = some (some (.ref (He.ma K (He.ga K "Paragraph") "__eq__"))) := of_decide_eq_true (exF c.xs 197 rfl)
  have i53 : PySem.W.isFn K (.ref (He.ma K (He.ga K "Paragraph") "__eq__")) = true := exF c.xs 198 rfl
  obtain ⟨oc53, od53, kV53, dc53, pm53, an53, cd53, ct53, sl53, l53, c53⟩ := FnQ.get0 (c.fns 53 _ rfl).1 (c.fns 53 _ rfl).2 rfl
  replace l53 : K.lookup (He.ma K (He.ga K "Paragraph") "__eq__") = some ⟨oc53, od53, .func (PySem.W.fnOf "__eq__" "Paragraph.__eq__" (defArgs (inClass (topS 43) 3)) (defBody (inClass (topS 43) 3)) (defScope (inClass (topS 43) 3)) .none kV53 dc53 pm53 an53 cd53 ct53), sl53⟩ := l53
  replace c53 : PySem.W.codeIn K cd53 "Paragraph.__eq__" = true := c53
  have k53 : PySem.W.keepIn K (.ref (He.ma K (He.ga K "Paragraph") "__eq__")) = true := exF c.xs 199 rfl
  have a54 : PySem.W.nsIn K mainGlobals "_law_answers" = some (some (.ref (He.ga K "_law_answers"))) := of_decide_eq_true (exF c.xs 200 rfl)
  obtain ⟨oc54, od54, kV54, dc54, pm54, an54, cd54, ct54, sl54, l54, c54⟩ := FnQ.get0 (c.fns 54 _ rfl).1 (c.fns 54 _ rfl).2 rfl
  replace l54 : K.lookup (He.ga K "_law_answers") = some ⟨oc54, od54, .func (PySem.W.fnOf "_law_answers" "_law_answers" (defArgs (topS 49)) (defBody (topS 49)) (defScope (topS 49)) .none kV54 dc54 pm54 an54 cd54 ct54), sl54⟩ := l54
  replace c54 : PySem.W.codeIn K cd54 "_law_answers" = true := c54
  have k54 : PySem.W.keepIn K (.ref (He.ga K "_law_answers")) = true := exF c.xs 201 rfl
  have a55 : PySem.W.nsIn K mainGlobals "_law_together" = some (some (.ref (He.ga K "_law_together"))) := of_decide_eq_true (exF c.xs 202 rfl)
  obtain ⟨oc55, od55, kV55, dc55, pm55, an55, cd55, ct55, sl55, l55, c55⟩ := FnQ.get0 (c.fns 55 _ rfl).1 (c.fns 55 _ rfl).2 rfl
  replace l55 : K.lookup (He.ga K "_law_together") = some ⟨oc55, od55, .func (PySem.W.fnOf "_law_together" "_law_together" (defArgs (topS 50)) (defBody (topS 50)) (defScope (topS 50)) .none kV55 dc55 pm55 an55 cd55 ct55), sl55⟩ := l55
  replace c55 : PySem.W.codeIn K cd55 "_law_together" = true := c55
  have k55 : PySem.W.keepIn K (.ref (He.ga K "_law_together")) = true := exF c.xs 203 rfl
  have a56 : PySem.W.nsIn K mainGlobals "_law_changed" = some (some (.ref (He.ga K "_law_changed"))) := of_decide_eq_true (exF c.xs 204 rfl)
  obtain ⟨oc56, od56, kV56, dc56, pm56, an56, cd56, ct56, sl56, l56, c56⟩ := FnQ.get0 (c.fns 56 _ rfl).1 (c.fns 56 _ rfl).2 rfl
  replace l56 : K.lookup (He.ga K "_law_changed") = some ⟨oc56, od56, .func (PySem.W.fnOf "_law_changed" "_law_changed" (defArgs (topS 51)) (defBody (topS 51)) (defScope (topS 51)) .none kV56 dc56 pm56 an56 cd56 ct56), sl56⟩ := l56
  replace c56 : PySem.W.codeIn K cd56 "_law_changed" = true := c56
  have k56 : PySem.W.keepIn K (.ref (He.ga K "_law_changed")) = true := exF c.xs 205 rfl
  have a57 : PySem.W.nsIn K mainGlobals "law" = some (some (.ref (He.ga K "law"))) := of_decide_eq_true (exF c.xs 206 rfl)
  obtain ⟨oc57, od57, kV57, dc57, pm57, an57, cd57, ct57, sl57, l57, c57⟩ := FnQ.get0 (c.fns 57 _ rfl).1 (c.fns 57 _ rfl).2 rfl
  replace l57 : K.lookup (He.ga K "law") = some ⟨oc57, od57, .func (PySem.W.fnOf "law" "law" (defArgs (topS 52)) (defBody (topS 52)) (defScope (topS 52)) .none kV57 dc57 pm57 an57 cd57 ct57), sl57⟩ := l57
  replace c57 : PySem.W.codeIn K cd57 "law" = true := c57
  have k57 : PySem.W.keepIn K (.ref (He.ga K "law")) = true := exF c.xs 207 rfl
  have z0 : PySem.W.nsIn K mainGlobals "abs" = some none := of_decide_eq_true (exF c.xs 208 rfl)
  have z1 : PySem.W.nsIn K mainGlobals "all" = some none := of_decide_eq_true (exF c.xs 209 rfl)
  have z2 : PySem.W.nsIn K mainGlobals "bool" = some none := of_decide_eq_true (exF c.xs 210 rfl)
  have z3 : PySem.W.nsIn K mainGlobals "enumerate" = some none := of_decide_eq_true (exF c.xs 211 rfl)
  have z4 : PySem.W.nsIn K mainGlobals "int" = some none := of_decide_eq_true (exF c.xs 212 rfl)
  have z5 : PySem.W.nsIn K mainGlobals "isinstance" = some none := of_decide_eq_true (exF c.xs 213 rfl)
  have z6 : PySem.W.nsIn K mainGlobals "len" = some none := of_decide_eq_true (exF c.xs 214 rfl)
  have z7 : PySem.W.nsIn K mainGlobals "max" = some none := of_decide_eq_true (exF c.xs 215 rfl)
  have z8 : PySem.W.nsIn K mainGlobals "min" = some none := of_decide_eq_true (exF c.xs 216 rfl)
  have z9 : PySem.W.nsIn K mainGlobals "range" = some none := of_decide_eq_true (exF c.xs 217 rfl)
  have z10 : PySem.W.nsIn K mainGlobals "repr" = some none := of_decide_eq_true (exF c.xs 218 rfl)
  have z11 : PySem.W.nsIn K mainGlobals "reversed" = some none := of_decide_eq_true (exF c.xs 219 rfl)
  have z12 : PySem.W.nsIn K mainGlobals "sorted" = some none := of_decide_eq_true (exF c.xs 220 rfl)
  have z13 : PySem.W.nsIn K mainGlobals "tuple" = some none := of_decide_eq_true (exF c.xs 221 rfl)
  have z14 : PySem.W.nsIn K mainGlobals "zip" = some none := of_decide_eq_true (exF c.xs 222 rfl)
  obtain ⟨_, v0⟩ := strQ (show (He.Fa.str "ALWAYS" "always").ok K = true from exF c.xs 223 rfl)
  obtain ⟨_, v1⟩ := intQ (show (He.Fa.int "MOST_WIDTH" 1000000000).ok K = true from exF c.xs 224 rfl)
  obtain ⟨_, v2⟩ := intQ (show (He.Fa.int "MOST_WORDS" 300).ok K = true from exF c.xs 225 rfl)
  obtain ⟨_, v3⟩ := strQ (show (He.Fa.str "NEVER" "never").ok K = true from exF c.xs 226 rfl)
  obtain ⟨_, v4⟩ := strQ (show (He.Fa.str "SOMETIMES" "sometimes").ok K = true from exF c.xs 227 rfl)
  have ebE : eB K (He.ma K (He.ga K "Paragraph") "__init__") = true := exF c.xs 228 rfl
  have evE := dv_is l39 rfl d39 ebE
  subst evE
  refine ⟨[], [(eAt K (He.ma K (He.ga K "Paragraph") "__init__"))], SaysQ.cs X c ([] : List ((PySem.W.Frag → Addr) × Str)) (fun m hm => nomatch hm), cEm.em _ List.mem_cons_self, ?_⟩
  have e := hfa.symm.trans (PySem.W.mg_of X G a57)
  cases e
  have F0 := fun_mk (st := topS 16) l0 c0 k0
  have F1 := fun_mk (st := topS 17) l1 c1 k1
  have F2 := fun_mk (st := inClass (topS 19) 1) l2 c2 k2
  have F3 := fun_mk (st := inClass (topS 19) 2) l3 c3 k3
  have F4 := fun_mk (st := inClass (topS 19) 3) l4 c4 k4
  have F5 := fun_mk (st := inClass (topS 19) 4) l5 c5 k5
  have F6 := fun_mk (st := inClass (topS 19) 0) l6 c6 k6
  have F7 := fun_mk (st := topS 21) l7 c7 k7
  have F8 := fun_mk (st := topS 22) l8 c8 k8
  have F9 := fun_mk (st := inClass (topS 24) 1) l9 c9 k9
  have F10 := fun_mk (st := inClass (topS 24) 2) l10 c10 k10
  have F11 := fun_mk (st := inClass (topS 24) 3) l11 c11 k11
  have F12 := fun_mk (st := inClass (topS 24) 4) l12 c12 k12
  have F13 := fun_mk (st := inClass (topS 24) 5) l13 c13 k13
  have F14 := fun_mk (st := inClass (topS 24) 6) l14 c14 k14
  have F15 := fun_mk (st := inClass (topS 24) 7) l15 c15 k15
  have F16 := fun_mk (st := inClass (topS 24) 0) l16 c16 k16
  have F17 := fun_mk (st := inClass (topS 24) 8) l17 c17 k17
  have F18 := fun_mk (st := topS 25) l18 c18 k18
  have F19 := fun_mk (st := topS 26) l19 c19 k19
  have F20 := fun_mk (st := topS 27) l20 c20 k20
  have F21 := fun_mk (st := topS 32) l21 c21 k21
  have F22 := fun_mk (st := topS 33) l22 c22 k22
  have F23 := fun_mk (st := topS 34) l23 c23 k23
  have F24 := fun_mk (st := topS 20) l24 c24 k24
  have F25 := fun_mk (st := topS 35) l25 c25 k25
  have F26 := fun_mk (st := topS 36) l26 c26 k26
  have F27 := fun_mk (st := topS 45) l27 c27 k27
  have F28 := fun_mk (st := topS 46) l28 c28 k28
  have F29 := fun_mk (st := topS 47) l29 c29 k29
  have F30 := fun_mk (st := topS 48) l30 c30 k30
  have F31 := fun_mk (st := topS 11) l31 c31 k31
  have F32 := fun_mk (st := topS 12) l32 c32 k32
  have F33 := fun_mk (st := topS 13) l33 c33 k33
  have F34 := fun_mk (st := topS 14) l34 c34 k34
  have F35 := fun_mk (st := topS 15) l35 c35 k35
  have F36 := fun_mk (st := inClass (topS 3) 0) l36 c36 k36
  have F37 := fun_mk (st := inClass (topS 7) 0) l37 c37 k37
  have F38 := fun_mk (st := topS 42) l38 c38 k38
  have F39 : FunV K "__init__" "Paragraph.__init__" (inClass (topS 43) 0) (He.ma K (He.ga K "Paragraph") "__init__") _ := ⟨⟨_, _, _, _, _, _, _, _, _, _, rfl, l39, c39⟩⟩
  have F40 := fun_mk (st := inClass (topS 43) 1) l40 c40 k40
  have F41 := fun_mk (st := inClass (topS 43) 2) l41 c41 k41
  have F42 := fun_mk (st := inClass (topS 43) 4) l42 c42 k42
  have F43 := fun_mk (st := inClass (topS 43) 15) l43 c43 k43
  have F44 := fun_mk (st := inClass (topS 43) 8) l44 c44 k44
  have F45 := fun_mk (st := inClass (topS 43) 9) l45 c45 k45
  have F46 := fun_mk (st := inClass (topS 43) 13) l46 c46 k46
  have F47 := fun_mk (st := inClass (topS 43) 10) l47 c47 k47
  have F48 := fun_mk (st := inClass (topS 43) 11) l48 c48 k48
  have F49 := fun_mk (st := inClass (topS 43) 12) l49 c49 k49
  have F50 := fun_mk (st := inClass (topS 43) 14) l50 c50 k50
  have F51 := fun_mk (st := inClass (topS 43) 6) l51 c51 k51
  have F52 := fun_mk (st := inClass (topS 43) 7) l52 c52 k52
  have F53 := fun_mk (st := inClass (topS 43) 3) l53 c53 k53
  have F54 := fun_mk (st := topS 49) l54 c54 k54
  have F55 := fun_mk (st := topS 50) l55 c55 k55
  have F56 := fun_mk (st := topS 51) l56 c56 k56
  have F57 := fun_mk (st := topS 52) l57 c57 k57
  have b0 := F0.binds (ps := ["text"]) fun _ _ _ _ _ _ us hl => match us, hl with | [_], _ => rfl
  have b1 := F1.binds (ps := ["sums", "begin", "end"]) fun _ _ _ _ _ _ us hl => match us, hl with | [_, _, _], _ => rfl
  have b2 := F2.binds (ps := ["self", "end"]) fun _ _ _ _ _ _ us hl => match us, hl with | [_, _], _ => rfl
  have b3 := F3.binds (ps := ["self", "begin", "end"]) fun _ _ _ _ _ _ us hl => match us, hl with | [_, _, _], _ => rfl
  have b4 := F4.binds (ps := ["self", "place"]) fun _ _ _ _ _ _ us hl => match us, hl with | [_, _], _ => rfl
  have b5 := F5.binds (ps := ["self"]) fun _ _ _ _ _ _ us hl => match us, hl with | [_], _ => rfl
  have b6 := F6.binds (ps := ["self", "width", "text"]) fun _ _ _ _ _ _ us hl => match us, hl with | [_, _, _], _ => rfl
  have b7 := F7.binds (ps := ["width", "text"]) fun _ _ _ _ _ _ us hl => match us, hl with | [_, _], _ => rfl
  have b8 := F8.binds (ps := ["width", "text"]) fun _ _ _ _ _ _ us hl => match us, hl with | [_, _], _ => rfl
  have b9 := F9.binds (ps := ["self", "word"]) fun _ _ _ _ _ _ us hl => match us, hl with | [_, _], _ => rfl
  have b10 := F10.binds (ps := ["self", "word"]) fun _ _ _ _ _ _ us hl => match us, hl with | [_, _], _ => rfl
  have b11 := F11.binds (ps := ["self", "place", "word"]) fun _ _ _ _ _ _ us hl => match us, hl with | [_, _, _], _ => rfl
  have b12 := F12.binds (ps := ["self", "word"]) fun _ _ _ _ _ _ us hl => match us, hl with | [_, _], _ => rfl
  have b13 := F13.binds (ps := ["self", "word"]) fun _ _ _ _ _ _ us hl => match us, hl with | [_, _], _ => rfl
  have b14 := F14.binds (ps := ["self", "place"]) fun _ _ _ _ _ _ us hl => match us, hl with | [_, _], _ => rfl
  have b15 := F15.binds (ps := ["self", "place"]) fun _ _ _ _ _ _ us hl => match us, hl with | [_, _], _ => rfl
  have b16 := F16.binds (ps := ["self", "width", "text"]) fun _ _ _ _ _ _ us hl => match us, hl with | [_, _, _], _ => rfl
  have b17 := F17.binds (ps := ["self", "is_closing"]) fun _ _ _ _ _ _ us hl => match us, hl with | [_, _], _ => rfl
  have b18 := F18.binds (ps := ["width", "text"]) fun _ _ _ _ _ _ us hl => match us, hl with | [_, _], _ => rfl
  have b19 := F19.binds (ps := ["width", "text"]) fun _ _ _ _ _ _ us hl => match us, hl with | [_, _], _ => rfl
  have b20 := F20.binds (ps := ["width", "text"]) fun _ _ _ _ _ _ us hl => match us, hl with | [_, _], _ => rfl
  have b21 := F21.binds (ps := ["width", "text"]) fun _ _ _ _ _ _ us hl => match us, hl with | [_, _], _ => rfl
  have b22 := F22.binds (ps := ["width", "text"]) fun _ _ _ _ _ _ us hl => match us, hl with | [_, _], _ => rfl
  have b23 := F23.binds (ps := ["width", "text"]) fun _ _ _ _ _ _ us hl => match us, hl with | [_, _], _ => rfl
  have b24 := F24.binds (ps := ["layout"]) fun _ _ _ _ _ _ us hl => match us, hl with | [_], _ => rfl
  have b25 := F25.binds (ps := ["width", "text"]) fun _ _ _ _ _ _ us hl => match us, hl with | [_, _], _ => rfl
  have b26 := F26.binds (ps := ["width", "text"]) fun _ _ _ _ _ _ us hl => match us, hl with | [_, _], _ => rfl
  have b27 := F27.binds (ps := ["_law_script", "_law_k"]) fun _ _ _ _ _ _ us hl => match us, hl with | [_, _], _ => rfl
  have b28 := F28.binds (ps := ["_law_well_here", "_law_many"]) fun _ _ _ _ _ _ us hl => match us, hl with | [_, _], _ => rfl
  have b29 := F29.binds (ps := ["_law_well_here", "_law_some"]) fun _ _ _ _ _ _ us hl => match us, hl with | [_, _], _ => rfl
  have b30 := F30.binds (ps := ["_law_well_here", "_law_wide", "_law_most"]) fun _ _ _ _ _ _ us hl => match us, hl with | [_, _, _], _ => rfl
  have b31 := F31.binds (ps := ["value"]) fun _ _ _ _ _ _ us hl => match us, hl with | [_], _ => rfl
  have b32 := F32.binds (ps := ["value", "least", "most"]) fun _ _ _ _ _ _ us hl => match us, hl with | [_, _, _], _ => rfl
  have b33 := F33.binds (ps := ["value"]) fun _ _ _ _ _ _ us hl => match us, hl with | [_], _ => rfl
  have b34 := F34.binds (ps := ["width", "value"]) fun _ _ _ _ _ _ us hl => match us, hl with | [_, _], _ => rfl
  have b35 := F35.binds (ps := ["width", "value"]) fun _ _ _ _ _ _ us hl => match us, hl with | [_, _], _ => rfl
  have b36 := F36.binds (ps := ["self", "value"]) fun _ _ _ _ _ _ us hl => match us, hl with | [_, _], _ => rfl
  have b37 := F37.binds (ps := ["self"]) fun _ _ _ _ _ _ us hl => match us, hl with | [_], _ => rfl
  have b38 := F38.binds (ps := ["width"]) fun _ _ _ _ _ _ us hl => match us, hl with | [_], _ => rfl
  have b39 : L2.Binds K (PySem.W.fnOf "__init__" "Paragraph.__init__" (defArgs (inClass (topS 43) 0)) (defBody (inClass (topS 43) 0)) (defScope (inClass (topS 43) 0)) (.ref T39) kV39 dc39 pm39 an39 cd39 ct39) ["self", "width", "text"] [] := binds_dflt1 d39 fun us hl => match us, hl with | [_, _, _], _ => ⟨_, rfl, rfl⟩
  have b40 := F40.binds (ps := ["self"]) fun _ _ _ _ _ _ us hl => match us, hl with | [_], _ => rfl
  have b41 := F41.binds (ps := ["self"]) fun _ _ _ _ _ _ us hl => match us, hl with | [_], _ => rfl
  have b42 := F42.binds (ps := ["self"]) fun _ _ _ _ _ _ us hl => match us, hl with | [_], _ => rfl
  have b43 := F43.binds (ps := ["self"]) fun _ _ _ _ _ _ us hl => match us, hl with | [_], _ => rfl
  have b44 := F44.binds (ps := ["self", "at"]) fun _ _ _ _ _ _ us hl => match us, hl with | [_, _], _ => rfl
  have b45 := F45.binds (ps := ["self", "width", "text"]) fun _ _ _ _ _ _ us hl => match us, hl with | [_, _, _], _ => rfl
  have b46 := F46.binds (ps := ["self", "at"]) fun _ _ _ _ _ _ us hl => match us, hl with | [_, _], _ => rfl
  have b47 := F47.binds (ps := ["self", "at", "words"]) fun _ _ _ _ _ _ us hl => match us, hl with | [_, _, _], _ => rfl
  have b48 := F48.binds (ps := ["self", "begin", "end"]) fun _ _ _ _ _ _ us hl => match us, hl with | [_, _, _], _ => rfl
  have b49 := F49.binds (ps := ["self", "width"]) fun _ _ _ _ _ _ us hl => match us, hl with | [_, _], _ => rfl
  have b50 := F50.binds (ps := ["self"]) fun _ _ _ _ _ _ us hl => match us, hl with | [_], _ => rfl
  have b51 := F51.binds (ps := ["self"]) fun _ _ _ _ _ _ us hl => match us, hl with | [_], _ => rfl
  have b52 := F52.binds (ps := ["self"]) fun _ _ _ _ _ _ us hl => match us, hl with | [_], _ => rfl
  have b53 := F53.binds (ps := ["self", "other"]) fun _ _ _ _ _ _ us hl => match us, hl with | [_, _], _ => rfl
  have b54 := F54.binds (ps := ["_law_made"]) fun _ _ _ _ _ _ us hl => match us, hl with | [_], _ => rfl
  have b55 := F55.binds (ps := ["_law_wide", "_law_row"]) fun _ _ _ _ _ _ us hl => match us, hl with | [_, _], _ => rfl
  have b56 := F56.binds (ps := ["_law_well_here", "_law_made"]) fun _ _ _ _ _ _ us hl => match us, hl with | [_, _], _ => rfl
  have Babs := PySem.W.mg_none_of X G z0
  have Ball := PySem.W.mg_none_of X G z1
  have Bbool := PySem.W.mg_none_of X G z2
  have Benumerate := PySem.W.mg_none_of X G z3
  have Bint := PySem.W.mg_none_of X G z4
  have Bisinstance := PySem.W.mg_none_of X G z5
  have Blen := PySem.W.mg_none_of X G z6
  have Bmax := PySem.W.mg_none_of X G z7
  have Bmin := PySem.W.mg_none_of X G z8
  have Brange := PySem.W.mg_none_of X G z9
  have Brepr := PySem.W.mg_none_of X G z10
  have Breversed := PySem.W.mg_none_of X G z11
  have Bsorted := PySem.W.mg_none_of X G z12
  have Btuple := PySem.W.mg_none_of X G z13
  have Bzip := PySem.W.mg_none_of X G z14
  have VALWAYS := PySem.W.mg_of X G v0
  have VMOST_WIDTH := PySem.W.mg_of X G v1
  have VMOST_WORDS := PySem.W.mg_of X G v2
  have VNEVER := PySem.W.mg_of X G v3
  have VSOMETIMES := PySem.W.mg_of X G v4
  have m0 := PySem.W.mg_of X G a0
  have m1 := PySem.W.mg_of X G a1
  have m7 := PySem.W.mg_of X G a7
  have m8 := PySem.W.mg_of X G a8
  have m18 := PySem.W.mg_of X G a18
  have m19 := PySem.W.mg_of X G a19
  have m20 := PySem.W.mg_of X G a20
  have m21 := PySem.W.mg_of X G a21
  have m22 := PySem.W.mg_of X G a22
  have m23 := PySem.W.mg_of X G a23
  have m24 := PySem.W.mg_of X G a24
  have m25 := PySem.W.mg_of X G a25
  have m26 := PySem.W.mg_of X G a26
  have m27 := PySem.W.mg_of X G a27
  have m28 := PySem.W.mg_of X G a28
  have m29 := PySem.W.mg_of X G a29
  have m30 := PySem.W.mg_of X G a30
  have m31 := PySem.W.mg_of X G a31
  have m32 := PySem.W.mg_of X G a32
  have m33 := PySem.W.mg_of X G a33
  have m34 := PySem.W.mg_of X G a34
  have m35 := PySem.W.mg_of X G a35
  have m38 := PySem.W.mg_of X G a38
  have m54 := PySem.W.mg_of X G a54
  have m55 := PySem.W.mg_of X G a55
  have m56 := PySem.W.mg_of X G a56
  have clGoers : Cls K (He.ga K "Goers") := ⟨pgGoers, hdGoers, poGoers, saGoers⟩
  have mGoers := PySem.W.mg_of X G aaGoers
  have TGoers : Txt_Goers K (He.ga K "Goers") := ⟨clGoers, nGoers_most, nGoers_table, nGoers_reaches⟩
  have clParagraph : Cls K (He.ga K "Paragraph") := ⟨pgParagraph, hdParagraph, poParagraph, saParagraph⟩
  have mParagraph := PySem.W.mg_of X G aaParagraph
  have TParagraph : Txt_Paragraph K (He.ga K "Paragraph") := ⟨clParagraph, nParagraph_present, nParagraph_past, xParagraph_q_ne, xParagraph_q_ob, xParagraph_q_tu, xParagraph_q_it, xParagraph_q_st, xParagraph_q_no, xParagraph_q_ha, xParagraph_q_hn, xParagraph_q_tk, xParagraph_q_kc⟩
  have clTable : Cls K (He.ga K "Table") := ⟨pgTable, hdTable, poTable, saTable⟩
  have mTable := PySem.W.mg_of X G aaTable
  have TTable : Txt_Table K (He.ga K "Table") := ⟨clTable, nTable_wide, nTable_sums, nTable_costs, nTable_befores⟩
  have mBadPlace := PySem.W.mg_of X G aaBadPlace
  have mLineError := PySem.W.mg_of X G aaLineError
  have mNothingToUndo := PySem.W.mg_of X G aaNothingToUndo
  have crLineError : ClX.CRead K (He.ga K "LineError") (.type "type") := ⟨rdLineError, gaLineError⟩
  have oxBadPlace : OexC K (He.ga K "BadPlace") := ⟨⟨_, _, _, _, _, _, _, _, _, _, _, _, _, _, _, lkBadPlace, rvBadPlace⟩, saBadPlace, exBadPlace, tyBadPlace, kcBadPlace⟩
  have oxNothingToUndo : OexC K (He.ga K "NothingToUndo") := ⟨⟨_, _, _, _, _, _, _, _, _, _, _, _, _, _, _, lkNothingToUndo, rvNothingToUndo⟩, saNothingToUndo, exNothingToUndo, tyNothingToUndo, kcNothingToUndo⟩
  refine ⟨PySem.W.fnOf "law" "law" (defArgs (topS 52)) (defBody (topS 52)) (defScope (topS 52)) .none kV57 dc57 pm57 an57 cd57 ct57, fun s v => .of_eq rfl, fun base _ _ tbs => ?_⟩
  have hTq : Cs.tqE [] [(eAt K (He.ma K (He.ga K "Paragraph") "__init__"))] = [((eAt K (He.ma K (He.ga K "Paragraph") "__init__")), ("()" : Str))] := rfl
  rw [hTq]
  have emQ : ((eAt K (He.ma K (He.ga K "Paragraph") "__init__")), ("()" : Str)) ∈ ([((eAt K (He.ma K (He.ga K "Paragraph") "__init__")), ("()" : Str))] : List (Addr × Str)) := by simp only [List.mem_cons, true_or, or_true]
  have D0 : Df l.prog w K mg base [((eAt K (He.ma K (He.ga K "Paragraph") "__init__")), ("()" : Str))] 1 "sums_of" ["text"] spSums := ⟨_, _, g_sums_of (k := 0) F0 Btuple, m0, k0, b0⟩
  have D1 : Df l.prog w K mg base [((eAt K (He.ma K (He.ga K "Paragraph") "__init__")), ("()" : Str))] 1 "length_by" ["sums", "begin", "end"] spLenBy := ⟨_, _, g_length_by (k := 0) F1 , m1, k1, b1⟩
  have D2 : Mf l.prog w K mg base [((eAt K (He.ma K (He.ga K "Paragraph") "__init__")), ("()" : Str))] 2 (He.ga K "Table") "begins" ["self", "end"] (spBegins (He.ga K "Table")) := ⟨_, _, g_Table_begins (k := 1) F2 TTable (D1.mono (by decide : 1 ≤ 1)), clTable, ⟨a2, i2, k2⟩, b2⟩
  have D3 : Mf l.prog w K mg base [((eAt K (He.ma K (He.ga K "Paragraph") "__init__")), ("()" : Str))] 2 (He.ga K "Table") "square" ["self", "begin", "end"] (spSquare (He.ga K "Table")) := ⟨_, _, g_Table_square (k := 1) F3 TTable (D1.mono (by decide : 1 ≤ 1)), clTable, ⟨a3, i3, k3⟩, b3⟩
  have D4 : Mf l.prog w K mg base [((eAt K (He.ma K (He.ga K "Paragraph") "__init__")), ("()" : Str))] 1 (He.ga K "Table") "way" ["self", "place"] (spWay (He.ga K "Table")) := ⟨_, _, g_Table_way (k := 0) F4 TTable Breversed Btuple, clTable, ⟨a4, i4, k4⟩, b4⟩
  have D5 : Mf l.prog w K mg base [((eAt K (He.ma K (He.ga K "Paragraph") "__init__")), ("()" : Str))] 3 (He.ga K "Table") "last_start" ["self"] (spLast (He.ga K "Table")) := ⟨_, _, g_Table_last_start (k := 2) F5 TTable (D2.mono (by decide : 2 ≤ 2)) Blen Bmin, clTable, ⟨a5, i5, k5⟩, b5⟩
  have C_Table : Ck l.prog w K mg base [((eAt K (He.ma K (He.ga K "Paragraph") "__init__")), ("()" : Str))] 3 "Table" (He.ga K "Table") ["self", "width", "text"] (spInit (He.ga K "Table")) := ⟨_, _, g_Table___init__ (k := 2) F6 TTable (D0.mono (by decide : 1 ≤ 2)) (D2.mono (by decide : 2 ≤ 2)) (D3.mono (by decide : 2 ≤ 2)) Blen Bmin Brange, ⟨mkTable, a6, i6, kcTable⟩, mTable, b6⟩
  have D7 : Df l.prog w K mg base [((eAt K (He.ma K (He.ga K "Paragraph") "__init__")), ("()" : Str))] 5 "best_layout" ["width", "text"] spBest := ⟨_, _, g_best_layout (k := 3) F7 (D5.mono (by decide : 3 ≤ 3)) (D4.mono (by decide : 1 ≤ 3)) (C_Table.mono (by decide : 3 ≤ 3)) Blen, m7, k7, b7⟩
  have D8 : Df l.prog w K mg base [((eAt K (He.ma K (He.ga K "Paragraph") "__init__")), ("()" : Str))] 5 "best_cost" ["width", "text"] spBestCost := ⟨_, _, g_best_cost (k := 3) F8 TTable (D5.mono (by decide : 3 ≤ 3)) (C_Table.mono (by decide : 3 ≤ 3)), m8, k8, b8⟩
  have D9 : Mf l.prog w K mg base [((eAt K (He.ma K (He.ga K "Paragraph") "__init__")), ("()" : Str))] 1 (He.ga K "Goers") "room" ["self", "word"] (spRoom (He.ga K "Goers") (He.ga K "Table")) := ⟨_, _, g_Goers_room (k := 0) F9 TGoers, clGoers, ⟨a9, i9, k9⟩, b9⟩
  have D10 : Mf l.prog w K mg base [((eAt K (He.ma K (He.ga K "Paragraph") "__init__")), ("()" : Str))] 2 (He.ga K "Goers") "fitting" ["self", "word"] (spFitting (He.ga K "Goers") (He.ga K "Table")) := ⟨_, _, g_Goers_fitting (k := 1) F10 TGoers (D9.mono (by decide : 1 ≤ 1)), clGoers, ⟨a10, i10, k10⟩, b10⟩
  have D11 : Mf l.prog w K mg base [((eAt K (He.ma K (He.ga K "Paragraph") "__init__")), ("()" : Str))] 2 (He.ga K "Goers") "closed_cost_at" ["self", "place", "word"] (spCca (He.ga K "Goers") (He.ga K "Table")) := ⟨_, _, g_Goers_closed_cost_at (k := 1) F11 TTable TGoers (D9.mono (by decide : 1 ≤ 1)), clGoers, ⟨a11, i11, k11⟩, b11⟩
  have D12 : Mf l.prog w K mg base [((eAt K (He.ma K (He.ga K "Paragraph") "__init__")), ("()" : Str))] 3 (He.ga K "Goers") "closing_start" ["self", "word"] (spGStart LM.cls (He.ga K "Goers") (He.ga K "Table")) := ⟨_, _, g_Goers_closing_start (k := 2) F12 (D11.mono (by decide : 2 ≤ 2)) (D10.mono (by decide : 2 ≤ 2)) Bmin, clGoers, ⟨a12, i12, k12⟩, b12⟩
  have D13 : Mf l.prog w K mg base [((eAt K (He.ma K (He.ga K "Paragraph") "__init__")), ("()" : Str))] 3 (He.ga K "Goers") "open_start" ["self", "word"] (spGStart LM.opn (He.ga K "Goers") (He.ga K "Table")) := ⟨_, _, g_Goers_open_start (k := 2) F13 TTable TGoers (D10.mono (by decide : 2 ≤ 2)) Bmin, clGoers, ⟨a13, i13, k13⟩, b13⟩
  have D14 : Mf l.prog w K mg base [((eAt K (He.ma K (He.ga K "Paragraph") "__init__")), ("()" : Str))] 1 (He.ga K "Goers") "last_fitting" ["self", "place"] (spGLast LM.lfit (He.ga K "Goers") (He.ga K "Table")) := ⟨_, _, g_Goers_last_fitting (k := 0) F14 TGoers Bmin, clGoers, ⟨a14, i14, k14⟩, b14⟩
  have D15 : Mf l.prog w K mg base [((eAt K (He.ma K (He.ga K "Paragraph") "__init__")), ("()" : Str))] 2 (He.ga K "Goers") "last_closing" ["self", "place"] (spGLast LM.lclo (He.ga K "Goers") (He.ga K "Table")) := ⟨_, _, g_Goers_last_closing (k := 1) F15 TTable TGoers (D14.mono (by decide : 1 ≤ 1)) Bmin, clGoers, ⟨a15, i15, k15⟩, b15⟩
  have C_Goers : Ck l.prog w K mg base [((eAt K (He.ma K (He.ga K "Paragraph") "__init__")), ("()" : Str))] 5 "Goers" (He.ga K "Goers") ["self", "width", "text"] (spGInit (He.ga K "Goers") (He.ga K "Table")) := ⟨_, _, g_Goers___init__ (k := 3) F16 TGoers (D1.mono (by decide : 1 ≤ 3)) (D0.mono (by decide : 1 ≤ 3)) (C_Table.mono (by decide : 3 ≤ 3)) Blen Brange, ⟨mkGoers, a16, i16, kcGoers⟩, mGoers, b16⟩
  have D17 : Mf l.prog w K mg base [((eAt K (He.ma K (He.ga K "Paragraph") "__init__")), ("()" : Str))] 4 (He.ga K "Goers") "ranges" ["self", "is_closing"] (spRanges (He.ga K "Goers") (He.ga K "Table")) := ⟨_, _, g_Goers_ranges (k := 3) F17 TGoers (D12.mono (by decide : 3 ≤ 3)) (D15.mono (by decide : 2 ≤ 3)) (D14.mono (by decide : 1 ≤ 3)) (D13.mono (by decide : 3 ≤ 3)) Btuple, clGoers, ⟨a17, i17, k17⟩, b17⟩
  have D18 : Df l.prog w K mg base [((eAt K (He.ma K (He.ga K "Paragraph") "__init__")), ("()" : Str))] 7 "closing_starts" ["width", "text"] (spRgs LM.cls) := ⟨_, _, g_closing_starts (k := 5) F18 (D17.mono (by decide : 4 ≤ 5)) (C_Goers.mono (by decide : 5 ≤ 5)), m18, k18, b18⟩
  have D19 : Df l.prog w K mg base [((eAt K (He.ma K (He.ga K "Paragraph") "__init__")), ("()" : Str))] 7 "open_starts" ["width", "text"] (spRgs LM.opn) := ⟨_, _, g_open_starts (k := 5) F19 (D17.mono (by decide : 4 ≤ 5)) (C_Goers.mono (by decide : 5 ≤ 5)), m19, k19, b19⟩
  have D20 : Df l.prog w K mg base [((eAt K (He.ma K (He.ga K "Paragraph") "__init__")), ("()" : Str))] 8 "starts" ["width", "text"] spStarts := ⟨_, _, g_starts (k := 7) F20 (D18.mono (by decide : 7 ≤ 7)) (D19.mono (by decide : 7 ≤ 7)) Bsorted Btuple, m20, k20, b20⟩
  have D21 : Df l.prog w K mg base [((eAt K (He.ma K (He.ga K "Paragraph") "__init__")), ("()" : Str))] 10 "all_ends" ["width", "text"] spAllEnds := ⟨_, _, g_all_ends (k := 8) F21 (D7.mono (by decide : 5 ≤ 8)) (D20.mono (by decide : 8 ≤ 8)) (D4.mono (by decide : 1 ≤ 8)) (C_Table.mono (by decide : 3 ≤ 8)), m21, k21, b21⟩
  have D22 : Df l.prog w K mg base [((eAt K (He.ma K (He.ga K "Paragraph") "__init__")), ("()" : Str))] 11 "counted_states" ["width", "text"] spCounted := ⟨_, _, g_counted_states (k := 10) F22 (D21.mono (by decide : 10 ≤ 10)) Blen, m22, k22, b22⟩
  have D23 : Df l.prog w K mg base [((eAt K (He.ma K (He.ga K "Paragraph") "__init__")), ("()" : Str))] 12 "states" ["width", "text"] spStates := ⟨_, _, g_states (k := 11) F23 (D22.mono (by decide : 11 ≤ 11)) VALWAYS VNEVER VSOMETIMES Btuple, m23, k23, b23⟩
  have D24 : Df l.prog w K mg base [((eAt K (He.ma K (He.ga K "Paragraph") "__init__")), ("()" : Str))] 1 "lines_of" ["layout"] spLines := ⟨_, _, g_lines_of (k := 0) F24 Btuple Bzip, m24, k24, b24⟩
  have D25 : Df l.prog w K mg base [((eAt K (He.ma K (He.ga K "Paragraph") "__init__")), ("()" : Str))] 14 "settled_ends" ["width", "text"] spSetE := ⟨_, _, g_settled_ends (k := 12) F25 TTable (D23.mono (by decide : 12 ≤ 12)) (D5.mono (by decide : 3 ≤ 12)) (D4.mono (by decide : 1 ≤ 12)) (C_Table.mono (by decide : 3 ≤ 12)) VALWAYS Benumerate Blen Bmax, m25, k25, b25⟩
  have D26 : Df l.prog w K mg base [((eAt K (He.ma K (He.ga K "Paragraph") "__init__")), ("()" : Str))] 15 "settled_lines" ["width", "text"] spSetL := ⟨_, _, g_settled_lines (k := 14) F26 (D24.mono (by decide : 1 ≤ 14)) (D25.mono (by decide : 14 ≤ 14)), m26, k26, b26⟩
  have D27 : Df l.prog w K mg base [((eAt K (He.ma K (He.ga K "Paragraph") "__init__")), ("()" : Str))] 1 "_law_well" ["_law_script", "_law_k"] (spPot K) := ⟨_, _, g_pot (k := 0) F27 Blen Babs Bint, m27, k27, b27⟩
  have D28 : Df l.prog w K mg base [((eAt K (He.ma K (He.ga K "Paragraph") "__init__")), ("()" : Str))] 1 "_law_draw" ["_law_well_here", "_law_many"] spTake := ⟨_, _, g_take (k := 0) F28 , m28, k28, b28⟩
  have D29 : Df l.prog w K mg base [((eAt K (He.ma K (He.ga K "Paragraph") "__init__")), ("()" : Str))] 2 "_law_pick" ["_law_well_here", "_law_some"] spOfI := ⟨_, _, g_ofI (k := 0) F29 (D28.mono (by decide : 1 ≤ 1)) Blen, m29, k29, b29⟩
  have D30 : Df l.prog w K mg base [((eAt K (He.ma K (He.ga K "Paragraph") "__init__")), ("()" : Str))] 3 "_law_text" ["_law_well_here", "_law_wide", "_law_most"] spTextD := ⟨_, _, g__law_text (k := 2) F30 (D28.mono (by decide : 1 ≤ 2)) (D29.mono (by decide : 2 ≤ 2)) Brange Btuple, m30, k30, b30⟩
  have D31 : Df l.prog w K mg base [((eAt K (He.ma K (He.ga K "Paragraph") "__init__")), ("()" : Str))] 1 "is_integer" ["value"] spIsI := ⟨_, _, g_is_integer (k := 0) F31 Bbool Bint Bisinstance, m31, k31, b31⟩
  have D32 : Df l.prog w K mg base [((eAt K (He.ma K (He.ga K "Paragraph") "__init__")), ("()" : Str))] 2 "is_between" ["value", "least", "most"] spBtw := ⟨_, _, g_is_between (k := 1) F32 (D31.mono (by decide : 1 ≤ 1)), m32, k32, b32⟩
  have D33 : Df l.prog w K mg base [((eAt K (He.ma K (He.ga K "Paragraph") "__init__")), ("()" : Str))] 3 "is_width" ["value"] spWidth := ⟨_, _, g_width (k := 0) F33 (D32.mono (by decide : 2 ≤ 2)) VMOST_WIDTH, m33, k33, b33⟩
  have D34 : Df l.prog w K mg base [((eAt K (He.ma K (He.ga K "Paragraph") "__init__")), ("()" : Str))] 3 "are_words" ["width", "value"] spWords := ⟨_, _, g_words (k := 0) F34 (D32.mono (by decide : 2 ≤ 2)) Bisinstance Btuple Ball, m34, k34, b34⟩
  have D35 : Df l.prog w K mg base [((eAt K (He.ma K (He.ga K "Paragraph") "__init__")), ("()" : Str))] 4 "is_text" ["width", "value"] spText := ⟨_, _, g_text (k := 0) F35 (D34.mono (by decide : 3 ≤ 3)) Blen VMOST_WORDS, m35, k35, b35⟩
  have Z_BadPlace : Rz l.prog w K mg base 1 "BadPlace" (He.ga K "BadPlace") "value" := ⟨_, _, _, oxBadPlace, a36, i36, init_BadPlace (k := 0) F36 mLineError crLineError hkLineError noBadPlace, b36, mBadPlace⟩
  have Z_NothingToUndo : Rz0 l.prog w K mg base 1 "NothingToUndo" (He.ga K "NothingToUndo") := ⟨_, _, _, oxNothingToUndo, a37, i37, init_NothingToUndo (k := 0) F37 mLineError crLineError hkLineError, b37, mNothingToUndo⟩
  have D38 : Df l.prog w K mg base [((eAt K (He.ma K (He.ga K "Paragraph") "__init__")), ("()" : Str))] 4 "check_width" ["width"] spCW := ⟨_, _, g_check_width (k := 3) F38 (D33.mono (by decide : 3 ≤ 3)), m38, k38, b38⟩
  have C_Paragraph : Ck l.prog w K mg base [((eAt K (He.ma K (He.ga K "Paragraph") "__init__")), ("()" : Str))] 5 "Paragraph" (He.ga K "Paragraph") ["self", "width", "text"] (spPInit (He.ga K "Paragraph")) := ⟨_, _, g_Paragraph___init__ (k := 4) F39 TParagraph (D38.mono (by decide : 4 ≤ 4)) (D35.mono (by decide : 4 ≤ 4)), ⟨mkParagraph, a39, i39, kcParagraph⟩, mParagraph, b39⟩
  have DD_Paragraph : CkD l.prog w K mg base [((eAt K (He.ma K (He.ga K "Paragraph") "__init__")), ("()" : Str))] 5 "Paragraph" (He.ga K "Paragraph") (eAt K (He.ma K (He.ga K "Paragraph") "__init__")) ["self", "width", "text"] (spPInit (He.ga K "Paragraph")) := ⟨_, _, g_Paragraph___init__ (k := 4) F39 TParagraph (D38.mono (by decide : 4 ≤ 4)) (D35.mono (by decide : 4 ≤ 4)), ⟨mkParagraph, a39, i39, kcParagraph⟩, mParagraph, bindsD_dflt1 d39 fun us hl => match us, hl with | [_, _], _ => ⟨_, rfl, rfl⟩⟩
  have D40 : Pf l.prog w K mg base [((eAt K (He.ma K (He.ga K "Paragraph") "__init__")), ("()" : Str))] 1 (He.ga K "Paragraph") "width" ["self"] (spPWidth (He.ga K "Paragraph")) := ⟨_, _, _, g_Paragraph_width (k := 0) F40 TParagraph, clParagraph, ⟨a40, g_40, t40, ⟨_, r40⟩⟩, b40⟩
  have D41 : Pf l.prog w K mg base [((eAt K (He.ma K (He.ga K "Paragraph") "__init__")), ("()" : Str))] 1 (He.ga K "Paragraph") "text" ["self"] (spPText (He.ga K "Paragraph")) := ⟨_, _, _, g_Paragraph_text (k := 0) F41 TParagraph, clParagraph, ⟨a41, g_41, t41, ⟨_, r41⟩⟩, b41⟩
  have D42 : Mf l.prog w K mg base [((eAt K (He.ma K (He.ga K "Paragraph") "__init__")), ("()" : Str))] 1 (He.ga K "Paragraph") "__len__" ["self"] (spPLen (He.ga K "Paragraph")) := ⟨_, _, g_Paragraph___len__ (k := 0) F42 TParagraph Blen, clParagraph, ⟨a42, i42, k42⟩, b42⟩
  have D43 : Mf l.prog w K mg base [((eAt K (He.ma K (He.ga K "Paragraph") "__init__")), ("()" : Str))] 1 (He.ga K "Paragraph") "edits" ["self"] (spPEdits (He.ga K "Paragraph")) := ⟨_, _, g_Paragraph_edits (k := 0) F43 TParagraph Blen, clParagraph, ⟨a43, i43, k43⟩, b43⟩
  have D44 : Mf l.prog w K mg base [((eAt K (He.ma K (He.ga K "Paragraph") "__init__")), ("()" : Str))] 3 (He.ga K "Paragraph") "check_place" ["self", "at"] (spPCheck (He.ga K "Paragraph") (He.ga K "BadPlace")) := ⟨_, _, g_Paragraph_check_place (k := 1) F44 (Z_BadPlace.mono (by decide : 1 ≤ 1)) (D31.mono (by decide : 1 ≤ 1)) (D41.mono (by decide : 1 ≤ 1)) Blen, clParagraph, ⟨a44, i44, k44⟩, b44⟩
  have D45 : Mf l.prog w K mg base [((eAt K (He.ma K (He.ga K "Paragraph") "__init__")), ("()" : Str))] 1 (He.ga K "Paragraph") "change" ["self", "width", "text"] (spPChange (He.ga K "Paragraph")) := ⟨_, _, g_Paragraph_change (k := 0) F45 TParagraph, clParagraph, ⟨a45, i45, k45⟩, b45⟩
  have D46 : Mf l.prog w K mg base [((eAt K (He.ma K (He.ga K "Paragraph") "__init__")), ("()" : Str))] 17 (He.ga K "Paragraph") "firm" ["self", "at"] (spPFirmG (He.ga K "Paragraph")) := ⟨_, _, g_Paragraph_firm (k := 15) F46 (D26.mono (by decide : 15 ≤ 15)) (D44.mono (by decide : 3 ≤ 15)) (D41.mono (by decide : 1 ≤ 15)) (D40.mono (by decide : 1 ≤ 15)), clParagraph, ⟨a46, i46, k46⟩, b46⟩
  have D47 : Mf l.prog w K mg base [((eAt K (He.ma K (He.ga K "Paragraph") "__init__")), ("()" : Str))] 6 (He.ga K "Paragraph") "insert" ["self", "at", "words"] (spPIns (He.ga K "Paragraph")) := ⟨_, _, g_Paragraph_insert (k := 4) F47 (D35.mono (by decide : 4 ≤ 4)) (D45.mono (by decide : 1 ≤ 4)) (D44.mono (by decide : 3 ≤ 4)) (D41.mono (by decide : 1 ≤ 4)) (D40.mono (by decide : 1 ≤ 4)), clParagraph, ⟨a47, i47, k47⟩, b47⟩
  have D48 : Mf l.prog w K mg base [((eAt K (He.ma K (He.ga K "Paragraph") "__init__")), ("()" : Str))] 5 (He.ga K "Paragraph") "remove" ["self", "begin", "end"] (spPRem (He.ga K "Paragraph") (He.ga K "BadPlace")) := ⟨_, _, g_Paragraph_remove (k := 3) F48 (Z_BadPlace.mono (by decide : 1 ≤ 3)) (D45.mono (by decide : 1 ≤ 3)) (D44.mono (by decide : 3 ≤ 3)) (D41.mono (by decide : 1 ≤ 3)) (D40.mono (by decide : 1 ≤ 3)), clParagraph, ⟨a48, i48, k48⟩, b48⟩
  have D49 : Mf l.prog w K mg base [((eAt K (He.ma K (He.ga K "Paragraph") "__init__")), ("()" : Str))] 6 (He.ga K "Paragraph") "widen" ["self", "width"] (spPWiden (He.ga K "Paragraph")) := ⟨_, _, g_Paragraph_widen (k := 4) F49 (D35.mono (by decide : 4 ≤ 4)) (D33.mono (by decide : 3 ≤ 4)) (D45.mono (by decide : 1 ≤ 4)) (D41.mono (by decide : 1 ≤ 4)), clParagraph, ⟨a49, i49, k49⟩, b49⟩
  have D50 : Mf l.prog w K mg base [((eAt K (He.ma K (He.ga K "Paragraph") "__init__")), ("()" : Str))] 3 (He.ga K "Paragraph") "undo" ["self"] (spPUndo (He.ga K "Paragraph") (He.ga K "NothingToUndo")) := ⟨_, _, g_Paragraph_undo (k := 1) F50 TParagraph (Z_NothingToUndo.mono (by decide : 1 ≤ 1)), clParagraph, ⟨a50, i50, k50⟩, b50⟩
  have D51 : Mf l.prog w K mg base [((eAt K (He.ma K (He.ga K "Paragraph") "__init__")), ("()" : Str))] 7 (He.ga K "Paragraph") "layout" ["self"] (spPLayout (He.ga K "Paragraph")) := ⟨_, _, g_Paragraph_layout (k := 5) F51 (D7.mono (by decide : 5 ≤ 5)) (D41.mono (by decide : 1 ≤ 5)) (D40.mono (by decide : 1 ≤ 5)), clParagraph, ⟨a51, i51, k51⟩, b51⟩
  have D52 : Mf l.prog w K mg base [((eAt K (He.ma K (He.ga K "Paragraph") "__init__")), ("()" : Str))] 7 (He.ga K "Paragraph") "cost" ["self"] (spPCost (He.ga K "Paragraph")) := ⟨_, _, g_Paragraph_cost (k := 5) F52 (D8.mono (by decide : 5 ≤ 5)) (D41.mono (by decide : 1 ≤ 5)) (D40.mono (by decide : 1 ≤ 5)), clParagraph, ⟨a52, i52, k52⟩, b52⟩
  have D53 : Mf l.prog w K mg base [((eAt K (He.ma K (He.ga K "Paragraph") "__init__")), ("()" : Str))] 1 (He.ga K "Paragraph") "__eq__" ["self", "other"] (spPEq (He.ga K "Paragraph")) := ⟨_, _, g_Paragraph___eq__ (k := 0) F53 TParagraph mParagraph Bisinstance, clParagraph, ⟨a53, i53, k53⟩, b53⟩
  have D54 : Df l.prog w K mg base [((eAt K (He.ma K (He.ga K "Paragraph") "__init__")), ("()" : Str))] 19 "_law_answers" ["_law_made"] (spAns (He.ga K "Paragraph")) := ⟨_, _, g__law_answers (k := 17) F54 (D52.mono (by decide : 7 ≤ 17)) (D46.mono (by decide : 17 ≤ 17)) (D51.mono (by decide : 7 ≤ 17)) (D41.mono (by decide : 1 ≤ 17)) (D40.mono (by decide : 1 ≤ 17)) (D42.mono (by decide : 1 ≤ 17)) Blen Brepr, m54, k54, b54⟩
  have D55 : Df l.prog w K mg base [((eAt K (He.ma K (He.ga K "Paragraph") "__init__")), ("()" : Str))] 8 "_law_together" ["_law_wide", "_law_row"] (spTog (He.ga K "Paragraph")) := ⟨_, _, g__law_together (k := 6) F55 (D47.mono (by decide : 6 ≤ 6)) emQ (DD_Paragraph.mono (by decide : 5 ≤ 6)), m55, k55, b55⟩
  have D56 : Df l.prog w K mg base [((eAt K (He.ma K (He.ga K "Paragraph") "__init__")), ("()" : Str))] 8 "_law_changed" ["_law_well_here", "_law_made"] (spChg (He.ga K "Paragraph")) := ⟨_, _, g__law_changed (k := 6) F56 (D28.mono (by decide : 1 ≤ 6)) (D30.mono (by decide : 3 ≤ 6)) (D43.mono (by decide : 1 ≤ 6)) (D47.mono (by decide : 6 ≤ 6)) (D48.mono (by decide : 5 ≤ 6)) (D50.mono (by decide : 3 ≤ 6)) (D49.mono (by decide : 6 ≤ 6)) (D41.mono (by decide : 1 ≤ 6)) (D40.mono (by decide : 1 ≤ 6)) Blen Bmax Bmin, m56, k56, b56⟩
  exact g_law (k := 19) F57 TParagraph (D54.mono (by decide : 19 ≤ 19)) (D56.mono (by decide : 8 ≤ 19)) (D28.mono (by decide : 1 ≤ 19)) (D30.mono (by decide : 3 ≤ 19)) (D55.mono (by decide : 8 ≤ 19)) (D27.mono (by decide : 1 ≤ 19)) (D8.mono (by decide : 5 ≤ 19)) (D7.mono (by decide : 5 ≤ 19)) (D26.mono (by decide : 15 ≤ 19)) (D53.mono (by decide : 1 ≤ 19)) (D52.mono (by decide : 7 ≤ 19)) (D43.mono (by decide : 1 ≤ 19)) (D46.mono (by decide : 17 ≤ 19)) (D51.mono (by decide : 7 ≤ 19)) (D50.mono (by decide : 3 ≤ 19)) (C_Paragraph.mono (by decide : 5 ≤ 19)) (D41.mono (by decide : 1 ≤ 19)) (D40.mono (by decide : 1 ≤ 19)) Blen Bmax Bmin Brange
def nmL0 : List Str := ["_wall", "__name__", "LineError", "BadPlace", "BadWidth", "BadText", "BadSource", "NothingToUndo", "MOST_WIDTH", "MOST_WORDS", "is_integer", "is_between", "is_width", "are_words", "is_text"]
def nmL1 : List Str := ["sums_of", "length_by", "Table", "lines_of", "best_layout", "best_cost", "Goers", "closing_starts", "open_starts", "starts", "ALWAYS", "NEVER", "SOMETIMES", "all_ends", "counted_states"]
def nmL2 : List Str := ["states", "settled_ends", "settled_lines", "BLANK", "LETTERS", "read_words", "check_width", "Paragraph", "_law_well", "_law_draw", "_law_pick", "_law_text", "_law_answers", "_law_together", "_law_changed"]
def nmL : List Str := nmL0 ++ nmL1 ++ nmL2
theorem ob_eq (s : PySem.W.SharedT) : obE fnL xsL mkL esL s = (hookE fnL xsL mkL esL).obs s.abs := obE_eq _ _ _ _ s
set_option maxHeartbeats 0 in
theorem run (w : World) : HandSHeadRun.RunEq (PySem.W.OpenLaw.row PySem.Challenge.rw_settledlines_k92_whole_edited_as_new) (PySem.W.view (PySem.W.OpenLaw.row PySem.Challenge.rw_settledlines_k92_whole_edited_as_new).prog [52]) (hookE fnL xsL mkL esL) (obE fnL xsL mkL esL) 20000 nmL w := by
  intro os
  kernel_rfl
end K92
open PySem PySem.W PySem.Calls PyProof.Rows
set_option maxHeartbeats 0 in
theorem PySem.Challenge.cw_settledlines_k92_whole_edited_as_new_holds : PySem.Challenge.rw_settledlines_k92_whole_edited_as_new.Holds := by
  w_on; o_law
  refine HandSHeadRun.head_any (r := OpenLaw.row PySem.Challenge.rw_settledlines_k92_whole_edited_as_new) (q := view (OpenLaw.row PySem.Challenge.rw_settledlines_k92_whole_edited_as_new).prog [52]) (H := QL.hookE K92.fnL K92.xsL K92.mkL K92.esL) (ob := QL.obE K92.fnL K92.xsL K92.mkL K92.esL) (M := 20000) (loose := K92.nmL) (d := HandSHeadRun.topDef (OpenLaw.row PySem.Challenge.rw_settledlines_k92_whole_edited_as_new).prog 52) (kwd := []) K92.ob_eq
    (by kernel_rfl) (fun s => by kernel_rfl) K92.run (by kernel_rfl) (by kernel_rfl) (by kernel_rfl) (by rfl) (by first | assumption | decide +kernel) (by decide +kernel) ⟨rfl, rfl, rfl, rfl, rfl, by decide +kernel⟩ ?hw ?hc
  case hw => w_witness2
  case hc =>
    refine QL.walk_gF (l := PySem.Challenge.rw_settledlines_k92_whole_edited_as_new) (n := 63) (k := 21) (x := "_law_script") (sp := fun K => K92.spLaw K) rfl (by decide) (by kernel_rfl) ⟨rfl, by decide, by decide⟩ ?F (fun K a ns hl => ⟨a, ns, rfl, hl, rfl⟩)
    intro w mg fa h Y G hmg0
    obtain ⟨K, KX, c⟩ := Y
    have hmg : mg ("law" : PySem.Str) = some (.ref fa) := by
      have e : (HandSHeadRun.topDef (OpenLaw.row PySem.Challenge.rw_settledlines_k92_whole_edited_as_new).prog 52).name = ("law" : PySem.Str) := by kernel_rfl
      rw [← e]
      exact hmg0
    obtain ⟨cs, Es, h1, hE, fd, h2, h3⟩ := K92.head_ok (l := PySem.Challenge.rw_settledlines_k92_whole_edited_as_new) (w := w) KX G hmg c
    exact ⟨K, cs, Es, fd, KX, h1, hE, h2, h3⟩
