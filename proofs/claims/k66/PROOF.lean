import PyProof.Rows.All
import Wide.All
import OpenK.AllK
import Wide.FinOn
import KE.KStateDown
import HandS.Head0
import HandS.Head1
import HandS.Head2
import HandS.Head3
import HandS.ForMost
import HandS.ForExc
import HandS.HeadWalk
import HandS.HeadHook4
import HandS.Head4
import HandS.HeadEnd
import HandS.Conv
import HandS.Rev
import HandS.Zip
import HandS.IsInst
import HandS.ExcIs
import HandS.CallSlots
import HandS.TryMany
import HandS.TupAny
import HandS.Wide
import HandS.WideBits
import HandS.Style
import HandS.Deep
import HandS.Defaults
import HandS.Strs
import HandS.ReplaceLit
import HandS.Star
import HandS.TupMul
import KE.KMathG
import HandS.MakeKwOnly
import Flt.RightSqrt
import PyProof.StrLaws
import PyProof.Rows.StrStrike
import PySem.Challenge.RW_curveseal_k66_heads_and_signed_bytes
set_option Elab.async false
set_option linter.all false
set_option maxRecDepth 100000
noncomputable section
namespace RX
open PySem PySem.W PySem.Calls PyProof.Rows HandSHeadRun
section
variable (st : SharedT → Thread → Option (SharedT × Thread)) (n0 : Nat) (ann : Option Value) (b : Nat)
def segF : Nat → SharedT → Thread → Option (Flow × SharedT × Code × Pos)
  | 0, _, _ => none
  | m + 1, s, t => match endAt b t with
    | some f => some (f, s, t.code, t.pos)
    | none => match stepOk n0 ann t with
      | false => none
      | true => match st s t with
        | some (s', t') => frS s' fun s' => segF m s' t'
        | none => none
def roOk (t : Thread) : Bool := match t.cur with
  | .pure (.again _) => !(t.stack.length == b)
  | .pure (.done _) => true
  | .rule .. => true
  | .at .. => true
  | .load .. => true
  | .loadIfAlive .. => true
  | .point .. => true
  | .ask .. => true
  | .call .. => true
  | .stack .. => true
  | .handled .. => true
  | _ => false
def roF : Nat → SharedT → Thread → Option (Flow × Pos)
  | 0, _, _ => none
  | m + 1, s, t => match endAt b t with
    | some f => some (f, t.pos)
    | none => match roOk b t with
      | false => none
      | true => match stepOk n0 ann t with
        | false => none
        | true => match st s t with
          | some (_, t') => roF m s t'
          | none => none
end
theorem segF_ok {tb : String → Option Builtin} {p : Program} {w : World} {n0 : Nat} {ann : Option Value} {b : Nat} : ∀ {m : Nat} {s s' : SharedT} {t : Thread} {f : Flow} {c : Code} {q : Pos},
    segF (stepT (denote tb) p w) n0 ann b m s t = some (f, s', c, q) → segRun tb p w n0 ann b m s.abs t = some (f, s'.abs, c, q)
  | 0, _, _, _, _, _, _, h => by cases h
  | m + 1, s, s', t, f, c, q, h => by
    unfold segF at h
    unfold segRun
    cases he : endAt b t with
    | some g =>
      rw [he] at h
      cases h
      rfl
    | none =>
      rw [he] at h
      cases hk : stepOk n0 ann t with
      | false =>
        rw [hk] at h
        cases h
      | true =>
        rw [hk] at h
        cases hs : stepT (denote tb) p w s t with
        | none =>
          rw [hs] at h
          cases h
        | some x =>
          obtain ⟨s2, t2⟩ := x
          rw [hs] at h
          have h3 : (frS s2 fun s' => segF (stepT (denote tb) p w) n0 ann b m s' t2) = some (f, s', c, q) := h
          rw [frS_eq] at h3
          dsimp only
          rw [stepT_spec hs]
          exact segF_ok h3
def isRet : Frame → Bool
  | .ret .. => true
  | .gen .. => false
def Inv (c : Code) (B : List Frame) (t : Thread) : Prop := (t.stack = B ∧ t.code = c) ∨ ∃ fs k h g l q kept, t.stack = fs ++ .ret k h g l c q kept :: B ∧ ∀ f ∈ fs, isRet f = true
theorem ro_step {den : Code → Sem Fin} {p : Program} {w : World} {c : Code} {B : List Frame} {s s2 : Shared} {t t2 : Thread} (hk : roOk B.length t = true) (he : endAt B.length t = none) (hi : Inv c B t) (h : step den p w s t = .go s2 t2) :
    s2 = s ∧ Inv c B t2 := by
  obtain ⟨heap, gens, drawn, toks, os⟩ := s
  obtain ⟨cur, code, pos, stack⟩ := t
  have plain : ∀ cur' pos', Inv c B ⟨cur', code, pos', stack⟩ := fun cur' pos' => hi
  cases cur with
  | pure f =>
    cases f with
    | done f =>
      rcases hi with ⟨rfl, rfl⟩ | ⟨fs, k, h', g, l, q, kept, rfl, hf⟩
      · simp [endAt] at he
      · cases fs with
        | nil =>
          simp only [List.nil_append, step, Step.go.injEq] at h
          obtain ⟨rfl, rfl⟩ := h
          exact ⟨rfl, .inl ⟨rfl, rfl⟩⟩
        | cons f' fs =>
          cases f' with
          | gen _ _ _ _ _ => exact absurd (hf _ (List.mem_cons_self ..)) (by simp [isRet])
          | ret k2 h2 g2 l2 c2 p2 kept2 =>
            simp only [List.cons_append, step, Step.go.injEq] at h
            obtain ⟨rfl, rfl⟩ := h
            exact ⟨rfl, .inr ⟨fs, _, _, _, _, _, _, rfl, fun f m => hf f (List.mem_cons_of_mem _ m)⟩⟩
    | again c2 =>
      rcases hi with ⟨rfl, rfl⟩ | ⟨fs, k, h', g, l, q, kept, rfl, hf⟩
      · simp [roOk] at hk
      · cases fs with
        | nil =>
          rw [List.nil_append, PySem.W.step_again] at h
          simp only [Step.go.injEq] at h
          obtain ⟨rfl, rfl⟩ := h
          exact ⟨rfl, .inr ⟨[], _, _, _, _, _, _, rfl, fun f m => (nomatch m)⟩⟩
        | cons f' fs =>
          cases f' with
          | gen _ _ _ _ _ => exact absurd (hf _ (List.mem_cons_self ..)) (by simp [isRet])
          | ret k2 h2 g2 l2 c3 p2 kept2 =>
            rw [List.cons_append, PySem.W.step_again] at h
            simp only [Step.go.injEq] at h
            obtain ⟨rfl, rfl⟩ := h
            refine ⟨rfl, .inr ⟨.ret k2 h2 g2 l2 c3 p2 (keptBy code c2 l2 kept2) :: fs, _, _, _, _, _, _, rfl, fun f m => ?_⟩⟩
            rcases List.mem_cons.mp m with rfl | m
            · rfl
            · exact hf f (List.mem_cons_of_mem _ m)
  | rule | «at» | loadIfAlive | point | ask | stack =>
    simp only [step, Step.go.injEq] at h
    obtain ⟨rfl, rfl⟩ := h
    exact ⟨rfl, plain _ _⟩
  | handled own k =>
    simp only [step, Step.go.injEq] at h
    obtain ⟨rfl, rfl⟩ := h
    exact ⟨rfl, plain _ _⟩
  | load a q k =>
    cases e : heap.get? a with
    | none => simp only [step, e] at h; cases h
    | some o =>
      simp only [step, e, Step.go.injEq] at h
      obtain ⟨rfl, rfl⟩ := h
      exact ⟨rfl, plain _ _⟩
  | call c2 m g l k =>
    simp only [step, Step.go.injEq] at h
    obtain ⟨rfl, rfl⟩ := h
    refine ⟨rfl, .inr ?_⟩
    rcases hi with ⟨rfl, rfl⟩ | ⟨fs, k', h', g', l', q, kept, rfl, hf⟩
    · exact ⟨[], _, _, _, _, _, _, rfl, fun f m => (nomatch m)⟩
    · refine ⟨_ :: fs, _, _, _, _, _, _, rfl, fun f m => ?_⟩
      rcases List.mem_cons.mp m with rfl | m
      · rfl
      · exact hf f m
  | _ => simp [roOk] at hk
theorem roF_ok {tb : String → Option Builtin} {p : Program} {w : World} {n0 : Nat} {ann : Option Value} {c : Code} {B : List Frame} : ∀ {m : Nat} {s : SharedT} {t : Thread} {f : Flow} {q : Pos},
    roF (stepT (denote tb) p w) n0 ann B.length m s t = some (f, q) → Inv c B t → segRun tb p w n0 ann B.length m s.abs t = some (f, s.abs, c, q)
  | 0, _, _, _, _, h, _ => by cases h
  | m + 1, s, t, f, q, h, hi => by
    unfold roF at h
    unfold segRun
    cases he : endAt B.length t with
    | some g =>
      rw [he] at h
      cases h
      have hl : (t.stack.length == B.length) = true := by
        unfold endAt at he
        cases e : t.stack.length == B.length with
        | true => rfl
        | false => rw [e] at he; cases he
      rcases hi with ⟨_, rfl⟩ | ⟨fs, k, h', g', l, q, kept, e, hf⟩
      · rfl
      · rw [e] at hl
        simp at hl
        omega
    | none =>
      rw [he] at h
      cases hr : roOk B.length t with
      | false =>
        rw [hr] at h
        cases h
      | true =>
        rw [hr] at h
        cases hk : stepOk n0 ann t with
        | false =>
          rw [hk] at h
          cases h
        | true =>
          rw [hk] at h
          cases hs : stepT (denote tb) p w s t with
          | none =>
            rw [hs] at h
            cases h
          | some x =>
            obtain ⟨s2, t2⟩ := x
            rw [hs] at h
            dsimp only
            have hs2 := stepT_spec hs
            obtain ⟨e2, hi2⟩ := ro_step hr he hi hs2
            rw [hs2, e2]
            exact roF_ok h hi2
section
variable {p : Program} {w : World} {n0 : Nat} {ann : Option Value} {B : List Frame} {r : Shared}
variable (p w n0 ann B r) in
def Run (N : Nat) (s : Shared) (x : Sem Fin) (c : Code) (q : Pos) : Prop := topRun treeTable p w n0 ann N s ⟨x, c, q, B⟩ = some r
theorem Run.le {N M : Nat} {s : Shared} {x : Sem Fin} {c : Code} {q : Pos} (h : Run p w n0 ann B r N s x c q) (l : N ≤ M) : Run p w n0 ann B r M s x c q := by
  have := topRun_mono (M - N) _ _ _ _ h
  rwa [show N + (M - N) = M by omega] at this
theorem Run.step {N : Nat} {s s2 : Shared} {x x2 : Sem Fin} {c c2 : Code} {q q2 : Pos} (hn : B.isEmpty = false) (h : Run p w n0 ann B r N s2 x2 c2 q2) (ok : stepOk n0 ann ⟨x, c, q, B⟩ = true)
    (hs : PySem.step (denote treeTable) p w s ⟨x, c, q, B⟩ = .go s2 ⟨x2, c2, q2, B⟩) : Run p w n0 ann B r (N + 1) s x c q := by
  unfold Run topRun
  have ht : through ⟨x, c, q, B⟩ = false := by
    unfold through
    rw [show (Thread.mk x c q B).stack.isEmpty = false from hn]
    rfl
  rw [ht, ok, hs]
  exact h
theorem Run.at {N : Nat} {s : Shared} {k : Unit → Sem Fin} {c : Code} {q q2 : Pos} (hn : B.isEmpty = false) (h : Run p w n0 ann B r N s (k ()) c q2) : Run p w n0 ann B r (N + 1) s (.at q2 k) c q :=
  Run.step hn h rfl rfl
theorem Run.rule {N : Nat} {s : Shared} {k : Unit → Sem Fin} {c : Code} {q : Pos} {tag : String} (hn : B.isEmpty = false) (h : Run p w n0 ann B r N s (k ()) c q) : Run p w n0 ann B r (N + 1) s (.rule tag k) c q :=
  Run.step hn h rfl rfl
theorem Run.load {N : Nat} {s : Shared} {k : Obj → Sem Fin} {c : Code} {q : Pos} {a : Addr} {part : Option Value} {o : Obj} (hn : B.isEmpty = false) (ho : s.heap.get? a = some o) (h : Run p w n0 ann B r N s (k o) c q) : Run p w n0 ann B r (N + 1) s (.load a part k) c q :=
  Run.step hn h rfl (by
    obtain ⟨heap, gens, drawn, toks, os⟩ := s
    have ho' : heap.get? a = some o := ho
    simp only [PySem.step, ho'])
theorem Run.seg {α : Type} {x : Sem α} {res : α → Flow} {gd : Bool → Bool} {lv : List Value → List Value} {n : Nat} {s s' : SharedT} {a : α} {c c' : Code} {q q' : Pos} {K : α → Sem Fin} {H : Value → Sem Fin} {N : Nat} (hB : splitAtGen B = none) (hr : ∀ a b, res a = res b → a = b)
    (h : segF (stepT (denote treeTable) p w) n0 ann B.length n s ⟨x.wrap (fun a => .pure (.done (res a))) deadEnd gd lv, c, q, B⟩ = some (res a, s', c', q'))
    (hk : Run p w n0 ann B r N s'.abs (K a) c' q') : Run p w n0 ann B r (n + N) s.abs (x.wrap K H gd lv) c q := by
  have h1 := segF_ok h
  obtain ⟨a', e, k⟩ := seg_top (res := res) (K' := K) (H' := H) hB n s.abs ⟨x.wrap (fun a => .pure (.done (res a))) deadEnd gd lv, c, q, B⟩ ⟨x.wrap K H gd lv, c, q, B⟩ (res a) s'.abs c' q' ⟨rfl, rfl, .inl ⟨rfl, rfl, x, rfl, rfl⟩⟩ h1
  obtain rfl := hr _ _ e
  exact k N r hk
theorem Run.ro {α : Type} {x : Sem α} {res : α → Flow} {gd : Bool → Bool} {lv : List Value → List Value} {n : Nat} {s : SharedT} {a : α} {c : Code} {q : Pos} {K : α → Sem Fin} {H : Value → Sem Fin} {N : Nat} (hB : splitAtGen B = none) (hr : ∀ a b, res a = res b → a = b)
    (h : roF (stepT (denote treeTable) p w) n0 ann B.length n s ⟨x.wrap (fun a => .pure (.done (res a))) deadEnd gd lv, c, q, B⟩ = some (res a, q))
    (hk : Run p w n0 ann B r N s.abs (K a) c q) : Run p w n0 ann B r (n + N) s.abs (x.wrap K H gd lv) c q := by
  have h1 := roF_ok (c := c) h (.inl ⟨rfl, rfl⟩)
  obtain ⟨a', e, k⟩ := seg_top (res := res) (K' := K) (H' := H) hB n s.abs ⟨x.wrap (fun a => .pure (.done (res a))) deadEnd gd lv, c, q, B⟩ ⟨x.wrap K H gd lv, c, q, B⟩ (res a) s.abs c q ⟨rfl, rfl, .inl ⟨rfl, rfl, x, rfl, rfl⟩⟩ h1
  obtain rfl := hr _ _ e
  exact k N r hk
section
variable {α β γ : Type} {K : α → Sem β} {H : Value → Sem β} {gd : Bool → Bool} {lv : List Value → List Value}
theorem wb (m : Sem γ) (f : γ → Sem α) : (m >>= f).wrap K H gd lv = m.wrap (fun a => (f a).wrap K H gd lv) H gd lv := by
  rw [Sem.bind_eq_wrap', Sem.wrap_wrap]
  rfl
theorem wb' (m : Sem γ) (f : γ → Sem α) : (m.bind f).wrap K H gd lv = m.wrap (fun a => (f a).wrap K H gd lv) H gd lv := wb m f
theorem wk (m : Sem α) (vs : List Value) : (m.keep vs).wrap K H gd lv = m.wrap K H gd (fun l => lv (vs ++ l)) := by
  rw [Sem.keep_eq_wrap, Sem.wrap_wrap]
  rfl
def hl (vs : List Value) (l : List Value) : List Value := match vs.filter fun | .ref _ => true | _ => false with
  | [] => l
  | refs => refs ++ l
theorem wh (m : Sem α) (vs : List Value) : (holding vs m).wrap K H gd lv = m.wrap K H gd (fun l => lv (hl vs l)) := by
  unfold holding hl
  generalize (vs.filter fun | .ref _ => true | _ => false) = fs
  cases fs with
  | nil => rfl
  | cons a as => exact wk m (a :: as)
theorem wp_ (a : α) : (Pure.pure a : Sem α).wrap K H gd lv = K a := rfl
end
end
end RX
set_option Elab.async false
set_option linter.all false
set_option maxRecDepth 100000
noncomputable section
namespace RX
open PySem PySem.W PySem.Calls PyProof.Rows HandSHeadRun
section
variable {p : Program} {w : World} {n0 : Nat} {ann : Option Value} {B : List Frame} {r : Shared}
def resB (b : Bool) : Flow := .ret (.bool b)
theorem resB_inj (a b : Bool) (h : resB a = resB b) : a = b := by
  simpa [resB] using h
variable (p w n0 ann B) in
def Asks (M : Nat) (s : SharedT) (c : Code) (q : Pos) (lv : List Value → List Value) (x : Sem Bool) (b : Bool) : Prop :=
  roF (stepT (denote treeTable) p w) n0 ann B.length M s ⟨x.wrap (fun a => .pure (.done (resB a))) deadEnd id lv, c, q, B⟩ = some (resB b, q)
theorem Asks.run {M : Nat} {s : SharedT} {c : Code} {q : Pos} {lv : List Value → List Value} {x : Sem Bool} {b : Bool} {K : Bool → Sem Fin} {H : Value → Sem Fin} {N : Nat} (hB : splitAtGen B = none) (h : Asks p w n0 ann B M s c q lv x b)
    (hk : Run p w n0 ann B r N s.abs (K b) c q) : Run p w n0 ann B r (M + N) s.abs (x.wrap K H id lv) c q := Run.ro hB resB_inj h hk
theorem fl (f : Nat → Option DictEntry) : True := trivial
theorem run_entries {s : Shared} {d : Addr} {part : Option Value} {o : Obj} {es : Array DictEntry} {m : Nat} {K : Array DictEntry → Sem Fin} {H : Value → Sem Fin} {lv : List Value → List Value} {N : Nat} {c : Code} {q : Pos} (hn : B.isEmpty = false) (ho : s.heap.get? d = some o) (hd : o.data = .dict es m)
    (hk : Run p w n0 ann B r N s (K es) c q) : Run p w n0 ann B r (N + 1) s ((dictEntries d part).wrap K H id lv) c q := by
  unfold dictEntries loadPart
  rw [wb]
  refine Run.load hn ho ?_
  show Run p w n0 ann B r N s ((match o.data with
    | .dict es _ => pure es
    | _ => unsupported "internal:not-a-dict" : Sem (Array DictEntry)).wrap K H id lv) c q
  rw [hd]
  exact hk
theorem run_epoch {s : Shared} {d : Addr} {part : Option Value} {o : Obj} {es : Array DictEntry} {m : Nat} {K : Nat → Sem Fin} {H : Value → Sem Fin} {lv : List Value → List Value} {N : Nat} {c : Code} {q : Pos} (hn : B.isEmpty = false) (ho : s.heap.get? d = some o) (hd : o.data = .dict es m)
    (hk : Run p w n0 ann B r N s (K m) c q) : Run p w n0 ann B r (N + 1) s ((dictEpoch d part).wrap K H id lv) c q := by
  unfold dictEpoch loadPart
  rw [wb]
  refine Run.load hn ho ?_
  show Run p w n0 ann B r N s ((match o.data with
    | .dict _ n => pure n
    | _ => unsupported "internal:not-a-dict" : Sem Nat).wrap K H id lv) c q
  rw [hd]
  exact hk
theorem run_quiets {M : Nat} {s : SharedT} {c : Code} {q : Pos} {lv : List Value → List Value} {K : MProd (Option Bool) PUnit → Sem Fin} {H : Value → Sem Fin} {N : Nat} (hB : splitAtGen B = none) :
    ∀ {ks : List Value}, (∀ k ∈ ks, Asks p w n0 ann B M s c q lv (eqIsQuiet 8 k) true) → Run p w n0 ann B r N s.abs (K ⟨none, ⟨⟩⟩) c q → True := fun _ _ => trivial
theorem run_mayTell {M : Nat} {s : SharedT} {c : Code} {q : Pos} {lv : List Value → List Value} {K : Bool → Sem Fin} {H : Value → Sem Fin} {N : Nat} {key : Value} (hB : splitAtGen B = none) (hq : Asks p w n0 ann B M s c q lv (eqIsQuiet 8 key) true)
    {ks : List Value} (hs : ∀ k ∈ ks, Asks p w n0 ann B M s c q lv (eqIsQuiet 8 k) true) (hk : Run p w n0 ann B r N s.abs (K false) c q) :
    Run p w n0 ann B r (M + ks.length * M + N) s.abs ((tableMayTell key ks).wrap K H id lv) c q := by
  unfold tableMayTell
  cases ks with
  | nil => exact Run.le hk (by omega)
  | cons k0 ks =>
    generalize hks : k0 :: ks = l at *
    have he : l.isEmpty = false := by rw [← hks]; rfl
    simp only [he, Bool.false_eq_true, if_false]
    rw [wb]
    rw [Nat.add_assoc]
    refine Asks.run hB hq ?_
    simp only [Bool.not_true, Bool.false_eq_true, if_false]
    rw [wb]
    clear hks he hq
    induction l with
    | nil =>
      exact Run.le hk (by omega)
    | cons k l ih =>
      rw [List.forIn_cons, wb, wb]
      refine Run.le (Asks.run hB (hs k (List.mem_cons_self ..)) (ih fun x m => hs x (List.mem_cons_of_mem _ m))) ?_
      rw [List.length_cons, Nat.add_mul]
      omega
theorem run_find {M : Nat} {s : SharedT} {c : Code} {q : Pos} {lv : List Value → List Value} {K : Option Nat → Sem Fin} {H : Value → Sem Fin} {N : Nat} {d a : Addr} {h : Int} {o : Obj} {es : Array DictEntry} {m : Nat} (hB : splitAtGen B = none) (hn : B.isEmpty = false)
    (ho : s.abs.heap.get? d = some o) (hd : o.data = .dict es m) (h1 : ∀ e ∈ es.toList, (e.key == .ref a) = false) (h2 : Asks p w n0 ann B M s c q (fun l => lv (hl [.ref a] l)) (eqIsQuiet 8 (.ref a)) true)
    (h3 : ∀ e ∈ es.toList, Asks p w n0 ann B M s c q (fun l => lv (hl [.ref a] l)) (eqIsQuiet 8 e.key) true)
    (h4 : ∀ e ∈ es.toList, Asks p w n0 ann B M s c q (fun l => lv (hl [.ref a] l)) (eqBool e.key (.ref a)) false) (hk : Run p w n0 ann B r N s.abs (K none) c q) :
    Run p w n0 ann B r (M + 1 + es.size * (2 * M + 3) + N) s.abs ((dictFind d (.ref a) h).wrap K H id lv) c q := by
  unfold dictFind
  rw [wh, wb]
  refine Run.le (run_entries (N := M + es.size * (2 * M + 3) + N) hn ho hd ?_) (by omega)
  simp only [List.all_cons, carriedByValue, Bool.false_and, Bool.false_eq_true, if_false]
  have hany : (es.any fun e => e.key == .ref a && e.hash != h) = false := by
    rw [Array.any_eq_false]
    intro i hi hh
    have := h1 es[i] (Array.getElem_mem_toList hi)
    rw [this] at hh
    cases hh
  simp only [hany, Bool.false_eq_true, if_false]
  have hpl : (placesWithHash es.size (fun i => es[i]?.map (·.hash)) h).length ≤ es.size := by
    unfold placesWithHash
    exact Nat.le_trans (List.length_filter_le _ _) (by simp)
  generalize placesWithHash es.size (fun i => es[i]?.map (·.hash)) h = places at *
  have hst : ∀ k ∈ places.filterMap (fun i => es[i]?.map (·.key)), ∃ e ∈ es.toList, e.key = k := by
    intro k hk
    obtain ⟨i, _, e⟩ := List.mem_filterMap.mp hk
    obtain ⟨x, hx, rfl⟩ := Option.map_eq_some_iff.mp e
    exact ⟨x, by
      obtain ⟨hi, rfl⟩ := Array.getElem?_eq_some_iff.mp hx
      exact Array.getElem_mem_toList hi, rfl⟩
  have hsl : (places.filterMap (fun i => es[i]?.map (·.key))).length ≤ es.size := Nat.le_trans (List.length_filterMap_le ..) hpl
  generalize places.filterMap (fun i => es[i]?.map (·.key)) = stored at *
  have h3' : ∀ k ∈ stored, Asks p w n0 ann B M s c q (fun l => lv (hl [.ref a] l)) (eqIsQuiet 8 k) true := fun k hk => by
    obtain ⟨e, he, rfl⟩ := hst k hk
    exact h3 e he
  have len : places.length * (M + 3) + N ≤ es.size * (M + 3) + N := Nat.add_le_add_right (Nat.mul_le_mul_right _ hpl) _
  have len2 : stored.length * M ≤ es.size * M := Nat.mul_le_mul_right _ hsl
  have len3 : es.size * (2 * M + 3) = es.size * (M + 3) + es.size * M := by
    rw [← Nat.mul_add]
    congr 1
    omega
  have loop : ∀ (F : Nat → Option (Option Nat) × Option Nat → Sem (ForInStep (Option (Option Nat) × Option Nat))),
      (∀ (i : Nat) (N : Nat) (K : ForInStep (Option (Option Nat) × Option Nat) → Sem PySem.Fin), Run p w n0 ann B r N s.abs (K (.yield (none, none))) c q → Run p w n0 ann B r (N + (M + 3)) s.abs ((F i (none, none)).wrap K H id (fun l => lv (hl [.ref a] l))) c q) →
      ∀ (pl : List Nat) (K : Option (Option Nat) × Option Nat → Sem PySem.Fin), Run p w n0 ann B r N s.abs (K (none, none)) c q → Run p w n0 ann B r (pl.length * (M + 3) + N) s.abs ((forIn pl (none, none) F).wrap K H id (fun l => lv (hl [.ref a] l))) c q := by
    intro F hF pl
    induction pl with
    | nil => intro K hk; exact Run.le hk (by omega)
    | cons x pl ih =>
      intro K hk
      rw [List.forIn_cons, wb]
      refine Run.le (hF x _ _ (ih K hk)) ?_
      rw [List.length_cons, Nat.add_mul]
      omega
  have body : ∀ (F : Nat → Option (Option Nat) × Option Nat → Sem (ForInStep (Option (Option Nat) × Option Nat))), True := fun _ => trivial
  by_cases hc : (stored == [Value.ref a]) = true
  · rw [if_pos hc, wb]
    show Run p w n0 ann B r _ s.abs (Sem.wrap K H id (fun l => lv (hl [Value.ref a] l)) _) c q
    simp only [Bool.false_and, Bool.false_eq_true, if_false]
    rw [wb]
    refine Run.le (loop _ ?_ places _ hk) (by omega)
    clear loop body
    intro i N K hk
    cases hx : es[i]? with
    | none => exact Run.le hk (by omega)
    | some e =>
      have hm : e ∈ es.toList := by
        obtain ⟨hi, rfl⟩ := Array.getElem?_eq_some_iff.mp hx
        exact Array.getElem_mem_toList hi
      dsimp only
      split
      · rw [wb]
        refine Run.le (run_epoch (N := M + (N + 2)) hn ho hd ?_) (by omega)
        rw [wb]
        refine Asks.run hB (h4 e hm) ?_
        rw [wb]
        refine Run.le (run_epoch (N := N + 1) hn ho hd ?_) (by omega)
        simp only [bne_self_eq_false, Bool.false_eq_true, if_false]
        rw [wb]
        exact Run.rule hn hk
      · exact Run.le hk (by omega)
  · rw [if_neg hc, wb]
    refine Run.le (run_mayTell hB h2 h3' (N := es.size * (M + 3) + N) ?_) (by omega)
    simp only [Bool.false_and, Bool.false_eq_true, if_false]
    rw [wb]
    refine Run.le (loop _ ?_ places _ hk) (by omega)
    clear loop body
    intro i N K hk
    cases hx : es[i]? with
    | none => exact Run.le hk (by omega)
    | some e =>
      have hm : e ∈ es.toList := by
        obtain ⟨hi, rfl⟩ := Array.getElem?_eq_some_iff.mp hx
        exact Array.getElem_mem_toList hi
      dsimp only
      split
      · rw [wb]
        refine Run.le (run_epoch (N := M + (N + 2)) hn ho hd ?_) (by omega)
        rw [wb]
        refine Asks.run hB (h4 e hm) ?_
        rw [wb]
        refine Run.le (run_epoch (N := N + 1) hn ho hd ?_) (by omega)
        simp only [bne_self_eq_false, Bool.false_eq_true, if_false]
        rw [wb]
        exact Run.rule hn hk
      · exact Run.le hk (by omega)
end
end RX
set_option Elab.async false
set_option linter.all false
set_option maxRecDepth 100000
noncomputable section
namespace RX
open PySem PySem.W PySem.Calls PyProof.Rows HandSHeadRun
def hsh : Str := "__hash__"
structure Ops where
  room : Value → Sem Unit
  spe : Value → Sem (Option Value)
  cal : Value → Sem (Option Value)
  qt : Value → Sem Bool
  eq : Value → Value → Sem Bool
  upd : Addr → (Array DictEntry → Array DictEntry) → Sem Unit
  ev : PySem.Expr → Env → Sem Value
  sws : List PySem.Expr → PySem.Expr → Pos → Env → Sem Bool
  asg : List PySem.Expr → PySem.Expr → Env → Value → Sem Flow
  bs : List Stmt → Env → Sem Unit
  exs : List Stmt → Env → Sem Flow
def rfV (v : Value) : Sem Value := (rule "hash.unhashable").bind fun _ => (PySem.typeNameOf v).bind fun n => raiseErrorMade "TypeError" (toString "unhashable type: '" ++ toString n ++ toString "'")
def ops0 : Ops := ⟨fun v => cRoomFor "hash" [v], fun v => specialOf v hsh, fun v => callSpecialIfBoundUnlessNone? v hsh (rfV v), eqIsQuiet 8, eqBool, fun d f => updateDictKeys d f none, eval,
  fun ts v pos env => (standAt pos) >>= fun _ => swapsWithSole ts v pos.line env, fun ts v env x => (swappedStores ts v env) >>= fun w => assignStores env x w ((assignEach ts env).map (·.2)), blockStart, execs⟩
def resU (_ : Unit) : Flow := .next
def resV (v : Value) : Flow := .ret v
def resA (a : Addr) : Flow := .ret (.ref a)
def resO : Option Value → Flow
  | some v => .ret v
  | none => .next
theorem resU_inj (a b : Unit) (_ : resU a = resU b) : a = b := rfl
theorem resV_inj (a b : Value) (h : resV a = resV b) : a = b := by simpa [resV] using h
theorem resA_inj (a b : Addr) (h : resA a = resA b) : a = b := by simpa [resA] using h
theorem resO_inj (a b : Option Value) (h : resO a = resO b) : a = b := by
  cases a <;> cases b <;> simp_all [resO]
section
variable (st : SharedT → Thread → Option (SharedT × Thread)) (n0 : Nat) (ann : Option Value) (B : List Frame) (M : Nat) (O : Ops)
abbrev Sg : Type := Option (Flow × SharedT × Code × Pos)
def sg {α : Type} (res : α → Flow) (lv : List Value → List Value) (x : Sem α) (s : SharedT) (c : Code) (q : Pos) : Sg :=
  segF st n0 ann B.length M s ⟨x.wrap (fun a => .pure (.done (res a))) deadEnd id lv, c, q, B⟩
def ask (b : Bool) (lv : List Value → List Value) (x : Sem Bool) (s : SharedT) (c : Code) (q : Pos) : Bool :=
  match roF st n0 ann B.length M s ⟨x.wrap (fun a => .pure (.done (resB a))) deadEnd id lv, c, q, B⟩ with
  | some (.ret (.bool b'), q') => (b' == b) && decide (q' = q)
  | _ => false
def hashF (lv : List Value → List Value) (v : Value) (s : SharedT) (c : Code) (q : Pos) : Option (Int × SharedT × Code × Pos) :=
  match sg st n0 ann B M resU lv (O.room v) s c q with
  | some (.next, s, c, q) => (match sg st n0 ann B M resO lv (O.spe v) s c q with
    | some (.ret x, s, c, q) => (match some x == some Value.none with
      | false => (match sg st n0 ann B M resO lv (O.spe v) s c q with
        | some (.ret _, s, c, q) => (match sg st n0 ann B M resO lv (O.cal v) s c q with
          | some (.ret (.int i _), s, c, q) => some (i, s, c, q)
          | _ => none)
        | _ => none)
      | true => none)
    | _ => none)
  | _ => none
end
theorem sg_run {p : Program} {w : World} {n0 : Nat} {ann : Option Value} {B : List Frame} {r : Shared} {α : Type} {x : Sem α} {res : α → Flow} {lv : List Value → List Value} {M : Nat} {s s' : SharedT} {a : α} {f : Flow} {c c' : Code} {q q' : Pos} {K : α → Sem Fin} {H : Value → Sem Fin} {N : Nat}
    (h : sg (stepT (denote treeTable) p w) n0 ann B M res lv x s c q = some (f, s', c', q')) (hf : f = res a) (hB : splitAtGen B = none) (hr : ∀ a b, res a = res b → a = b)
    (hk : Run p w n0 ann B r N s'.abs (K a) c' q') : Run p w n0 ann B r (M + N) s.abs (x.wrap K H id lv) c q := by
  subst hf
  exact Run.seg hB hr h hk
theorem ask_asks {p : Program} {w : World} {n0 : Nat} {ann : Option Value} {B : List Frame} {M : Nat} {b : Bool} {lv : List Value → List Value} {x : Sem Bool} {s : SharedT} {c : Code} {q : Pos}
    (h : ask (stepT (denote treeTable) p w) n0 ann B M b lv x s c q = true) : Asks p w n0 ann B M s c q lv x b := by
  unfold ask at h
  unfold Asks
  split at h
  · rename_i b' q' e
    rw [e]
    simp only [Bool.and_eq_true, beq_iff_eq, decide_eq_true_eq] at h
    obtain ⟨rfl, rfl⟩ := h
    rfl
  · cases h
theorem run_reduced {p : Program} {w : World} {n0 : Nat} {ann : Option Value} {B : List Frame} {r s : Shared} {i : Int} {c : Code} {q : Pos} {K : Int → Sem Fin} {H : Value → Sem Fin} {lv : List Value → List Value} {N : Nat} (hn : B.isEmpty = false)
    (hk : Run p w n0 ann B r N s (K (reduceHash i)) c q) : Run p w n0 ann B r (N + 1) s ((pyHashByItsType.reduced i).wrap K H id lv) c q := by
  unfold pyHashByItsType.reduced
  unfold reduceHash at hk
  split
  · rename_i h
    rw [if_pos h] at hk
    exact Run.le hk (by omega)
  · rename_i h
    rw [if_neg h] at hk
    rw [wb]
    exact Run.rule hn hk
theorem hash_run {p : Program} {w : World} {n0 : Nat} {ann : Option Value} {B : List Frame} {r : Shared} {lv : List Value → List Value} {M : Nat} {s s' : SharedT} {i : Int} {a : Addr} {c c' : Code} {q q' : Pos} {K : Int → Sem Fin} {H : Value → Sem Fin} {N : Nat}
    (hB : splitAtGen B = none) (hn : B.isEmpty = false) (h : hashF (stepT (denote treeTable) p w) n0 ann B M ops0 lv (.ref a) s c q = some (i, s', c', q'))
    (hk : Run p w n0 ann B r N s'.abs (K (reduceHash i)) c' q') : Run p w n0 ann B r (4 * M + 1 + N) s.abs ((pyHash (.ref a)).wrap K H id lv) c q := by
  show Run p w n0 ann B r (4 * M + 1 + N) s.abs ((pyHashByItsType (.ref a)).wrap K H id lv) c q
  unfold pyHashByItsType
  dsimp only
  rw [wb, wb]
  unfold hashF at h
  split at h
  · rename_i s1 c1 q1 e1
    split at h
    · rename_i x s2 c2 q2 e2
      split at h
      · rename_i ex
        split at h
        · rename_i y s3 c3 q3 e3
          split at h
          · rename_i j t s4 c4 q4 e4
            cases h
            refine Run.le (N := M + (M + (M + (M + (N + 1))))) (sg_run e1 (a := ()) rfl hB resU_inj ?_) (by omega)
            refine sg_run e2 (a := some x) rfl hB resO_inj ?_
            rw [ex]
            simp only [Bool.false_eq_true, if_false]
            rw [wb]
            refine sg_run e3 (a := some y) rfl hB resO_inj ?_
            simp only [Option.isNone_some, Bool.false_eq_true, if_false]
            rw [wb]
            refine sg_run e4 (a := some (.int i t)) rfl hB resO_inj ?_
            exact run_reduced hn hk
          · cases h
        · cases h
      · cases h
    · cases h
  · cases h
end RX
set_option Elab.async false
set_option linter.all false
set_option maxRecDepth 100000
noncomputable section
namespace RX
open PySem PySem.W PySem.Calls PyProof.Rows HandSHeadRun
section
variable (st : SharedT → Thread → Option (SharedT × Thread)) (n0 : Nat) (ann : Option Value) (B : List Frame) (M : Nat) (O : Ops)
def evP (lv : List Value → List Value) : List (Sem Value × Sem Value) → SharedT → Code → Pos → Option (List (Value × Value) × SharedT × Code × Pos)
  | [], s, c, q => some ([], s, c, q)
  | x :: rest, s, c, q => match sg st n0 ann B M resV lv x.1 s c q with
    | some (.ret kv, s, c, q) => (match sg st n0 ann B M resV (fun l => lv (hl [kv] l)) x.2 s c q with
      | some (.ret vv, s, c, q) => (match evP (fun l => lv (hl [kv, vv] l)) rest s c q with
        | some (r, s, c, q) => some ((kv, vv) :: r, s, c, q)
        | none => none)
      | _ => none)
    | _ => none
def entsT (s : SharedT) (d : Addr) : Option (Array DictEntry) := match getT s d with
  | some ⟨_, _, .dict es _, _⟩ => some es
  | _ => none
def clearF (lv : List Value → List Value) (key : Value) (s : SharedT) (c : Code) (q : Pos) (e : DictEntry) : Bool :=
  !(e.key == key) && ask st n0 ann B M true lv (O.qt e.key) s c q && ask st n0 ann B M false lv (O.eq e.key key) s c q
def setF (lv : List Value → List Value) (d : Addr) : List (Value × Value) → SharedT → Code → Pos → Option (SharedT × Code × Pos)
  | [], s, c, q => some (s, c, q)
  | (.ref a, v) :: rest, s, c, q => (match hashF st n0 ann B M O (fun l => lv (hl [.ref a, v] l)) (.ref a) s c q with
    | some (i, s, c, q) => (match entsT s d with
      | some es => (match Nat.ble es.size 20 && ask st n0 ann B M true (fun l => lv (hl [.ref a, v] (hl [.ref a, v] (hl [.ref a] l)))) (O.qt (.ref a)) s c q &&
          es.toList.all (clearF st n0 ann B M O (fun l => lv (hl [.ref a, v] (hl [.ref a, v] (hl [.ref a] l)))) (.ref a) s c q) with
        | true => (match sg st n0 ann B M resU (fun l => lv (hl [.ref a, v] (hl [.ref a, v] l))) (O.upd d (·.push ⟨reduceHash i, .ref a, v⟩)) s c q with
          | some (.next, s, c, q) => setF lv d rest s c q
          | _ => none)
        | false => none)
      | none => none)
    | none => none)
  | _ :: _, _, _, _ => none
end
section
variable {p : Program} {w : World} {n0 : Nat} {ann : Option Value} {B : List Frame} {r : Shared} {M : Nat} {H : Value → Sem Fin}
theorem evP_run (hB : splitAtGen B = none) : ∀ {ps : List (Sem Value × Sem Value)} {lv : List Value → List Value} {s s' : SharedT} {c c' : Code} {q q' : Pos} {vs : List (Value × Value)} {K : List (Value × Value) → Sem Fin} {N : Nat},
    evP (stepT (denote treeTable) p w) n0 ann B M lv ps s c q = some (vs, s', c', q') → Run p w n0 ann B r N s'.abs (K vs) c' q' → Run p w n0 ann B r (ps.length * (2 * M) + N) s.abs ((evalPairs ps).wrap K H id lv) c q
  | [], lv, s, s', c, c', q, q', vs, K, N, h, hk => by
    cases h
    exact Run.le hk (by omega)
  | (k, v) :: rest, lv, s, s', c, c', q, q', vs, K, N, h, hk => by
    unfold evP at h
    split at h
    · rename_i kv s1 c1 q1 e1
      split at h
      · rename_i vv s2 c2 q2 e2
        split at h
        · rename_i vr s3 c3 q3 e3
          cases h
          unfold evalPairs
          rw [wb]
          refine Run.le (N := M + (M + (rest.length * (2 * M) + N))) (sg_run e1 (a := kv) rfl hB resV_inj ?_) (by
            rw [List.length_cons, Nat.add_mul]
            omega)
          rw [wb, wh]
          refine sg_run e2 (a := vv) rfl hB resV_inj ?_
          rw [wb, wh]
          exact evP_run hB e3 hk
        · cases h
      · cases h
    · cases h
theorem ents_of {s : SharedT} {d : Addr} {es : Array DictEntry} (h : entsT s d = some es) : ∃ o m, s.abs.heap.get? d = some o ∧ o.data = .dict es m := by
  unfold entsT at h
  split at h
  · rename_i cl dc es' m sl e
    cases h
    rw [getT_eq] at e
    exact ⟨_, m, e, rfl⟩
  · cases h
theorem dictSet_x (d : Addr) (a : Addr) (v : Value) : dictSet d (.ref a) v = holding [.ref a, v] ((pyHash (.ref a)) >>= fun h => dictSetHashed d (.ref a) h v) := rfl
theorem setF_run (hB : splitAtGen B = none) (hn : B.isEmpty = false) {d : Addr} {lv : List Value → List Value} : ∀ {vs : List (Value × Value)} {s s' : SharedT} {c c' : Code} {q q' : Pos} {K : PUnit → Sem Fin} {N : Nat},
    setF (stepT (denote treeTable) p w) n0 ann B M ops0 lv d vs s c q = some (s', c', q') → Run p w n0 ann B r N s'.abs (K ⟨⟩) c' q' →
    Run p w n0 ann B r (vs.length * (50 * M + 70) + N) s.abs ((forIn vs PUnit.unit fun (x : Value × Value) (_ : PUnit) => (match x with | (k, v) => (dictSet d k v) >>= fun _ => Pure.pure (ForInStep.yield PUnit.unit) : Sem (ForInStep PUnit))).wrap K H id lv) c q
  | [], s, s', c, c', q, q', K, N, h, hk => by
    cases h
    exact Run.le hk (by omega)
  | (k, v) :: rest, s, s', c, c', q, q', K, N, h, hk => by
    cases k with
    | ref a =>
      unfold setF at h
      split at h
      · rename_i i s1 c1 q1 e1
        split at h
        · rename_i es e2
          split at h
          · rename_i e3
            split at h
            · rename_i s4 c4 q4 e4
              have ih := setF_run hB hn h hk
              simp only [Bool.and_eq_true, List.all_eq_true] at e3
              obtain ⟨⟨l1, l2⟩, l3⟩ := e3
              obtain ⟨o, m, ho, hd⟩ := ents_of e2
              have hes := Nat.le_of_ble_eq_true l1
              have hes2 : es.size * (2 * M + 3) ≤ 20 * (2 * M + 3) := Nat.mul_le_mul_right _ hes
              rw [List.forIn_cons, wb]
              dsimp only
              rw [wb]
              rw [dictSet_x]
              rw [wh, wb]
              refine Run.le (N := 4 * M + 1 + ((M + 1 + es.size * (2 * M + 3)) + ((M + (rest.length * (50 * M + 70) + N)) + 1))) (hash_run hB hn e1 ?_) (by
                rw [List.length_cons, Nat.add_mul]
                omega)
              unfold dictSetHashed
              rw [wh, wb]
              refine run_find (o := o) (es := es) (m := m) hB hn ho hd (fun e he => ?_) (ask_asks l2) (fun e he => ?_) (fun e he => ?_) ?_
              · have := l3 e he
                simp only [clearF, Bool.and_eq_true, Bool.not_eq_true'] at this
                exact this.1.1
              · have := l3 e he
                simp only [clearF, Bool.and_eq_true, Bool.not_eq_true'] at this
                exact ask_asks this.1.2
              · have := l3 e he
                simp only [clearF, Bool.and_eq_true, Bool.not_eq_true'] at this
                exact ask_asks this.2
              dsimp only
              rw [wb]
              refine Run.rule hn ?_
              change Run p w n0 ann B r _ _ ((updateDictKeys d _ _).wrap _ H id _) _ _
              refine sg_run e4 (a := ()) rfl hB resU_inj ?_
              exact ih
            · cases h
          · cases h
        · cases h
      · cases h
    | _ => cases h
end
end RX
set_option Elab.async false
set_option linter.all false
set_option maxRecDepth 100000
noncomputable section
namespace RX
open PySem PySem.W PySem.Calls PyProof.Rows HandSHeadRun
theorem exec_assign0 (targets : List PySem.Expr) (value : PySem.Expr) (pos : Pos) (env : Env) : exec (.Assign targets value pos) env =
  ((standAt pos).bind fun _ => swapsWithSole targets value pos.line env).bind fun b => if b then ((evalThenUse value env fun v => assignAll v ((assignEach targets env).map (·.2))).bind fun _ => .pure .next) else
      (eval value env).bind fun v => (swappedStores targets value env).bind fun w => assignStores env v w ((assignEach targets env).map (·.2)) := by
  first | rfl | (rw [exec]; rfl) | (simp only [exec]; rfl)
theorem exec_assign (targets : List PySem.Expr) (value : PySem.Expr) (pos : Pos) (env : Env) : ∃ z : Sem Flow, exec (.Assign targets value pos) env =
  (((standAt pos) >>= fun _ => swapsWithSole targets value pos.line env) >>= fun b => if b = true then z else
      (eval value env) >>= fun v => (swappedStores targets value env) >>= fun w => assignStores env v w ((assignEach targets env).map (·.2))) :=
  ⟨_, exec_assign0 targets value pos env⟩
theorem eval_dict (keys : List (Option PySem.Expr)) (values : List PySem.Expr) (pos : Pos) (env : Env) : eval (.Dict keys values pos) env =
  ((standAt pos) >>= fun _ => dictDisplay ((evalEachOpt keys env).zip ((evalEach values env).map fun v => v >>= fun x => (standAt pos) >>= fun _ => Pure.pure x))) := by
  rw [eval]
def pairsOf (O : Ops) (env : Env) (pos : Pos) : List (Option PySem.Expr) → List PySem.Expr → List (Sem Value × Sem Value)
  | some k :: ks, v :: vs => (O.ev k env, (O.ev v env) >>= fun x => (standAt pos) >>= fun _ => Pure.pure x) :: pairsOf O env pos ks vs
  | _, _ => []
def allSome : List (Option PySem.Expr) → List PySem.Expr → Bool
  | some _ :: ks, _ :: vs => allSome ks vs
  | [], [] => true
  | _, _ => false
theorem pairs_zip {env : Env} {pos : Pos} : ∀ {ks : List (Option PySem.Expr)} {vs : List PySem.Expr}, allSome ks vs = true →
    (evalEachOpt ks env).zip ((evalEach vs env).map fun v => v >>= fun x => (standAt pos) >>= fun _ => Pure.pure x) = (pairsOf ops0 env pos ks vs).map fun x => (some x.1, x.2)
  | [], [], _ => rfl
  | some k :: ks, v :: vs, h => by
    have ih := pairs_zip (env := env) (pos := pos) (show allSome ks vs = true from h)
    show (some (eval k env), _) :: List.zip (evalEachOpt ks env) ((evalEach vs env).map _) = _
    rw [ih]
    rfl
  | none :: _, _, h => by cases h
  | [], _ :: _, h => by cases h
  | some _ :: _, [], h => by cases h
theorem display_sub {ps : List (Sem Value × Sem Value)} (h0 : ps ≠ []) (h1 : ps.length ≤ 15) : dictDisplay (ps.map fun x => (some x.1, x.2)) = ((subDict ps) >>= fun d => Pure.pure (Value.ref d)) := by
  have loop : ∀ (F : Option (Sem Value) × Sem Value → Option Addr × List (Sem Value × Sem Value) → Sem (ForInStep (Option Addr × List (Sem Value × Sem Value)))),
      (∀ x run, run.length ≤ 15 → F (some x.1, x.2) (none, run) = Pure.pure (ForInStep.yield (none, run ++ [x]))) →
      ∀ (l run : List (Sem Value × Sem Value)), run.length + l.length ≤ 15 → forIn (l.map fun x => (some x.1, x.2)) (none, run) F = Pure.pure (none, run ++ l) := by
    intro F hF l
    induction l with
    | nil => intro run _; simp
    | cons x l ih =>
      intro run h
      rw [List.length_cons] at h
      rw [List.map_cons, List.forIn_cons, hF x run (by omega), pure_bind]
      dsimp only
      rw [ih (run ++ [x]) (by simp; omega)]
      simp
  unfold dictDisplay
  dsimp only
  rw [loop _ (fun x run h => ?_) ps [] (by simpa using h1), pure_bind]
  · dsimp only
    rw [List.nil_append]
    have he : ps.isEmpty = false := by
      cases ps with
      | nil => exact absurd rfl h0
      | cons _ _ => rfl
    simp only [he, Bool.false_eq_true, if_false, bind_assoc, pure_bind]
  · dsimp only
    rw [if_neg (by simp; omega)]
section
variable (st : SharedT → Thread → Option (SharedT × Thread)) (n0 : Nat) (ann : Option Value) (B : List Frame) (M : Nat) (O : Ops)
def tabF (env : Env) (stm : Stmt) (s : SharedT) (c : Code) (q : Pos) : Option (SharedT × Code × Pos) := match stm with
  | .Assign targets (.Dict keys values dpos) pos => (match allSome keys values && Nat.ble 1 keys.length && Nat.ble keys.length 15 with
    | true => (match sg st n0 ann B M resB id (O.sws targets (.Dict keys values dpos) pos env) s c q with
      | some (.ret (.bool false), s, c, _) => (match sg st n0 ann B M resA id (alloc { cls := .type "dict", data := .dict #[] }) s c dpos with
        | some (.ret (.ref d), s, c, q) => (match evP st n0 ann B M (hl [.ref d]) (pairsOf O env dpos keys values) s c q with
          | some (vs, s, c, q) => (match setF st n0 ann B M O (fun l => hl [.ref d] (hl (vs.flatMap fun x => [x.1, x.2]) l)) d vs s c q with
            | some (s, c, q) => (match sg st n0 ann B M id id (O.asg targets (.Dict keys values dpos) env (.ref d)) s c q with
              | some (.next, s, c, q) => some (s, c, q)
              | _ => none)
            | none => none)
          | none => none)
        | _ => none)
      | _ => none)
    | false => none)
  | _ => none
end
theorem len_pairs {O : Ops} {env : Env} {pos : Pos} : ∀ {ks : List (Option PySem.Expr)} {vs : List PySem.Expr}, allSome ks vs = true → (pairsOf O env pos ks vs).length = ks.length
  | [], [], _ => rfl
  | some k :: ks, v :: vs, h => congrArg (· + 1) (len_pairs (O := O) (env := env) (pos := pos) (show allSome ks vs = true from h))
  | none :: _, _, h => by cases h
  | [], _ :: _, h => by cases h
  | some _ :: _, [], h => by cases h
theorem len_evP {st : SharedT → Thread → Option (SharedT × Thread)} {n0 : Nat} {ann : Option Value} {B : List Frame} {M : Nat} : ∀ {ps : List (Sem Value × Sem Value)} {lv : List Value → List Value} {s s' : SharedT} {c c' : Code} {q q' : Pos} {vs : List (Value × Value)},
    evP st n0 ann B M lv ps s c q = some (vs, s', c', q') → vs.length = ps.length
  | [], lv, s, s', c, c', q, q', vs, h => by cases h; rfl
  | x :: rest, lv, s, s', c, c', q, q', vs, h => by
    unfold evP at h
    split at h
    · split at h
      · split at h
        · rename_i e
          cases h
          exact congrArg (· + 1) (len_evP e)
        · cases h
      · cases h
    · cases h
section
variable {p : Program} {w : World} {n0 : Nat} {ann : Option Value} {B : List Frame} {r : Shared} {M : Nat}
theorem tabF_run (hB : splitAtGen B = none) (hn : B.isEmpty = false) {env : Env} {stm : Stmt} {s s' : SharedT} {c c' : Code} {q q' : Pos} {K : Flow → Sem Fin} {H : Value → Sem Fin} {N : Nat}
    (h : tabF (stepT (denote treeTable) p w) n0 ann B M ops0 env stm s c q = some (s', c', q')) (hk : Run p w n0 ann B r N s'.abs (K .next) c' q') : Run p w n0 ann B r (1000 * M + 2000 + N) s.abs ((exec stm env).wrap K H id id) c q := by
  unfold tabF at h
  split at h
  · rename_i targets keys values dpos pos
    split at h
    · rename_i hc
      simp only [Bool.and_eq_true] at hc
      obtain ⟨⟨h1, h2⟩, h3⟩ := hc
      have h2 := Nat.le_of_ble_eq_true h2
      have h3 := Nat.le_of_ble_eq_true h3
      split at h
      · rename_i s1 c1 q1 e1
        split at h
        · rename_i d s2 c2 q2 e2
          split at h
          · rename_i vs s3 c3 q3 e3
            split at h
            · rename_i s4 c4 q4 e4
              split at h
              · rename_i s5 c5 q5 e5
                cases h
                have hl1 := len_pairs (O := ops0) (env := env) (pos := dpos) h1
                have hl2 := len_evP e3
                obtain ⟨z, hz⟩ := exec_assign targets (.Dict keys values dpos) pos env
                rw [hz, wb]
                have b1 : keys.length * (2 * M) ≤ 15 * (2 * M) := Nat.mul_le_mul_right _ h3
                have b2 : keys.length * (50 * M + 70) ≤ 15 * (50 * M + 70) := Nat.mul_le_mul_right _ h3
                refine Run.le (N := M + ((M + (keys.length * (2 * M) + (keys.length * (50 * M + 70) + (M + N)))) + 1)) (sg_run e1 (a := false) rfl hB resB_inj ?_) (by omega)
                simp only [Bool.false_eq_true, if_false]
                rw [wb, eval_dict, pairs_zip h1, display_sub (by
                  intro e
                  rw [e] at hl1
                  simp at hl1
                  omega) (by omega), wb]
                refine Run.at hn ?_
                change Run p w n0 ann B r _ _ (Sem.wrap _ H id id (subDict (pairsOf ops0 env dpos keys values) >>= fun d => Pure.pure (Value.ref d))) _ _
                unfold subDict
                rw [wb, wb]
                refine sg_run e2 (a := d) rfl hB resA_inj ?_
                rw [wb, wh, if_pos (by omega), wb]
                rw [← hl1]
                refine evP_run hB e3 ?_
                rw [hl1]
                rw [wh, wb]
                rw [← hl1, ← hl2]
                refine setF_run hB hn e4 ?_
                change Run p w n0 ann B r _ _ (Sem.wrap K H id id (swappedStores targets (.Dict keys values dpos) env >>= _)) _ _
                refine sg_run e5 (a := .next) rfl hB (fun _ _ h => h) ?_
                exact hk
              · cases h
            · cases h
          · cases h
        · cases h
      · cases h
    · cases h
  · cases h
end
end RX
set_option Elab.async false
set_option linter.all false
set_option maxRecDepth 100000
noncomputable section
namespace RX
open PySem PySem.W PySem.Calls PyProof.Rows HandSHeadRun
structure Call where
  s : SharedT
  b : List Stmt
  env : Env
  h : Option Value
  g : Bool
  l : List Value
  k : Result → Sem Fin
  code : Code
  pos : Pos
section
variable (st : SharedT → Thread → Option (SharedT × Thread)) (n0 : Nat) (ann : Option Value)
def preF : Nat → SharedT → Thread → Option Call
  | 0, _, _ => none
  | m + 1, s, ⟨cur, code, pos, stack⟩ => match stepOk n0 ann ⟨cur, code, pos, stack⟩ && !through ⟨cur, code, pos, stack⟩ with
    | false => none
    | true => match stack, cur with
      | [], .call (.body b env) h g l k => some ⟨s, b, env, h, g, l, k, code, pos⟩
      | stack, cur => match st s ⟨cur, code, pos, stack⟩ with
        | some (s', t') => frS s' fun s' => preF m s' t'
        | none => none
variable (M : Nat) (O : Ops)
def topF (i : Nat) (x : SharedT) (t : Thread) : Option SharedT := match preF st n0 ann M x t with
  | some ⟨s, b, env, h, g, l, k, code, pos⟩ => (match sg st n0 ann [.ret k h g l code pos []] M resU id (O.bs b env) s (.body b env) pos with
    | some (.next, s, c, q) => (match sg st n0 ann [.ret k h g l code pos []] M id id (O.exs (b.take i) env) s c q with
      | some (.next, s, c, q) => (match b.drop i with
        | stm :: rest => (match tabF st n0 ann [.ret k h g l code pos []] M O env stm s c q with
          | some (s, c, q) => (match sg st n0 ann [.ret k h g l code pos []] M id id (O.exs rest env) s c q with
            | some (.next, s, c, q) => goF st n0 ann M s ⟨doneF .next, c, q, [.ret k h g l code pos []]⟩
            | _ => none)
          | none => none)
        | [] => none)
      | _ => none)
    | _ => none)
  | none => none
end
theorem preF_ok {p : Program} {w : World} {n0 : Nat} {ann : Option Value} : ∀ {m : Nat} {s : SharedT} {t : Thread} {x : Call}, preF (stepT (denote treeTable) p w) n0 ann m s t = some x →
    ∀ N r, topRun treeTable p w n0 ann N x.s.abs ⟨denote treeTable (.body x.b x.env), .body x.b x.env, x.pos, [.ret x.k x.h x.g x.l x.code x.pos []]⟩ = some r → topRun treeTable p w n0 ann (m + N) s.abs t = some r
  | 0, _, _, _, h => by cases h
  | m + 1, s, ⟨cur, code, pos, stack⟩, x, h => by
    intro N r hr
    unfold preF at h
    rw [show m + 1 + N = m + N + 1 by omega]
    unfold topRun
    split at h
    · cases h
    · rename_i ok
      simp only [Bool.and_eq_true, Bool.not_eq_true'] at ok
      rw [ok.2, ok.1]
      dsimp only
      split at h
      · rename_i b env hd g l k
        cases h
        obtain ⟨T, n, life, gens, drawn, toks, os⟩ := s
        have := topRun_mono m _ _ _ _ hr
        rw [Nat.add_comm] at this
        exact this
      · split at h
        · rename_i s2 t2 hs
          rw [frS_eq] at h
          rw [stepT_spec hs]
          exact preF_ok h N r hr
        · cases h
theorem topF_ok {p : Program} {w : World} {n0 : Nat} {ann : Option Value} {M i : Nat} {x : SharedT} {t : Thread} {s1 : SharedT} (h : topF (stepT (denote treeTable) p w) n0 ann M ops0 i x t = some s1) :
    topRun treeTable p w n0 ann (1005 * M + 2000) x.abs t = some s1.abs := by
  unfold topF at h
  split at h
  · rename_i s b env hd g l k code pos e0
    split at h
    · rename_i sa ca qa e1
      split at h
      · rename_i sb cb qb e2
        split at h
        · rename_i stm rest e3
          split at h
          · rename_i sc cc qc e4
            split at h
            · rename_i sd cd qd e5
              have hB : splitAtGen [Frame.ret k hd g l code pos []] = none := rfl
              have a5 := goF_ok h
              have r5 : Run p w n0 ann [Frame.ret k hd g l code pos []] s1.abs M sd.abs (doneF .next) cd qd := a5
              have r4 : Run p w n0 ann [Frame.ret k hd g l code pos []] s1.abs (M + M) sc.abs ((execs rest env).wrap doneF (leaveH env) id id) cc qc :=
                sg_run e5 (a := .next) rfl hB (fun _ _ h => h) r5
              have r3 : Run p w n0 ann [Frame.ret k hd g l code pos []] s1.abs (1000 * M + 2000 + (M + M)) sb.abs ((execs (stm :: rest) env).wrap doneF (leaveH env) id id) cb qb := by
                rw [execs_cons_wrap]
                exact tabF_run hB rfl e4 r4
              have r2 : Run p w n0 ann [Frame.ret k hd g l code pos []] s1.abs (M + (1000 * M + 2000 + (M + M))) sa.abs ((execs b env).wrap doneF (leaveH env) id id) ca qa := by
                rw [show b = b.take i ++ stm :: rest from by rw [← e3]; exact (List.take_append_drop i b).symm, execs_app_wrap]
                refine sg_run e2 (a := .next) rfl hB (fun _ _ h => h) ?_
                exact r3
              have r1 : Run p w n0 ann [Frame.ret k hd g l code pos []] s1.abs (M + (M + (1000 * M + 2000 + (M + M)))) s.abs (denote treeTable (.body b env)) (.body b env) pos := by
                rw [body_wrap]
                exact sg_run e1 (a := ()) rfl hB resU_inj r2
              have r0 := preF_ok e0 _ _ r1
              rw [show 1005 * M + 2000 = M + (M + (M + (1000 * M + 2000 + (M + M)))) + 0 by omega]
              exact r0
            · cases h
          · cases h
        · cases h
      · cases h
    · cases h
  · cases h
def wholeX (st : Program → SharedT → Thread → Option (SharedT × Thread)) (fence : Program → Shared → Option Shared) (O : Ops) (N M i : Nat) (p : Program) : Option (Shared × SharedT) := match impF (st (opening p)) N (startT (opening p)) (start (opening p)).2 with
  | some s => (match fence p s.abs with
    | some s0 => (match s0.heap.isNs mainGlobals && s0.gens.size == 0 with
      | true => (match treeOf s0 with
        | some x => frS x fun x => (match topF (st p) x.n (s0.heap.nsMap mainGlobals "__annotations__") M O i x (topStub p) with
          | some s1 => some (s0, s1)
          | none => none)
        | none => none)
      | false => none)
    | none => none)
  | none => none
theorem wholeX_ok {N M i : Nat} {p : Program} {w : World} {s0 : Shared} {s1 : SharedT} (h : wholeX (fun q => stepT (denote treeTable) q w) fenceModules? ops0 N M i p = some (s0, s1)) (le : 1005 * M + 2000 ≤ N) :
    fencedOpening treeTable p w N = some s0 ∧ (s0.heap.isNs mainGlobals && s0.gens.size == 0) = true ∧ topRun treeTable p w s0.heap.objs.size (s0.heap.nsMap mainGlobals "__annotations__") N s0 (topStub p) = some s1.abs := by
  unfold wholeX at h
  split at h
  · rename_i s e1
    split at h
    · rename_i z e2
      split at h
      · rename_i e3
        split at h
        · rename_i x e4
          rw [frS_eq] at h
          split at h
          · rename_i y e5
            cases h
            have a1 := impF_ok e1
            rw [startT_eq] at a1
            obtain ⟨ex, en⟩ := treeOf_eq e4
            have a2 := topF_ok e5
            rw [ex, ← en] at a2
            refine ⟨?_, e3, ?_⟩
            · unfold fencedOpening
              rw [a1]
              exact e2
            · have := topRun_mono (N - (1005 * M + 2000)) _ _ _ _ a2
              rwa [show 1005 * M + 2000 + (N - (1005 * M + 2000)) = N by omega] at this
          · cases h
        · cases h
      · cases h
    · cases h
  · cases h
theorem left_tab {p q : Program} {loose : List PySem.Str} {Xt : Shared → Bool} {α : Type} {Yf : Shared → α} {Ya : World → α} {N M i : Nat} {g0 : Bool} (le : Nat.ble (1005 * M + 2000) N = true)
    (run : ∀ w' : World, (wholeX (fun q => stepT (denote treeTable) q w') fenceModules? ops0 N M i p).map (fun x => (looksF p x.1.heap x.2.abs, openSeen q loose (importedModules p.main.body) Xt g0 x.2.abs, Yf x.2.abs)) = some (true, openGood q loose, Ya w')) :
    LeftO p q loose Xt Yf Ya N g0 := fun w' => by
  obtain ⟨⟨u0, u1⟩, hs, hv⟩ := Option.map_eq_some_iff.mp (run w')
  have hv2 : (looksF p u0.heap u1.abs, openSeen q loose (importedModules p.main.body) Xt g0 u1.abs, Yf u1.abs) = (true, openGood q loose, Ya w') := hv
  obtain ⟨l1, y23⟩ := Prod.mk.inj hv2
  obtain ⟨y2, y3⟩ := Prod.mk.inj y23
  obtain ⟨a, b, c⟩ := wholeX_ok hs (Nat.le_of_ble_eq_true le)
  have y1 : (staticsOk (importedModules p.main.body) u0.heap u1.abs.heap && namesBound p u1.abs.heap && gensDone u1.abs && laidKept u0.heap u1.abs.heap) = true := l1
  have t : topFrom treeTable p w' N u0 = some u1.abs := by
    unfold topFrom
    rw [b]
    show (topRun treeTable p w' u0.heap.objs.size (u0.heap.nsMap mainGlobals "__annotations__") N u0 (topStub p)).bind _ = _
    rw [c]
    show (match staticsOk (importedModules p.main.body) u0.heap u1.abs.heap && namesBound p u1.abs.heap && gensDone u1.abs && laidKept u0.heap u1.abs.heap with | true => some u1.abs | false => none) = _
    rw [y1]
  unfold openEnds
  rw [a]
  show (topFrom treeTable p w' N u0).map _ = _
  rw [t]
  exact congrArg some (Prod.ext y2 y3)
end RX
set_option Elab.async false
set_option linter.all false
set_option maxRecDepth 100000
noncomputable section
namespace RX
open PySem PySem.W PySem.Calls PyProof.Rows HandSHeadRun
def opsQ : Ops := ⟨fun v => PySem.W.Fast.tw13383273872528276517 "hash" [v], fun v => PySem.W.Fast.tw4214721358667687652 v hsh, fun v => PySem.W.Fast.tw16697807410369149715 v hsh (rfV v), PySem.W.Fast.tw13066428366354244818 8, PySem.W.Fast.tw13926502685295537346,
  fun d f => PySem.W.Fast.tw11826078720135083572 d f none, PySem.W.Fast.tw14044960220447912780, fun ts v pos env => (standAt pos) >>= fun _ => PySem.W.Fast.tw7783108440312521181 ts v pos.line env,
  fun ts v env x => (PySem.W.Fast.tw4016559146275205325 ts v env) >>= fun w => PySem.W.Fast.tw2470068587113613483 env x w ((PySem.W.Fast.tw15628205474173192105 ts env).map (·.2)), PySem.W.Fast.tw1066825118222455980, PySem.W.Fast.tw12563942051412417395⟩
theorem ops_eq : ops0 = opsQ := by
  unfold ops0 opsQ
  rw [PySem.W.Fast.te13383273872528276517, PySem.W.Fast.te4214721358667687652, PySem.W.Fast.te16697807410369149715, PySem.W.Fast.te13066428366354244818, PySem.W.Fast.te13926502685295537346, PySem.W.Fast.te11826078720135083572,
    PySem.W.Fast.te14044960220447912780, PySem.W.Fast.te7783108440312521181, PySem.W.Fast.te4016559146275205325, PySem.W.Fast.te2470068587113613483, PySem.W.Fast.te15628205474173192105, PySem.W.Fast.te1066825118222455980, PySem.W.Fast.te12563942051412417395]
def RunX (r : OpenRow) (q : Program) (H : Hook) (ob : SharedT → H.α) (N M i : Nat) (loose : List PySem.Str) (w : World) : Prop := (wholeX (fun p => stepQ (denQ tabQ) p w) fenceQ opsQ N M i r.prog).map (fun x =>
  (looksF r.prog x.1.heap x.2.abs, seenQ q loose (importedModules r.prog.main.body) (fun s => xlAt q [] s && recOk r.toRowW.records s) x.2.abs, ob x.2)) = some (true, openGood q loose, H.val w)
theorem head_tab {r : OpenRow} {q : Program} {H : Hook} {ob : SharedT → H.α} {N M i : Nat} {loose : List PySem.Str} {d : DefRec} {kwd : List (PySem.Str × PySem.Expr)} (le : Nat.ble (1005 * M + 2000) N = true) (hob : ∀ s : SharedT, ob s = H.obs s.abs) (hrun : ∀ w, RunX r q H ob N M i loose w)
    (k0 : defOf q r.name = some (d, kwd)) (kp : r.prog.theDef r.name = some (d.params, d.body, d.scope)) (kk : kwWritten? d.params.kwonlyargs d.params.kw_defaults = some kwd) (kw : (!r.writes || r.records.isEmpty) = true) (k1 : r.wellSaid = true)
    (kc : (chainsOk q && opensWell r.prog && (frees r.toRowW && r.within.isEmpty)) = true) (kb : r.prog.bare) (kr : r.toRowW.promised) (call : WalkO q loose (XL q []) H.says r.toRowW d kwd fun f vs => PySem.call f vs) : r.Holds := by
  have lf : LeftO r.prog q loose (fun s => xlAt q [] s && recOk r.toRowW.records s) H.obs H.val N true := left_tab (M := M) (i := i) le fun w => by
    have z := hrun w
    unfold RunX at z
    rw [show ob = fun s => H.obs s.abs from funext hob] at z
    rw [stepQ_eq, denQ_eq, tabQ_eq, fenceQ_eq, ops_eq]
    simp only [seenQ_eq]
    exact z
  exact holds_open (q := q) (XP := XL q []) (YP := H.says) lf H.of H.keeps (fun s z => xl_of s (Bool.and_eq_true_iff.mp z).1) XL.keeps k0 kp kk (fun s z => recFacts_of (Bool.and_eq_true_iff.mp z).2) kw k1 kc kb kr call
end RX
set_option Elab.async false
set_option linter.all false
set_option maxRecDepth 100000
namespace VE
open PySem PySem.Spec PyProof.Rows L2
inductive D where
  | non | bl (b : Bool) | int (i : Int) | str (s : List Nat)
  | tup (ds : List D) | lst (ds : List D) | frz (ds : List D)
  | obj (c : Nat) (fs : List Nat) (ds : List D)
  | dct (ks : List (List (List Nat))) (ds : List D)
  deriving Inhabited
inductive R (a : Type) where
  | ok (x : a) | exc (c : Nat) | bad
@[inline] def R.bind {a b : Type} (r : R a) (k : a → R b) : R b := match r with
  | .ok x => k x
  | .exc c => .exc c
  | .bad => .bad
@[simp] theorem R.bind_ok {a b : Type} (x : a) (k : a → R b) : (R.ok x).bind k = k x := rfl
@[simp] theorem R.bind_exc {a b : Type} (c : Nat) (k : a → R b) : (R.exc c).bind k = .exc c := rfl
@[simp] theorem R.bind_bad {a b : Type} (k : a → R b) : (R.bad).bind k = .bad := rfl
structure Tb where
  cls : List Str
  fld : List Str
  mth : List Str
  tab : List Str
def cNm (tb : Tb) (c : Nat) : Str := tb.cls.getD c Str.empty
def fNm (tb : Tb) (f : Nat) : Str := tb.fld.getD f Str.empty
def cAd (tb : Tb) (K : PySem.W.Frag) (c : Nat) : Addr := He.ga K (cNm tb c)
def KLst (K : PySem.W.Frag) (a : Addr) (xs : List V) : Prop :=
  ∃ (o : Obj) (its : Array Value) (n : Nat), K.lookup a = some o ∧ o.cls = .type "list" ∧ o.dict = none ∧ o.data = .seq its n ∧ its.size ≤ sizeLine ∧ Vals xs its.toList
def KTup (K : PySem.W.Frag) (a : Addr) (xs : List V) : Prop :=
  ∃ (o : Obj) (its : Array Value) (n : Nat), K.lookup a = some o ∧ o.cls = .type "tuple" ∧ o.data = .seq its n ∧ its.size ≤ sizeLine ∧ Vals xs its.toList
def KeyT (K : PySem.W.Frag) : List (List Nat) → Value → Prop
  | [s], u => ∃ t, u = .str ⟨s.toArray⟩ t
  | [s, z], u => ∃ b o it n t1 t2, u = .ref b ∧ K.lookup b = some o ∧ o.cls = .type "tuple" ∧ o.data = .seq it n ∧ it.toList = [.str ⟨s.toArray⟩ t1, .str ⟨z.toArray⟩ t2]
  | _, _ => False
def DcE (K : PySem.W.Frag) : List (List (List Nat)) → List DictEntry → List V → Prop
  | [], es, vs => es = [] ∧ vs = []
  | k :: ks, es, vs => ∃ e er v vr, es = e :: er ∧ vs = v :: vr ∧ KeyT K k e.key ∧ L2.RelV v e.val ∧ DcE K ks er vr
def KDc (tb : Tb) (K : PySem.W.Frag) (a : Addr) (ks : List (List (List Nat))) (vs : List V) : Prop :=
  ks.Nodup ∧ ∃ x, x ∈ tb.tab ∧ a = He.ga K x ∧ ∃ es n, K.lookup a = some ⟨.type "dict", none, .dict es n, #[]⟩ ∧ DcE K ks es.toList vs
def kyK : List (List Nat) → L2.Key
  | s :: _ => .inr ⟨s.toArray⟩
  | [] => .inr ⟨#[]⟩
def HDc (H : Hp) (A : Addr → Prop) (a : Addr) (ks : List (List (List Nat))) (vs : List V) : Prop := ∃ kvs : List (L2.Key × V), (H a = some (.dK kvs) ∧ ¬ A a) ∧ kvs.map (·.1) = ks.map kyK ∧ kvs.map (·.2) = vs ∧ ∀ k ∈ ks, k.length = 1
section
variable (tb : Tb) (K : PySem.W.Frag)
mutual
def Rep (H : Hp) (A : Addr → Prop) : D → V → Prop
  | .non, v => v = .non
  | .bl b, v => v = .bl b
  | .int i, v => v = .int i
  | .str s, v => v = .str ⟨s.toArray⟩
  | .tup ds, v => ∃ a vs, v = .ref a ∧ ((H a = some (.tup vs) ∧ ¬ A a) ∨ KTup K a vs) ∧ RepL H A ds vs
  | .lst ds, v => ∃ a vs, v = .ref a ∧ (H a = some (.lst vs) ∧ ¬ A a) ∧ RepL H A ds vs
  | .frz ds, v => ∃ a vs, v = .ref a ∧ ((∃ o, H a = some (.frz o (.lst vs)) ∧ ¬ A a) ∨ KLst K a vs) ∧ RepL H A ds vs
  | .obj c fs ds, v => ∃ a dx gs, v = .ref a ∧ (H a = some (.ins (cAd tb K c) dx gs) ∧ ¬ A a) ∧ gs.map (·.1) = fs.map (fNm tb) ∧ RepL H A ds (gs.map (·.2))
  | .dct ks ds, v => ∃ a vs, v = .ref a ∧ (HDc H A a ks vs ∨ KDc tb K a ks vs) ∧ RepL H A ds vs
def RepL (H : Hp) (A : Addr → Prop) : List D → List V → Prop
  | [], vs => vs = []
  | d :: ds, vs => ∃ v r, vs = v :: r ∧ Rep H A d v ∧ RepL H A ds r
end
end
section
variable {tb : Tb} {K : PySem.W.Frag}
structure Evo (A : Addr → Prop) (H : Hp) (A' : Addr → Prop) (H' : Hp) : Prop where
  keep : ∀ b o, H b = some o → ¬ A b → H' b = some o
  old : ∀ b, A' b → A b ∨ H b = none
theorem Evo.refl {A : Addr → Prop} {H : Hp} : Evo A H A H := ⟨fun _ _ h _ => h, fun _ h => .inl h⟩
theorem Evo.trans {A A' A'' : Addr → Prop} {H H' H'' : Hp} (e : Evo A H A' H') (f : Evo A' H' A'' H'') : Evo A H A'' H'' where
  keep := fun b o h n => f.keep b o (e.keep b o h n) fun z => (e.old b z).elim n fun q => by rw [h] at q; cases q
  old := fun b h => by
    rcases f.old b h with z | z
    · exact e.old b z
    · cases q : H b with
      | none => exact .inr rfl
      | some o => exact .inl (Classical.byContradiction fun n => by rw [e.keep b o q n] at z; cases z)
theorem Evo.same {A : Addr → Prop} {H H' : Hp} (s : Same H H') : Evo A H A H' := ⟨fun b o h _ => s b o h, fun _ h => .inl h⟩
theorem Evo.less {A A' : Addr → Prop} {H : Hp} (s : ∀ b, A' b → A b) : Evo A H A' H := ⟨fun _ _ h _ => h, fun b h => .inl (s b h)⟩
theorem Evo.more {A : Addr → Prop} {H : Hp} {a : Addr} (h : H a = none) : Evo A H (fun b => A b ∨ b = a) H := ⟨fun _ _ h _ => h, fun b q => q.elim .inl fun e => .inr (by rw [e]; exact h)⟩
theorem Evo.or {X A A' : Addr → Prop} {H H' : Hp} (e : Evo A H A' H') : Evo (fun b => X b ∨ A b) H (fun b => X b ∨ A' b) H' where
  keep := fun b o h n => e.keep b o h fun z => n (.inr z)
  old := fun b q => q.elim (fun z => .inl (.inl z)) fun z => (e.old b z).imp .inr id
theorem Evo.nay {A A' : Addr → Prop} {H H' : Hp} (e : Evo A H A' H') {b : Addr} {o : HO} (h : H b = some o) (n : ¬ A b) : ¬ A' b := fun z => (e.old b z).elim n fun q => by rw [h] at q; cases q
mutual
theorem Rep.evo {A A' : Addr → Prop} {H H' : Hp} (e : Evo A H A' H') : ∀ {d : D} {v : V}, Rep tb K H A d v → Rep tb K H' A' d v
  | .non, _, h => h
  | .bl _, _, h => h
  | .int _, _, h => h
  | .str _, _, h => h
  | .tup ds, _, ⟨a, vs, ev, h, r⟩ => ⟨a, vs, ev, h.imp (fun ⟨x, n⟩ => ⟨e.keep a _ x n, e.nay x n⟩) id, RepL.evo e r⟩
  | .lst ds, _, ⟨a, vs, ev, ⟨x, n⟩, r⟩ => ⟨a, vs, ev, ⟨e.keep a _ x n, e.nay x n⟩, RepL.evo e r⟩
  | .frz ds, _, ⟨a, vs, ev, h, r⟩ => ⟨a, vs, ev, h.imp (fun ⟨o, x, n⟩ => ⟨o, e.keep a _ x n, e.nay x n⟩) id, RepL.evo e r⟩
  | .obj c fs ds, _, ⟨a, dx, gs, ev, ⟨x, n⟩, q, r⟩ => ⟨a, dx, gs, ev, ⟨e.keep a _ x n, e.nay x n⟩, q, RepL.evo e r⟩
  | .dct ks ds, _, ⟨a, vs, ev, h, r⟩ => ⟨a, vs, ev, h.imp (fun ⟨kvs, ⟨x, n⟩, q⟩ => ⟨kvs, ⟨e.keep a _ x n, e.nay x n⟩, q⟩) id, RepL.evo e r⟩
theorem RepL.evo {A A' : Addr → Prop} {H H' : Hp} (e : Evo A H A' H') : ∀ {ds : List D} {vs : List V}, RepL tb K H A ds vs → RepL tb K H' A' ds vs
  | [], _, h => h
  | _ :: _, _, ⟨v, r, ev, h1, h2⟩ => ⟨v, r, ev, Rep.evo e h1, RepL.evo e h2⟩
end
theorem RepL.nil {A : Addr → Prop} {H : Hp} : RepL tb K H A [] [] := by unfold RepL; rfl
theorem RepL.cons {A : Addr → Prop} {H : Hp} {d : D} {ds : List D} {v : V} {vs : List V} (h : Rep tb K H A d v) (r : RepL tb K H A ds vs) : RepL tb K H A (d :: ds) (v :: vs) := by unfold RepL; exact ⟨v, vs, rfl, h, r⟩
theorem RepL.length {A : Addr → Prop} {H : Hp} : ∀ {ds : List D} {vs : List V}, RepL tb K H A ds vs → vs.length = ds.length
  | [], _, h => by unfold RepL at h; subst h; rfl
  | _ :: _, _, h => by
    unfold RepL at h
    obtain ⟨v, r, ev, h1, h2⟩ := h
    subst ev
    simp [RepL.length h2]
theorem RepL.get {A : Addr → Prop} {H : Hp} : ∀ {ds : List D} {vs : List V} {i : Nat} {d : D}, RepL tb K H A ds vs → ds[i]? = some d → ∃ v, vs[i]? = some v ∧ Rep tb K H A d v
  | [], _, _, _, _, e => by simp at e
  | _ :: _, _, 0, d, h, e => by
    unfold RepL at h
    obtain ⟨v, r, ev, h1, h2⟩ := h
    subst ev
    simp at e; subst e
    exact ⟨v, rfl, h1⟩
  | _ :: ds, _, i + 1, d, h, e => by
    unfold RepL at h
    obtain ⟨v, r, ev, h1, h2⟩ := h
    subst ev
    obtain ⟨u, q1, q2⟩ := RepL.get (i := i) (d := d) h2 (by simpa using e)
    exact ⟨u, by simpa using q1, q2⟩
theorem RepL.getv {A : Addr → Prop} {H : Hp} {ds : List D} {vs : List V} {i : Nat} {v : V} (h : RepL tb K H A ds vs) (e : vs[i]? = some v) : ∃ d, ds[i]? = some d ∧ Rep tb K H A d v := by
  have hl := h.length
  have hi : i < ds.length := by
    have := (List.getElem?_eq_some_iff.mp e).1
    omega
  obtain ⟨u, q1, q2⟩ := h.get (i := i) (d := ds[i]) (by simp [hi])
  rw [e] at q1
  cases q1
  exact ⟨ds[i], by simp [hi], q2⟩
theorem RepL.append {A : Addr → Prop} {H : Hp} {es : List D} {us : List V} (q : RepL tb K H A es us) : ∀ {ds : List D} {vs : List V}, RepL tb K H A ds vs → RepL tb K H A (ds ++ es) (vs ++ us)
  | [], _, h => by unfold RepL at h; subst h; exact q
  | _ :: _, _, h => by
    unfold RepL at h
    obtain ⟨v, r, ev, h1, h2⟩ := h
    subst ev
    exact RepL.cons h1 (RepL.append q h2)
theorem RepL.take {A : Addr → Prop} {H : Hp} : ∀ {ds : List D} {vs : List V} (n : Nat), RepL tb K H A ds vs → RepL tb K H A (ds.take n) (vs.take n)
  | _, _, 0, _ => by simp only [List.take_zero]; exact .nil
  | [], _, n + 1, h => by unfold RepL at h; subst h; simp only [List.take_nil]; exact .nil
  | _ :: _, _, n + 1, h => by
    unfold RepL at h
    obtain ⟨v, r, ev, h1, h2⟩ := h
    subst ev
    exact RepL.cons h1 (RepL.take n h2)
theorem RepL.drop {A : Addr → Prop} {H : Hp} : ∀ {ds : List D} {vs : List V} (n : Nat), RepL tb K H A ds vs → RepL tb K H A (ds.drop n) (vs.drop n)
  | _, _, 0, h => h
  | [], _, n + 1, h => by unfold RepL at h; subst h; simp only [List.drop_nil]; exact .nil
  | _ :: _, _, n + 1, h => by
    unfold RepL at h
    obtain ⟨v, r, ev, h1, h2⟩ := h
    subst ev
    exact RepL.drop n h2
theorem RepL.reverse {A : Addr → Prop} {H : Hp} : ∀ {ds : List D} {vs : List V}, RepL tb K H A ds vs → RepL tb K H A ds.reverse vs.reverse
  | [], _, h => by unfold RepL at h; subst h; exact .nil
  | _ :: _, _, h => by
    unfold RepL at h
    obtain ⟨v, r, ev, h1, h2⟩ := h
    subst ev
    rw [List.reverse_cons, List.reverse_cons]
    exact (RepL.cons h1 .nil).append h2.reverse
theorem RepL.set {A : Addr → Prop} {H : Hp} {d : D} {v : V} (q : Rep tb K H A d v) : ∀ {ds : List D} {vs : List V} (n : Nat), RepL tb K H A ds vs → RepL tb K H A (ds.set n d) (vs.set n v)
  | [], _, _, h => by unfold RepL at h; subst h; exact .nil
  | _ :: _, _, 0, h => by
    unfold RepL at h
    obtain ⟨w, r, ev, h1, h2⟩ := h
    subst ev
    exact RepL.cons q h2
  | _ :: _, _, n + 1, h => by
    unfold RepL at h
    obtain ⟨w, r, ev, h1, h2⟩ := h
    subst ev
    exact RepL.cons h1 (RepL.set q n h2)
end
end VE
namespace VE
open PySem PySem.Spec PyProof.Rows L2 RT
open Sem (wp)
section
variable {prog : Program} {w : World} {A : Around} {E : Value → Shared → Prop} {s : Shared}
theorem extend_rev {R : Result → Shared → Prop} {it l : Addr} {items : Array Value} (hh : A.handled = none) (hit : s.heap.IsRevIter it l ((items.size : Int) - 1)) (hl : s.heap.IsList l items) (hne : l ≠ it) (hn : items.size ≤ sizeLine)
    (S : Addr) (res : Value) (c₀ : Nat) (hS : s.heap.get? S = some { cls := .type "list", data := .seq #[] c₀ }) (hSl : S ≠ l)
    (hR : ∀ h' tk acc' c', (∀ b o, b ≠ S → b ≠ it → s.heap.get? b = some o → h'.get? b = some o) → h'.get? S = some { cls := .type "list", dict := none, data := .seq acc' c', slots := #[] } →
      ItemsOf (fun i v => items[items.size - 1 - i]? = some v) acc' items.size → R (.ok (.ret res)) { s with heap := h', toks := tk }) :
    wpAny (model prog w) A.in1 (Builtin.List.listExtendWith (.ref S) (.ref it) res)
      (fun fin s' => match fin with | .done f => R (.ok f) s' | .again c' => c'.quiet = true ∧ codeAny (model prog w) A c' R s') (fun e s' => R (.error e) s') s := by
  have W := (Walks.listRev (prog := prog) (w := w) (A := A.in1) hh it l hne items).toS
  obtain ⟨oi, hoi, hoc, hod⟩ := id hit
  have hSi : S ≠ it := fun e => by
    subst e
    rw [hS] at hoi
    cases hoi
    cases hod
  have hSf : S ∉ [it, l] := by simp only [List.mem_cons, List.not_mem_nil, or_false, not_or]; exact ⟨hSi, hSl⟩
  have hT : s.TypeIs (.ref it) "list_reverseiterator" := Heap.IsRevIter.typeIs hit
  have h1 : Builtin.List.listSameRef (.ref S) (.ref it) = false := by simp [Builtin.List.listSameRef, hSi]
  unfold Builtin.List.listExtendWith
  refine wpAny_bind (wpAny_typeOf hT ?_)
  rw [if_neg (by rw [h1]; decide)]
  refine wpAny_bind (wpAny_pyIter_revIter hit ?_)
  refine wpAny_bind (wpAny_holding ?_)
  unfold Builtin.List.listLengthHint
  refine wpAny_bind (wpAny_specialOf hT nolen_lri ?_)
  show wpAny _ A.in1 (specialOf (Value.ref it) (Str.ofString "__length_hint__") >>= _) _ _ _
  refine wpAny_bind (wpAny_specialOf hT hint_lri ?_)
  generalize hid : ("list_reverseiterator.__length_hint__" : String) = id0
  wp_delta
  rw [show splitId id0 = some ("list_reverseiterator", "__length_hint__") from by subst hid; decide +kernel]
  subst hid
  refine wpAny_bind (wpAny_isInstance (b := true) hT (by rw [isSubtype_type]; kernel_rfl) ?_)
  refine wpAny_pure ?_
  rw [if_neg (by decide)]
  have e0 : ((items.size : Nat) : Int) - 1 - ((0 : Nat) : Int) = (items.size : Int) - 1 := by omega
  refine wpAny_pure ⟨plainId_quiet F.plain_extend_loop _, codeAny_extend_loopS W hn _ hSf _ items.size 0 _ _ _ rfl (Nat.zero_le _) ⟨Nat.zero_le _, by rw [e0]; exact hit, hl⟩ hS (ItemsOf.nil _) fun s' acc' c' hm hS' hacc => ?_⟩
  rw [Moved.eq_with hm]
  refine hR s'.heap s'.toks acc' c' (fun b o hb hi e => hm.heap b o (fun hmem => ?_) e) hS' hacc
  rcases List.mem_cons.mp hmem with e' | hmem
  · exact hb e'
  · exact hi (List.mem_singleton.mp hmem)
theorem list_init_rev {R : Result → Shared → Prop} {it l : Addr} {items : Array Value} (hh : A.handled = none) (hit : s.heap.IsRevIter it l ((items.size : Int) - 1)) (hl : s.heap.IsList l items) (hne : l ≠ it) (hn : items.size ≤ sizeLine)
    (S : Addr) (hS : s.heap.get? S = some { cls := .type "list", data := .seq #[] }) (hSl : S ≠ l)
    (hR : ∀ h' tk acc' c', (∀ b o, b ≠ S → b ≠ it → s.heap.get? b = some o → h'.get? b = some o) → h'.get? S = some { cls := .type "list", dict := none, data := .seq acc' c', slots := #[] } →
      ItemsOf (fun i v => items[items.size - 1 - i]? = some v) acc' items.size → R (.ok (.ret .none)) { s with heap := h', toks := tk }) :
    wpAny (model prog w) A.in1 (Builtin.«list.__init__» ⟨[.ref S, .ref it], []⟩)
      (fun fin s' => match fin with | .done f => R (.ok f) s' | .again c' => c'.quiet = true ∧ codeAny (model prog w) A c' R s') (fun e s' => R (.error e) s') s := by
  have hSi : S ≠ it := fun e => by
    subst e
    obtain ⟨oi, hoi, hoc, hod⟩ := hit
    rw [hS] at hoi
    cases hoi
    cases hod
  show wpAny _ _ (do let old ← Builtin.List.listItems (.ref S); Builtin.List.listUpdate (.ref S) (fun _ => #[]); letGo old.toList.reverse; Builtin.List.listExtendWith (.ref S) (.ref it) .none) _ _ s
  refine wpAny_bind ?_
  unfold Builtin.List.listItems
  refine wpAny_bind (wpAny_seqItems hS rfl (wpAny_pure ?_))
  show wpAny _ _ (updateSeq S (fun _ => #[]) >>= fun _ => letGo (#[] : Array Value).toList.reverse >>= fun _ => Builtin.List.listExtendWith (.ref S) (.ref it) .none) _ _ s
  refine wpAny_bind (wpAny_updateSeq hS rfl ?_)
  have hS₂ := Heap.get?_update_self (Obj.mapSeq (fun _ => (#[] : Array Value))) hS rfl
  have oth : ∀ b o, b ≠ S → s.heap.get? b = some o → (s.heap.update S (Obj.mapSeq (fun _ => (#[] : Array Value)))).get? b = some o :=
    fun b o hb e => (Heap.get?_update_other _ _ (Ne.symm hb)).trans e
  refine wpAny_bind (wpAny_letGo ?_)
  refine extend_rev hh (hit.at fun o e => oth it o (Ne.symm hSi) e) ?_ hne hn S .none _ hS₂ hSl fun h' tk acc' c' hk hS' hacc => ?_
  · obtain ⟨ol, hol, r⟩ := hl
    exact ⟨ol, oth l ol (Ne.symm hSl) hol, r⟩
  · exact hR h' tk acc' c' (fun b o hb hi e => hk b o hb hi (oth b o hb e)) hS' hacc
theorem call_list_rev {it l : Addr} {items : Array Value} {Q : Value → Shared → Prop} (hh : A.handled = none) (hit : s.heap.IsRevIter it l ((items.size : Int) - 1)) (hl : s.heap.IsList l items) (hne : l ≠ it) (hn : items.size ≤ sizeLine)
    (hQ : ∀ h' tk acc' c', (∀ b o, b ≠ it → s.heap.get? b = some o → h'.get? b = some o) →
      h'.get? s.heap.objs.size = some { cls := .type "list", dict := none, data := .seq acc' c', slots := #[] } → ItemsOf (fun i v => items[items.size - 1 - i]? = some v) acc' items.size → Q (.ref s.heap.objs.size) { s with heap := h', toks := tk }) :
    wpAny (model prog w) A (call (.type "list") [.ref it]) Q E s := by
  refine callType_codes (Q₁ := fun obj s₁ => obj = .ref s.heap.objs.size ∧ s₁ = { s with heap := s.heap.push { cls := .type "list", data := .seq #[] } }) F.called_list (F.typeCall_list_1 _) F.entry_list_init
    (code_list_new _ ⟨rfl, rfl⟩) fun obj s₁ h₁ => ?_
  obtain ⟨rfl, rfl⟩ := h₁
  have hS : (s.heap.push { cls := .type "list", data := .seq #[] }).get? s.heap.objs.size = some { cls := .type "list", data := .seq #[] } := Heap.get?_push_size _ rfl
  have hlt : l < s.heap.objs.size := by
    obtain ⟨ol, hol, _⟩ := hl
    exact Heap.lt_size hol
  refine ⟨⟨_, hS, rfl⟩, F.args_list_init_2 _ _, list_init_rev (s := { s with heap := s.heap.push { cls := .type "list", data := .seq #[] } }) (A := A.in1) hh (hit.at fun o e => Heap.get?_push_of_some _ e) (hl.push _) hne hn _ hS (Nat.ne_of_gt hlt) fun h' tk acc' c' hk hS' hacc => ?_⟩
  exact ⟨rfl, hQ h' tk acc' c' (fun b o hi e => hk b o (Nat.ne_of_lt (Heap.lt_size e)) hi (Heap.get?_push_of_some _ e)) hS' hacc⟩
end
def tLstRev (K : PySem.W.Frag) (te : TE) : TE := fun σ H Q => te σ H fun v H1 => ∃ (a : Addr) (xs : List V), v = .ref a ∧ SqL K H1 a xs ∧ ∀ q, H1 q = none → Q (.ref q) (upd H1 q (.lst xs.reverse))
theorem pe_lstRev {X : Cx} {e : Expr} {te : TE} {p p2 pos pos2 : Pos} (hc : X.calm = true) (hg : Gl X "list") (hm : X.mg "list" = none) (hg2 : Gl X "reversed") (hm2 : X.mg "reversed" = none) (he : PE X e te)
    (hs : starEach [e] X.env = (false, eval e X.env) :: starEach [] X.env := by rfl)
    (hs2 : starEach [.Call (.Name "reversed" p2) [e] [] pos2] X.env = (false, eval (.Call (.Name "reversed" p2) [e] [] pos2) X.env) :: starEach [] X.env := by rfl) :
    PE X (.Call (.Name "list" p) [.Call (.Name "reversed" p2) [e] [] pos2] [] pos) (tLstRev X.K te) := by
  refine ⟨fun pins s σ H Q I h => ?_⟩
  refine Call_ (ld_blt I hg hm boot_list (PyProof.Rows.callWith_type1 (args_cons (Call_ (ld_blt I hg2 hm2 PyProof.Rows.boot_reversed (PyProof.Rows.callWith_type1 (args_cons (thn (he.run pins s σ H _ I h) fun u s1 ⟨v, H1, I1, r1, q1⟩ => args_nil ?_) hs) hs rfl))) hs2) hs2 rfl))
  obtain ⟨a, xs, ev, hq, q⟩ := q1
  subst ev
  obtain rfl : u = Value.ref a := r1
  obtain ⟨its, rv, p', hz⟩ := I1.list hq
  refine call_reversed_list p'.isList (args_nil ?_)
  have k0 : ∀ b o, s1.heap.get? b = some o → (s1.heap.push (revObj a ((its.toArray.size : Int) - 1))).get? b = some o := fun b o e => Heap.get?_push_of_some _ e
  have I2 : Inv X pins σ H1 { s1 with heap := s1.heap.push (revObj a ((its.toArray.size : Int) - 1)) } := I1.kept (t' := s1.toks) k0
  obtain ⟨f0, f1, f2, f3, f4, f5⟩ := I1.fpOk (H' := H1) (b := s1.heap.objs.size) (Nat.le_refl _) (I1.hok.fresh (Nat.le_refl _))
  have hl := p'.isList
  obtain ⟨ol, hol, _⟩ := id hl
  have hne : a ≠ s1.heap.objs.size := Nat.ne_of_lt (Heap.lt_size hol)
  have hn : its.toArray.size ≤ sizeLine := by rw [List.size_toArray, ← rv.length]; exact hz
  refine call_list_rev (s := { s1 with heap := s1.heap.push (revObj a ((its.toArray.size : Int) - 1)) }) (I1.ok.hd hc) ⟨_, Heap.get?_push_size _ rfl, rfl, rfl⟩ (hl.push _) hne hn fun h' tk acc c' hk hS' hi => ?_
  have hle : s1.heap.objs.size ≤ (s1.heap.push (revObj a ((its.toArray.size : Int) - 1))).objs.size := by rw [Heap.size_push]; exact Nat.le_succ _
  refine ⟨.ref _, upd H1 _ (.lst xs.reverse), I1.laid (t' := tk) (fun b o e => hk b o (Nat.ne_of_lt (Heap.lt_size e)) (Heap.get?_push_of_some _ e)) hle (show ObjOk X.prog X.w _ _ _ (.lst xs.reverse) from ⟨by rw [List.length_reverse]; exact hz, acc.toList, c', vals_rev rv hi, ?_⟩), rfl, q _ (I1.hok.fresh hle)⟩
  rw [Array.toArray_toList]
  exact hS'
end VE
namespace VE
open PySem PySem.Spec PyProof.Rows L2
section
variable {X : Cx} {CX : CXT} {k : Nat} {f C : Addr} {fd : FuncData} {ps ks : List Str} {sp : Sp} {dvs : List V} {ds : List Value} {E : L2.St → XK} {x m : Str} {p pos apos : Pos} {e o : Expr} {es : List Expr} {kws : List Keyword} {ta : TE} {t tk : TA}
def tMethA (X : Cx) (CX : CXT) (m : Str) (E : L2.St → XK) (ta : TE) (t : TA) : TE := fun σ H Q => ta σ H fun x H1 => ∃ (a C dx : Addr) (fs : List (Str × V)) (f : Addr) (fd : FuncData) (ps : List Str) (sp : Sp) (dvs : List V) (ds : List Value) (k : Nat), x = .ref a ∧ H1 a = some (.ins C dx fs) ∧
  Cls X.K C ∧ Meth X.K C m f ∧ FnOk X.prog X.w X.K X.mg X.base CX k f fd ps sp ∧ Room k X.A ∧ Binds X.K fd ps ds ∧ Vals dvs ds ∧ fs.lookup m = none ∧ t σ H1 fun vs H2 => sp (x :: (vs ++ dvs)) H2 Q (E σ)
theorem meth_form {A : Around} {prog : Program} {w : World} {E' : Value → Shared → Prop} {s : Shared} {env : Env} {Q : Value → Shared → Prop}
    (hbase : attributeBase o m env (eval o env) = eval o env)
    (hfew : ((backTo pos (starEach es env)).all (fun x => !x.1) && (backToKw pos (keywordEach [] env)).all (fun x => x.1.isSome) && decide (es.length + ([] : List Keyword).length + (if ([] : List Keyword).isEmpty then 0 else 1) < 30)) = true)
    (hline : (apos.endLine == pos.line) = true)
    (h : ∀ pl, wpAny (model prog w) A (eval o env) (fun ov s₁ => wpAny (model prog w) A (getMethod ov m pl) (fun fx s₂ => wpAny (model prog w) A (callWith pos fx.1 fx.2 (backTo pos (starEach es env)) []) Q E' s₂) E' s₁) E' s) :
    wpAny (model prog w) A (eval (.Call (.Attribute o m apos) es [] pos) env) Q E' s := by
  rw [arm_eval_Call, hbase]
  refine wpAny_bind (wpAny_mono (h (do return (← importBound o env).getD true)) (fun ov s₁ h₁ => ?_) fun _ _ e => e)
  refine wpAny_bind (wpAny_standAt ?_)
  have hform : methodCallForm (es.length + ([] : List Keyword).length) (backTo pos (starEach es env)) (backToKw pos (keywordEach [] env)) = true := hfew
  have hpos : methodCallPos true o env apos pos = pure pos := by unfold methodCallPos; simp [hline]
  unfold methodCall
  rw [hform]
  refine wpAny_bind (wpAny_holding (wpAny_mono h₁ (fun fx s₂ h₂ => ?_) fun _ _ e => e))
  exact wpAny_bind (wpAny_of_eq hpos h₂)
theorem pe_methA (he : PE X o ta) (ha : PA X es t) (hx : ∀ σ, PassesAt CX X σ (E σ)) (hbase : attributeBase o m X.env (eval o X.env) = eval o X.env)
    (hfew : ((backTo pos (starEach es X.env)).all (fun x => !x.1) && (backToKw pos (keywordEach [] X.env)).all (fun x => x.1.isSome) && decide (es.length + ([] : List Keyword).length + (if ([] : List Keyword).isEmpty then 0 else 1) < 30)) = true)
    (hline : (apos.endLine == pos.line) = true) (hnil : es = [] → ∀ σ H Q, t σ H Q → Q [] H) (hs : ∀ e0 er, es = e0 :: er → starEach (e0 :: er) X.env = (false, eval e0 X.env) :: starEach er X.env ∧ (backTo pos (starEach er X.env)).any (·.1) = false) :
    PE X (.Call (.Attribute o m apos) es [] pos) (tMethA X CX m E ta t) := by
  refine ⟨fun pins s σ H Q I h => meth_form hbase hfew hline fun pl => ?_⟩
  refine thn (he.run pins s σ H _ I h) fun u s1 ⟨x, H1, I1, rx, a, C, dx, fs, f, fd, ps, sp, dvs, ds, k, ex, ea, c, hm, F, hr, hb, hd, l, q⟩ => ?_
  subst ex
  obtain rfl : u = Value.ref a := rx
  refine getmeth_ok I1 ea c hm l ?_
  cases es with
  | nil =>
    refine PySem.W.callWith_K0 (first := [.ref a]) I1.kIn hm.kp ?_
    exact run_fnSD (us := [.ref a]) (vs := [.ref a]) F hr hb hd (hx σ) I1 (.cons rfl .nil) (hnil rfl _ _ _ q)
  | cons e0 er =>
    obtain ⟨hst, hpl⟩ := hs e0 er rfl
    refine PySem.W.callWith_K (first := [.ref a]) (h₀ := X.base) I1.ok.mod.kin hm.kp (thn (ha.run pos pins s1 σ H1 _ I1 q) fun us s2 ⟨vs, H2, I2, r, q2⟩ => ⟨I2.kIn, ?_⟩) hst hpl
    exact run_fnSD (us := .ref a :: us) (vs := .ref a :: vs) F hr hb hd (hx σ) I2 (.cons rfl r) q2
def tMakeA (C : Addr) (sp : Sp) (dvs : List V) (E : L2.St → XK) (t : TA) : TE := fun σ H Q => t σ H fun vs H1 => ∀ x dx, H1 x = none → H1 dx = none → dx ≠ x →
  sp (.ref x :: (vs ++ dvs)) (upd (upd H1 dx (.own x)) x (.ins C dx [])) (fun v H2 => v = .non ∧ Q (.ref x) H2) (E σ)
theorem run_makeA {pins : List (Addr × Obj)} {σ : L2.St} {H : Hp} {s : Shared} {Q : VK} {us : List Value} {vs : List V} (M : Mk X.K C f) (F : FnOk X.prog X.w X.K X.mg X.base CX k f fd ps sp) (hr : Room (k + 1) X.A) (hb : Binds X.K fd ps ds) (hd : Vals dvs ds)
    (hx : ∀ H s (e : Value) s', Inv X pins σ H s → CX X.stack H s (E σ) e s' → X.xe e s') (I : Inv X pins σ H s) (r : Vals vs us)
    (h : ∀ x dx, H x = none → H dx = none → dx ≠ x → sp (.ref x :: (vs ++ dvs)) (upd (upd H dx (.own x)) x (.ins C dx [])) (fun v H2 => v = .non ∧ Q (.ref x) H2) (E σ)) :
    wpAny (model X.prog X.w) X.A (call (.ref C) us) (EP X pins σ Q) X.xe s := by
  have hq := h (s.heap.objs.size + 1) s.heap.objs.size (I.hok.fresh (Nat.le_succ _)) (I.hok.fresh (Nat.le_refl _)) (Nat.ne_of_lt (Nat.lt_succ_self _))
  have I2 := Inv.made (C := C) I
  have r2 : Vals (V.ref (s.heap.objs.size + 1) :: (vs ++ dvs)) (Value.ref (s.heap.objs.size + 1) :: (us ++ ds)) := .cons rfl (r.append hd)
  have hl : (Value.ref (s.heap.objs.size + 1) :: us ++ ds).length = ps.length := by
    have e := r2.length
    rw [F.len _ _ _ _ hq] at e
    exact e.symm
  refine wpAny_call (make_map (f := f) I.kIn M.makes M.init (beq_iff_eq.mp M.fn) (codeAny_mono (F.run _ X.stack _ _ ⟨Value.ref (s.heap.objs.size + 1) :: us, []⟩ (Value.ref (s.heap.objs.size + 1) :: (us ++ ds)) _ _ (E σ) (hr.make C us [])
    (I2.env0.make C us []) (hb _ (Value.ref (s.heap.objs.size + 1) :: us) I2.kIn hl) r2 hq) fun r s' hq' => ?_))
  cases r with
  | error e => exact hx _ _ e s' I2 hq'
  | ok fl =>
    cases fl with
    | ret u =>
      obtain ⟨v, H', I3, rv, ev, q3⟩ := I2.after hq'
      subst ev
      exact ⟨rv, ⟨V.ref (s.heap.objs.size + 1), H', I3, rfl, q3⟩⟩
    | next => exact False.elim hq'
    | brk => exact False.elim hq'
    | cont => exact False.elim hq'
theorem pe_makeA (M : Mk X.K C f) (F : FnOk X.prog X.w X.K X.mg X.base CX k f fd ps sp) (hr : Room (k + 1) X.A) (hg : Gl X x) (hm : X.mg x = some (.ref C)) (hb : Binds X.K fd ps ds) (hd : Vals dvs ds) (hx : ∀ σ, PassesAt CX X σ (E σ))
    (ha : PA X es t) (hdb : (x == ("__debug__" : Str)) = false) (hnil : es = [] → ∀ σ H Q, t σ H Q → Q [] H) (hs : ∀ e0 er, es = e0 :: er → starEach (e0 :: er) X.env = (false, eval e0 X.env) :: starEach er X.env ∧ (backTo pos (starEach er X.env)).any (·.1) = false) :
    PE X (.Call (.Name x p) es [] pos) (tMakeA C sp dvs E t) := by
  refine ⟨fun pins s σ H Q I h => ?_⟩
  refine wpAny_Call_Name_kw (ld_glob I hg hm ?_ hdb)
  cases es with
  | nil => exact PySem.W.callWith_K0 I.kIn M.kp (run_makeA (us := []) M F hr hb hd (fun H s e s' => hx σ pins H s e s') I .nil (hnil rfl _ _ _ h))
  | cons e0 er =>
    obtain ⟨hst, hpl⟩ := hs e0 er rfl
    refine PySem.W.callWith_K (h₀ := X.base) I.ok.mod.kin M.kp (thn (ha.run pos pins s σ H _ I h) fun us s1 ⟨vs, H1, I1, r, q⟩ => ⟨I1.kIn, ?_⟩) hst hpl
    exact run_makeA M F hr hb hd (fun H s e s' => hx σ pins H s e s') I1 r q
variable {n : Nat} {g : List Value → List Value → List Value} {gV : List V → List V → List V}
def tCallKA (n m : Nat) (sp : Sp) (gV : List V → List V → List V) (E : L2.St → XK) (t tk : TA) : TE := fun σ H Q => t σ H fun vs H1 => tk σ H1 fun zs H2 => vs.length = n ∧ zs.length = m ∧ sp (gV vs zs) H2 Q (E σ)
theorem run_fnKA {pins : List (Addr × Obj)} {σ : L2.St} {H : Hp} {s : Shared} {Q : VK} {us ws : List Value} {vs zs : List V} (F : FnOk X.prog X.w X.K X.mg X.base CX k f fd ps sp) (hr : Room k X.A) (hb : KBn X.K fd ps n ks g gV) (hx : PassesAt CX X σ (E σ))
    (I : Inv X pins σ H s) (r : Vals vs us) (rz : Vals zs ws) (l1 : vs.length = n) (l2 : zs.length = ks.length) (h : sp (gV vs zs) H Q (E σ)) : wpAny (model X.prog X.w) X.A (call (.ref f) us (ks.zip ws)) (EP X pins σ Q) X.xe s := by
  have r2 := hb.rel r rz
  refine wpAny_call (codeAny_mono (F.run X.A X.stack s H ⟨us, ks.zip ws⟩ (g us ws) (gV vs zs) Q (E σ) hr I.env0 (hb.to s us ws I.kIn (r.length.symm.trans l1) (rz.length.symm.trans l2)) r2 h) fun r s' hq => ?_)
  cases r with
  | error e => exact hx pins H s e s' I hq
  | ok fl =>
    cases fl with
    | ret u => exact I.after hq
    | next => exact False.elim hq
    | brk => exact False.elim hq
    | cont => exact False.elim hq
theorem pe_callKA {e0 : Expr} {er : List Expr} (F : FnOk X.prog X.w X.K X.mg X.base CX k f fd ps sp) (hr : Room k X.A) (hg : Gl X x) (hm : X.mg x = some (.ref f)) (hk : PySem.W.keepIn X.K (.ref f) = true) (hb : KBn X.K fd ps n ks g gV) (hx : ∀ σ, PassesAt CX X σ (E σ))
    (ha : PA X (e0 :: er) t) (hkw : PK X kws tk) (hall : (backToKw pos (keywordEach kws X.env)).all (·.1.isSome) = true) (hks : (backToKw pos (keywordEach kws X.env)).filterMap (·.1) = ks)
    (hdb : (x == ("__debug__" : Str)) = false) (he : starEach (e0 :: er) X.env = (false, eval e0 X.env) :: starEach er X.env)
    (hpl : ((backTo pos (starEach (e0 :: er) X.env)).any (·.1) || (backToKw pos (keywordEach kws X.env)).any (·.1.isNone)) = false) :
    PE X (.Call (.Name x p) (e0 :: er) kws pos) (tCallKA n ks.length sp gV E t tk) := by
  refine ⟨fun pins s σ H Q I h => ?_⟩
  refine wpAny_Call_Name_kw (ld_glob I hg hm ?_ hdb)
  refine PySem.W.callWith_KW (h₀ := X.base) I.ok.mod.kin hk hall (thn (ha.run pos pins s σ H _ I h) fun us s1 ⟨vs, H1, I1, r, q⟩ => ?_) hpl he
  refine thn (hkw.run pos pins s1 σ H1 _ I1 q) fun ws s2 ⟨zs, H2, I2, rz, l1, l2, q2⟩ => ⟨I2.kIn, ?_⟩
  rw [hks]
  exact run_fnKA F hr hb (hx σ) I2 r rz l1 l2 q2
def tMakeKA (C : Addr) (n m : Nat) (sp : Sp) (gV : List V → List V → List V) (E : L2.St → XK) (t tk : TA) : TE := fun σ H Q => t σ H fun vs H1 => tk σ H1 fun zs H2 => vs.length = n ∧ zs.length = m ∧ ∀ x dx, H2 x = none → H2 dx = none → dx ≠ x →
  sp (gV (.ref x :: vs) zs) (upd (upd H2 dx (.own x)) x (.ins C dx [])) (fun v H3 => v = .non ∧ Q (.ref x) H3) (E σ)
theorem run_makeKA {pins : List (Addr × Obj)} {σ : L2.St} {H : Hp} {s : Shared} {Q : VK} {us ws : List Value} {vs zs : List V} (M : Mk X.K C f) (F : FnOk X.prog X.w X.K X.mg X.base CX k f fd ps sp) (hr : Room (k + 1) X.A) (hb : KBn X.K fd ps (n + 1) ks g gV)
    (hx : ∀ H s (e : Value) s', Inv X pins σ H s → CX X.stack H s (E σ) e s' → X.xe e s') (I : Inv X pins σ H s) (r : Vals vs us) (rz : Vals zs ws) (l1 : vs.length = n) (l2 : zs.length = ks.length)
    (h : ∀ x dx, H x = none → H dx = none → dx ≠ x → sp (gV (.ref x :: vs) zs) (upd (upd H dx (.own x)) x (.ins C dx [])) (fun v H2 => v = .non ∧ Q (.ref x) H2) (E σ)) :
    wpAny (model X.prog X.w) X.A (call (.ref C) us (ks.zip ws)) (EP X pins σ Q) X.xe s := by
  have hq := h (s.heap.objs.size + 1) s.heap.objs.size (I.hok.fresh (Nat.le_succ _)) (I.hok.fresh (Nat.le_refl _)) (Nat.ne_of_lt (Nat.lt_succ_self _))
  have I2 := Inv.made (C := C) I
  have r1 : Vals (V.ref (s.heap.objs.size + 1) :: vs) (Value.ref (s.heap.objs.size + 1) :: us) := .cons rfl r
  have r2 := hb.rel r1 rz
  have n1 : (Value.ref (s.heap.objs.size + 1) :: us).length = n + 1 := by
    rw [List.length_cons, ← r.length, l1]
  refine wpAny_call (make_map (f := f) I.kIn M.makes M.init (beq_iff_eq.mp M.fn) (codeAny_mono (F.run _ X.stack _ _ ⟨Value.ref (s.heap.objs.size + 1) :: us, ks.zip ws⟩ (g (Value.ref (s.heap.objs.size + 1) :: us) ws) _ _ (E σ) (hr.make C us (ks.zip ws))
    (I2.env0.make C us (ks.zip ws)) (hb.to _ (Value.ref (s.heap.objs.size + 1) :: us) ws I2.kIn n1 (rz.length.symm.trans l2)) r2 hq) fun r s' hq' => ?_))
  cases r with
  | error e => exact hx _ _ e s' I2 hq'
  | ok fl =>
    cases fl with
    | ret u =>
      obtain ⟨v, H', I3, rv, ev, q3⟩ := I2.after hq'
      subst ev
      exact ⟨rv, ⟨V.ref (s.heap.objs.size + 1), H', I3, rfl, q3⟩⟩
    | next => exact False.elim hq'
    | brk => exact False.elim hq'
    | cont => exact False.elim hq'
theorem pe_makeKA {e0 : Expr} {er : List Expr} (M : Mk X.K C f) (F : FnOk X.prog X.w X.K X.mg X.base CX k f fd ps sp) (hr : Room (k + 1) X.A) (hg : Gl X x) (hm : X.mg x = some (.ref C)) (hb : KBn X.K fd ps (n + 1) ks g gV) (hx : ∀ σ, PassesAt CX X σ (E σ)) (ha : PA X (e0 :: er) t) (hkw : PK X kws tk)
    (hall : (backToKw pos (keywordEach kws X.env)).all (·.1.isSome) = true) (hks : (backToKw pos (keywordEach kws X.env)).filterMap (·.1) = ks) (hdb : (x == ("__debug__" : Str)) = false)
    (he : starEach (e0 :: er) X.env = (false, eval e0 X.env) :: starEach er X.env) (hpl : ((backTo pos (starEach (e0 :: er) X.env)).any (·.1) || (backToKw pos (keywordEach kws X.env)).any (·.1.isNone)) = false) :
    PE X (.Call (.Name x p) (e0 :: er) kws pos) (tMakeKA C n ks.length sp gV E t tk) := by
  refine ⟨fun pins s σ H Q I h => ?_⟩
  refine wpAny_Call_Name_kw (ld_glob I hg hm ?_ hdb)
  refine PySem.W.callWith_KW (h₀ := X.base) I.ok.mod.kin M.kp hall (thn (ha.run pos pins s σ H _ I h) fun us s1 ⟨vs, H1, I1, r, q⟩ => ?_) hpl he
  refine thn (hkw.run pos pins s1 σ H1 _ I1 q) fun ws s2 ⟨zs, H2, I2, rz, l1, l2, q2⟩ => ⟨I2.kIn, ?_⟩
  rw [hks]
  exact run_makeKA M F hr hb (fun H s e s' => hx σ pins H s e s') I2 r rz l1 l2 q2
end
end VE
namespace VE
open PySem PySem.Spec PyProof.Rows L2
section
variable {prog : Program} {w : World} {A : Around} {E : Value → Shared → Prop} {s : Shared}
theorem mnT_raw {l : Addr} {its : List Value} {ns : List Int} {Q : Value → Shared → Prop} (hh : A.handled = none) (hl : s.heap.IsTuple l its.toArray) (hi : IntsAre its ns) (hne : 0 < ns.length)
    (h : ∀ h' tk M t', (∀ b o, s.heap.get? b = some o → h'.get? b = some o) → M ∈ ns → (∀ a, a ∈ ns → M ≤ a) → Q (.int M t') { s with heap := h', toks := tk }) : wpAny (model prog w) A (call (.builtin "min") [.ref l]) Q E s := by
  obtain ⟨xs, e⟩ := hi.allInts.items
  have hn : numsOf (intItems xs).toList = ns := by rw [← e]; exact hi.numsOf
  rw [nums_intItems] at hn
  subst hn
  rw [e] at hl
  have hsz : 0 < xs.size := by simpa using hne
  have hlt : l < s.heap.objs.size := by
    obtain ⟨o, ho, _⟩ := hl
    exact Heap.lt_size ho
  refine call_min_walk (wpAny_pyIter_tuple hl ?_)
  refine ⟨_, [s.heap.objs.size, l], [s.heap.objs.size], _, _, _, _, rfl, Walks.tuple (A := A.in1) hh _ l (Nat.ne_of_lt hlt) (intItems xs),
    ⟨⟨_, Heap.get?_push_size _ rfl, rfl, rfl⟩, hl.push _⟩, fun c hc => ?_, by simpa [intItems] using hsz, CmpOf.ints_lt (numAt xs) (fun _ _ => intItems_at), fun v h' tk hP hk => ?_⟩
  · show c < (s.heap.push _).objs.size
    rw [Heap.size_push]
    rcases List.mem_cons.mp hc with e1 | hc
    · rw [e1]; exact Nat.lt_succ_self _
    · rw [List.mem_singleton.mp hc]; exact Nat.lt_succ_of_lt hlt
  · have hP' : (intItems xs)[argBest (fun i j => decide (numAt xs i < numAt xs j)) (xs.size - 1)]? = some v := by simpa [intItems] using hP
    obtain ⟨t, rfl⟩ := intItems_at hP'
    obtain ⟨h1, h2⟩ := argBest_lt (numAt xs) (xs.size - 1)
    refine h h' tk _ t (fun b o e => hk b o (fun z => ?_) (Heap.get?_push_of_some _ e)) ?_ fun a ha => ?_
    · have e1 : b = s.heap.objs.size := List.mem_singleton.mp z
      exact Nat.lt_irrefl _ (e1 ▸ Heap.lt_size e)
    · rw [numAt_eq]; exact PySem.getD_mem (by rw [List.length_map, Array.length_toList]; omega)
    · obtain ⟨j, hj, rfl⟩ := mem_getD ha
      rw [List.length_map, Array.length_toList] at hj
      rw [← numAt_eq]; exact h2 j (by omega)
theorem mxT_raw {l : Addr} {its : List Value} {ns : List Int} {Q : Value → Shared → Prop} (hh : A.handled = none) (hl : s.heap.IsTuple l its.toArray) (hi : IntsAre its ns) (hne : 0 < ns.length)
    (h : ∀ h' tk M t', (∀ b o, s.heap.get? b = some o → h'.get? b = some o) → M ∈ ns → (∀ a, a ∈ ns → a ≤ M) → Q (.int M t') { s with heap := h', toks := tk }) : wpAny (model prog w) A (call (.builtin "max") [.ref l]) Q E s := by
  obtain ⟨xs, e⟩ := hi.allInts.items
  have hn : numsOf (intItems xs).toList = ns := by rw [← e]; exact hi.numsOf
  rw [nums_intItems] at hn
  subst hn
  rw [e] at hl
  have hsz : 0 < xs.size := by simpa using hne
  have hlt : l < s.heap.objs.size := by
    obtain ⟨o, ho, _⟩ := hl
    exact Heap.lt_size ho
  refine call_max_walk (wpAny_pyIter_tuple hl ?_)
  refine ⟨_, [s.heap.objs.size, l], [s.heap.objs.size], _, _, _, _, rfl, Walks.tuple (A := A.in1) hh _ l (Nat.ne_of_lt hlt) (intItems xs),
    ⟨⟨_, Heap.get?_push_size _ rfl, rfl, rfl⟩, hl.push _⟩, fun c hc => ?_, by simpa [intItems] using hsz, CmpOf.ints_gt (numAt xs) (fun _ _ => intItems_at), fun v h' tk hP hk => ?_⟩
  · show c < (s.heap.push _).objs.size
    rw [Heap.size_push]
    rcases List.mem_cons.mp hc with e1 | hc
    · rw [e1]; exact Nat.lt_succ_self _
    · rw [List.mem_singleton.mp hc]; exact Nat.lt_succ_of_lt hlt
  · have hP' : (intItems xs)[argBest (fun i j => decide (numAt xs i > numAt xs j)) (xs.size - 1)]? = some v := by simpa [intItems] using hP
    obtain ⟨t, rfl⟩ := intItems_at hP'
    obtain ⟨h1, h2⟩ := argBest_gt (numAt xs) (xs.size - 1)
    refine h h' tk _ t (fun b o e => hk b o (fun z => ?_) (Heap.get?_push_of_some _ e)) ?_ fun a ha => ?_
    · have e1 : b = s.heap.objs.size := List.mem_singleton.mp z
      exact Nat.lt_irrefl _ (e1 ▸ Heap.lt_size e)
    · rw [numAt_eq]; exact PySem.getD_mem (by rw [List.length_map, Array.length_toList]; omega)
    · obtain ⟨j, hj, rfl⟩ := mem_getD ha
      rw [List.length_map, Array.length_toList] at hj
      rw [← numAt_eq]; exact h2 j (by omega)
end
section
variable {X : Cx}
def rMaxT (K : PySem.W.Frag) : List V → Hp → VK → Prop := fun vs H Q => ∃ (a : Addr) (ns : List Int), vs = [V.ref a] ∧ SqT K H a (ns.map V.int) ∧ 0 < ns.length ∧ ∀ m, m ∈ ns → (∀ y, y ∈ ns → y ≤ m) → Q (.int m) H
def rMinT (K : PySem.W.Frag) : List V → Hp → VK → Prop := fun vs H Q => ∃ (a : Addr) (ns : List Int), vs = [V.ref a] ∧ SqT K H a (ns.map V.int) ∧ 0 < ns.length ∧ ∀ m, m ∈ ns → (∀ y, y ∈ ns → m ≤ y) → Q (.int m) H
theorem cr_maxT (hc : X.calm = true) : CallR X (.builtin "max") (rMaxT X.K) := by
  intro pins s σ H vs us Q I r h
  obtain ⟨a, ns, rfl, hs, hne, q⟩ := h
  obtain ⟨its, rv, hl, _⟩ := I.tuple hs
  rw [Vals.ref1 r]
  exact mxT_raw (I.ok.hd hc) hl rv.ints hne fun h' tk m t' hk h1 h2 => ⟨.int _, H, I.kept hk, ⟨_, rfl⟩, q m h1 h2⟩
theorem cr_minT (hc : X.calm = true) : CallR X (.builtin "min") (rMinT X.K) := by
  intro pins s σ H vs us Q I r h
  obtain ⟨a, ns, rfl, hs, hne, q⟩ := h
  obtain ⟨its, rv, hl, _⟩ := I.tuple hs
  rw [Vals.ref1 r]
  exact mnT_raw (I.ok.hd hc) hl rv.ints hne fun h' tk m t' hk h1 h2 => ⟨.int _, H, I.kept hk, ⟨_, rfl⟩, q m h1 h2⟩
end
end VE
set_option linter.all false
set_option maxRecDepth 100000
set_option maxHeartbeats 4000000
namespace VE
open PySem PySem.Spec PyProof.Rows L2
theorem tup_mul1 (l : Addr) (items : Array Value) (n : Nat) (dd : Option Addr) (sl : Array (Option Value)) (x : Int) (u : Tok) (c0 : (decide (x < -(2 ^ 63)) || decide (x ≥ 2 ^ 63)) = false) (c1 : (items.isEmpty || x == 1) = true) :
    Meets (Builtin.«tuple.__mul__» ⟨[.ref l, .int x u], []⟩) (fun _ R s => s.heap.get? l = some { cls := .type "tuple", dict := dd, data := .seq items n, slots := sl } ∧
      R (.ok (.ret (Value.ref l))) { s with heap := s.heap, toks := s.toks }) :=
  .of_wp fun prog w A R s h => by
    obtain ⟨hp, g, d, tk, os⟩ := s
    obtain ⟨hl, h⟩ := h
    have f1 := AutoSeq1.idx_int
    wp_walk using wpAny_loadPart' hl
    repeat (first
      | (refine wpAny_ite_false (decide_eq_false (by rw [c0]; exact Bool.false_ne_true)) ?_; wp_walk using wpAny_loadPart' hl))
    exact ⟨_, rfl, h⟩
theorem tup_mul0 (l : Addr) (items : Array Value) (n : Nat) (dd : Option Addr) (sl : Array (Option Value)) (x : Int) (u : Tok) (c0 : (decide (x < -(2 ^ 63)) || decide (x ≥ 2 ^ 63)) = false) (c1 : (items.isEmpty || x == 1) = false) (c2 : (decide (x ≤ 0) || items.isEmpty) = true) :
    Meets (Builtin.«tuple.__mul__» ⟨[.ref l, .int x u], []⟩) (fun _ R s => s.heap.get? l = some { cls := .type "tuple", dict := dd, data := .seq items n, slots := sl } ∧
      R (.ok (.ret (Value.ref s.heap.objs.size))) { s with heap := s.heap.push { cls := Value.type "tuple", data := Data.seq #[] }, toks := s.toks }) :=
  .of_wp fun prog w A R s h => by
    obtain ⟨hp, g, d, tk, os⟩ := s
    obtain ⟨hl, h⟩ := h
    have f1 := AutoSeq1.idx_int
    wp_walk using wpAny_loadPart' hl
    repeat (first
      | (refine wpAny_ite_false (decide_eq_false (by rw [c0]; exact Bool.false_ne_true)) ?_; wp_walk using wpAny_loadPart' hl)
      | (refine wpAny_ite_false (decide_eq_false (by rw [c1]; exact Bool.false_ne_true)) ?_; wp_walk using wpAny_loadPart' hl)
      | (refine wpAny_ite_true (decide_eq_true (by rw [c2])) ?_; wp_walk using wpAny_loadPart' hl))
    exact ⟨_, rfl, h⟩
def rRepA (K : PySem.W.Frag) : R2 := fun x y H Q => ∃ l k xs, x = .ref l ∧ y = .int k ∧ SqT K H l xs ∧ xs ≠ [] ∧ 0 ≤ k ∧ k ≤ 1000 ∧ xs.length ≤ 1000 ∧ (k = 1 → Q (.ref l) H) ∧ (k ≠ 1 → ∀ p, H p = none → Q (.ref p) (upd H p (.tup (List.replicate k.toNat xs).flatten)))
section
variable {X : Cx}
theorem op_repA : OpR X (binaryOp .Mult) (rRepA X.K) := by
  intro pins s σ H x y v u Q I rx ry h
  obtain ⟨l, k, xs, rfl, rfl, hT, hne, h1, h2, hz, q1, q2⟩ := h
  by_cases big : 2 ≤ k
  · exact op_repT pins s σ H _ _ v u Q I rx ry ⟨l, k, xs, rfl, rfl, hT, hne, big, h2, hz, q2 (by omega)⟩
  cases rx
  obtain ⟨t, rfl⟩ := ry
  have I0 := I
  obtain ⟨its, r, ⟨⟨cls, dd, data, sl⟩, ho, hc, n, hd⟩, hs⟩ := I.tuple hT
  simp only at hc hd
  subst hc hd
  have hle : its.length = xs.length := r.length.symm
  have hn : its ≠ [] := fun e => hne (by
    rw [e] at hle
    exact List.eq_nil_of_length_eq_zero hle.symm)
  have hi : its.toArray.isEmpty = false := by
    cases its with
    | nil => exact absurd rfl hn
    | cons a b => rfl
  have c0 : (decide (k < -(2 ^ 63)) || decide (k ≥ 2 ^ 63)) = false := by
    rw [decide_eq_false (by omega), decide_eq_false (by omega)] <;> rfl
  by_cases k1 : k = 1
  · subst k1
    have c1 : (its.toArray.isEmpty || (1 : Int) == 1) = true := by rw [hi]; rfl
    exact wpAny_binaryOp_repeat_ref (T := "tuple") (U := "int") (by decide) ⟨_, ho, rfl⟩ (fun s' => typeIs_int s' 1 t) noFill_tuple_mul F.fills_int_mul F.slot_int_rmul repeat_tuple F.slot_int_index.lookup
      (call_meets F.slot_int_rmul (typeIs_int s 1 t) F.entry_int_rmul (F.args_int_rmul_2 _ _) (int_rmul_tuple 1 t l its.toArray n dd sl)
        ⟨ho, rfl, ⟨_, ho, rfl⟩, call_meets F.slot_tuple_mul ⟨_, ho, rfl⟩ F.entry_tuple_mul (F.args_tuple_mul_2 _ _) (tup_mul1 l its.toArray n dd sl 1 t c0 c1) ⟨ho, ⟨.ref l, H, I0, rfl, q1 rfl⟩⟩⟩)
  · have k0 : k = 0 := by omega
    subst k0
    have c1 : (its.toArray.isEmpty || (0 : Int) == 1) = false := by rw [hi]; rfl
    have c2 : (decide ((0 : Int) ≤ 0) || its.toArray.isEmpty) = true := rfl
    refine wpAny_binaryOp_repeat_ref (T := "tuple") (U := "int") (by decide) ⟨_, ho, rfl⟩ (fun s' => typeIs_int s' 0 t) noFill_tuple_mul F.fills_int_mul F.slot_int_rmul repeat_tuple F.slot_int_index.lookup
      (call_meets F.slot_int_rmul (typeIs_int s 0 t) F.entry_int_rmul (F.args_int_rmul_2 _ _) (int_rmul_tuple 0 t l its.toArray n dd sl)
        ⟨ho, rfl, ⟨_, ho, rfl⟩, call_meets F.slot_tuple_mul ⟨_, ho, rfl⟩ F.entry_tuple_mul (F.args_tuple_mul_2 _ _) (tup_mul0 l its.toArray n dd sl 0 t c0 c1 c2) ⟨ho, ?_⟩⟩)
    refine ⟨.ref s.heap.objs.size, _, I.laid (t' := s.toks) (o := .tup []) (fun b ob q => Heap.get?_push_of_some _ q) (Nat.le_refl _) ?_, rfl, q2 (by decide) _ (I.hok.fresh (Nat.le_refl _))⟩
    exact ⟨Nat.zero_le _, [], .nil, IsTup.new _ _⟩
end
end VE
namespace VE
open PySem PySem.Spec PyProof.Rows L2
def SZ : Nat := 16777216
def dS (s : List Nat) : Str := ⟨s.toArray⟩
mutual
def py : D → PyData
  | .non => .none | .bl b => .bool b | .int i => .int i | .str s => .str (dS s)
  | .tup ds => .tuple (pyL ds) | .lst ds => .list (pyL ds) | .frz ds => .list (pyL ds) | .obj _ _ _ => .none | .dct _ _ => .none
def pyL : List D → List PyData
  | [] => []
  | d :: r => py d :: pyL r
end
mutual
def dOk : D → Nat → Bool
  | .non, _ => true | .bl _, _ => true | .int _, _ => true | .str s, _ => PyData.canLay0 (.str (dS s)) | .obj _ _ _, _ => false | .dct _ _, _ => false
  | .tup ds, n => match n with | 0 => false | n + 1 => dOkL ds n
  | .lst ds, n => match n with | 0 => false | n + 1 => dOkL ds n
  | .frz ds, n => match n with | 0 => false | n + 1 => dOkL ds n
def dOkL : List D → Nat → Bool
  | [], _ => true
  | d :: r, n => dOk d n && dOkL r n
end
def dScal : D → Bool
  | .non => true | .bl _ => true | .int _ => true | .str _ => true | _ => false
def dEqv (a b : D) : Bool := PyData.eqv (py a) (py b)
def mulOk (i j : Int) : Prop := i.natAbs.log2 + j.natAbs.log2 < 134000000
noncomputable instance (i j : Int) : Decidable (mulOk i j) := Classical.propDecidable _
def shlOk (i j : Int) : Prop := 0 ≤ j ∧ (i.natAbs.log2 : Int) + j < 134000000
noncomputable instance (i j : Int) : Decidable (shlOk i j) := Classical.propDecidable _
def powOk (i j : Int) : Prop := 0 ≤ j ∧ j ≤ 1000000 ∧ i.natAbs < 2 ^ 64
noncomputable instance (i j : Int) : Decidable (powOk i j) := Classical.propDecidable _
def repOk (n : Nat) (k : Int) : Prop := -(2 ^ 63) ≤ k ∧ k < 2 ^ 63 ∧ n * k.toNat ≤ SZ
noncomputable instance (n : Nat) (k : Int) : Decidable (repOk n k) := Classical.propDecidable _
noncomputable def dBin : Operator → D → D → R D
  | .Add, .int i, .int j => .ok (.int (i + j))
  | .Add, .str s, .str t => if s.length + t.length ≤ SZ then .ok (.str (s ++ t)) else .bad
  | .Add, .lst s, .lst t => if s.length + t.length ≤ SZ then .ok (.lst (s ++ t)) else .bad
  | .Add, .tup s, .tup t => if s.length + t.length ≤ SZ then .ok (.tup (s ++ t)) else .bad
  | .Sub, .int i, .int j => .ok (.int (i - j))
  | .Mult, .int i, .int j => if mulOk i j then .ok (.int (i * j)) else .bad
  | .Mult, .lst s, .int k => if repOk s.length k then .ok (.lst (List.replicate k.toNat s).flatten) else .bad
  | .Mult, .str s, .int k => if 0 < s.length ∧ s.length ≤ 1000 ∧ 1 ≤ k ∧ k ≤ 1000 then .ok (.str (List.replicate k.toNat s).flatten) else .bad
  | .Mult, .tup s, .int k => if 0 < s.length ∧ s.length ≤ 1000 ∧ 0 ≤ k ∧ k ≤ 1000 then .ok (.tup (List.replicate k.toNat s).flatten) else .bad
  | .FloorDiv, .int i, .int j => if j = 0 then .bad else .ok (.int (i.fdiv j))
  | .Mod, .int i, .int j => if j = 0 then .bad else .ok (.int (i.fmod j))
  | .Pow, .int i, .int j => if powOk i j then .ok (.int (i ^ j.toNat)) else .bad
  | .LShift, .int i, .int j => if shlOk i j then .ok (.int (i * 2 ^ j.toNat)) else .bad
  | .RShift, .int i, .int j => if 0 ≤ j then .ok (.int (i / 2 ^ j.toNat)) else .bad
  | .BitAnd, .int i, .int j => .ok (.int (Builtin.bitAnd i j))
  | .BitOr, .int i, .int j => .ok (.int (Builtin.bitOr i j))
  | .BitXor, .int i, .int j => .ok (.int (Builtin.bitXor i j))
  | _, _, _ => .bad
def dNeg : D → R D
  | .int i => .ok (.int (-i))
  | _ => .bad
def dNot : D → R D
  | .bl b => .ok (.bl !b)
  | _ => .bad
def dEq (a b : D) : R Bool := if dOk a 60 && dOk b 60 then .ok (dEqv a b) else .bad
def dKey : D → Option (List (List Nat))
  | .str s => some [s]
  | .tup [.str s, .str t] => some [s, t]
  | _ => none
def dctOk (k : List (List Nat)) (ks : List (List (List Nat))) : Bool := !ks.isEmpty && ks.all fun z => z.length == k.length
def dctGet {α : Type} (k : List (List Nat)) : List (List (List Nat)) → List α → Option α
  | z :: zs, d :: ds => if z = k then some d else dctGet k zs ds
  | _, _ => none
def dIn (a b : D) : R Bool := match b with
  | .lst ds => if dOk a 60 && dOkL ds 60 then .ok (ds.any fun z => dEqv z a) else .bad
  | .tup ds => if dScal a && ds.all dScal then .ok (ds.any fun z => dEqv z a) else .bad
  | .str t => match a with
    | .str [c] => .ok (decide (c ∈ t))
    | _ => .bad
  | .dct ks _ => match dKey a with
    | some k => if dctOk k ks then .ok (decide (k ∈ ks)) else .bad
    | none => .bad
  | _ => .bad
def rNot : R Bool → R D
  | .ok b => .ok (.bl !b)
  | .exc c => .exc c
  | .bad => .bad
def rBl : R Bool → R D
  | .ok b => .ok (.bl b)
  | .exc c => .exc c
  | .bad => .bad
def isNonD : D → Bool
  | .non => true
  | _ => false
def dCmp : CmpOp → D → D → R D
  | .Lt, .int i, .int j => .ok (.bl (decide (i < j)))
  | .LtE, .int i, .int j => .ok (.bl (decide (i ≤ j)))
  | .Gt, .int i, .int j => .ok (.bl (decide (j < i)))
  | .GtE, .int i, .int j => .ok (.bl (decide (j ≤ i)))
  | .Lt, .str s, .str t => .ok (.bl (decide (s < t)))
  | .LtE, .str s, .str t => .ok (.bl (!decide (t < s)))
  | .Gt, .str s, .str t => .ok (.bl (decide (t < s)))
  | .GtE, .str s, .str t => .ok (.bl (!decide (s < t)))
  | .Eq, a, b => rBl (dEq a b)
  | .NotEq, a, b => rNot (dEq a b)
  | .In, a, b => rBl (dIn a b)
  | .NotIn, a, b => rNot (dIn a b)
  | .Is, a, .non => .ok (.bl (isNonD a))
  | .IsNot, a, .non => .ok (.bl (!isNonD a))
  | .Is, .bl a, .bl b => .ok (.bl (decide (a = b)))
  | .IsNot, .bl a, .bl b => .ok (.bl (!decide (a = b)))
  | _, _, _ => .bad
def rOpt {a : Type} : Option a → R a
  | some x => .ok x
  | none => .bad
def dIx : D → D → R D
  | .lst ds, .int i => rOpt (atI ds i)
  | .frz ds, .int i => rOpt (atI ds i)
  | .tup ds, .int i => rOpt (atI ds i)
  | .str s, .int i => if s.length ≤ SZ then rOpt ((atI s i).map fun c => .str [c]) else .bad
  | .dct ks ds, x => match dKey x with
    | some k => if dctOk k ks then rOpt (dctGet k ks ds) else .bad
    | none => .bad
  | _, _ => .bad
def cutD {a : Type} (xs : List a) (lo hi : Option Int) : List a := (xs.drop (HT.sIx xs.length 0 lo)).take (HT.sIx xs.length xs.length hi - HT.sIx xs.length 0 lo)
def dSl : D → Option Int → Option Int → R D
  | .lst ds, lo, hi => .ok (.lst (cutD ds lo hi))
  | .tup ds, lo, hi => .ok (.tup (cutD ds lo hi))
  | .str s, lo, hi => if s.length ≤ SZ then .ok (.str (cutD s lo hi)) else .bad
  | _, _, _ => .bad
inductive Bi where
  | len | abs | int | min | max | sum | list | tuple | ord | str | all | lrev | isqrt
  deriving DecidableEq
def intsOf : List D → Option (List Int)
  | [] => some []
  | .int i :: r => (intsOf r).map (i :: ·)
  | _ :: _ => none
def blsOf : List D → Option (List Bool)
  | [] => some []
  | .bl i :: r => (blsOf r).map (i :: ·)
  | _ :: _ => none
def strsOf : List D → Option (List Str)
  | [] => some []
  | .str s :: r => (strsOf r).map (dS s :: ·)
  | _ :: _ => none
def maxOf : Int → List Int → Int
  | m, [] => m
  | m, x :: r => maxOf (if x > m then x else m) r
def minOf : Int → List Int → Int
  | m, [] => m
  | m, x :: r => minOf (if x < m then x else m) r
def dBi : Bi → List D → R D
  | .len, [.lst ds] => .ok (.int ds.length)
  | .len, [.frz ds] => .ok (.int ds.length)
  | .len, [.tup ds] => .ok (.int ds.length)
  | .len, [.str s] => if s.length ≤ SZ then .ok (.int s.length) else .bad
  | .abs, [.int i] => .ok (.int (if i < 0 then -i else i))
  | .int, [.int i] => .ok (.int i)
  | .int, [.bl b] => .ok (.int (if b then 1 else 0))
  | .min, [.int i, .int j] => .ok (.int (if j < i then j else i))
  | .max, [.int i, .int j] => .ok (.int (if j > i then j else i))
  | .min, [.lst (.int i :: ds)] => (rOpt (intsOf ds)).bind fun l => .ok (.int (minOf i l))
  | .max, [.lst (.int i :: ds)] => (rOpt (intsOf ds)).bind fun l => .ok (.int (maxOf i l))
  | .min, [.tup (.int i :: ds)] => (rOpt (intsOf ds)).bind fun l => .ok (.int (minOf i l))
  | .max, [.tup (.int i :: ds)] => (rOpt (intsOf ds)).bind fun l => .ok (.int (maxOf i l))
  | .sum, [.lst ds] => (rOpt (intsOf ds)).bind fun l => .ok (.int l.sum)
  | .all, [.lst ds] => (rOpt (blsOf ds)).bind fun l => .ok (.bl (l.all id))
  | .list, [.lst ds] => .ok (.lst ds)
  | .list, [.frz ds] => .ok (.lst ds)
  | .list, [.tup ds] => .ok (.lst ds)
  | .tuple, [.lst ds] => .ok (.tup ds)
  | .tuple, [.tup ds] => .ok (.tup ds)
  | .ord, [.str [c]] => .ok (.int c)
  | .str, [.int i] => if i.natAbs.log2 < 1920 then .ok (.str (Str.ofString (toString i)).cps.toList) else .bad
  | .lrev, [.lst ds] => .ok (.lst ds.reverse)
  | .lrev, [.frz ds] => .ok (.lst ds.reverse)
  | _, _ => .bad
inductive Bm where
  | find | join | split | partition | upper | bits | index | lindex | replace | lappend | lextend | linsert | lpop
  deriving DecidableEq
def rcv : Bm → D → Bool
  | .bits, .int _ => true
  | .bits, _ => false
  | .lindex, .lst _ => true
  | .lindex, _ => false
  | _, .str _ => true
  | _, _ => false
def dTx (x : Str) : D := .str x.cps.toList
def dBm : Bm → D → List D → R D
  | .find, .str s, [.str t] => .ok (.int (Txt.find (dS s) (dS t)))
  | .index, .str s, [.str t] => (match Builtin.Str.occurrences (dS s) (dS t) 0 (dS s).length 1 with
    | i :: _ => .ok (.int (i : Nat))
    | [] => .bad)
  | .lindex, .lst ds, [.str t] => (rOpt (strsOf ds)).bind fun l => rOpt ((l.findIdx? (fun x => x == dS t)).map fun j => D.int ((j : Nat) : Int))
  | .join, .str s, [.lst ds] => (rOpt (strsOf ds)).bind fun l => if (l.map (·.length)).sum + l.length * s.length ≤ SZ then .ok (dTx (Txt.join (dS s) l)) else .bad
  | .split, .str s, [.str t] => if t.length ≠ 0 ∧ s.length + 2 ≤ SZ then .ok (.lst ((Txt.split (dS s) (dS t)).map dTx)) else .bad
  | .partition, .str s, [.str t] => if t.length ≠ 0 ∧ s.length ≤ SZ then
      .ok (.tup [dTx (Txt.partition (dS s) (dS t)).1, dTx (Txt.partition (dS s) (dS t)).2.1, dTx (Txt.partition (dS s) (dS t)).2.2]) else .bad
  | .upper, .str s, [] => if s.length ≤ 5592405 then .ok (dTx (Txt.upper (dS s))) else .bad
  | .bits, .int i, [] => .ok (.int (Builtin.Int.intBits i : Nat))
  | _, _, _ => .bad
def dMut : Bm → List D → List D → R (D × List D)
  | .lappend, ds, [d] => if ds.length < SZ then .ok (.non, ds ++ [d]) else .bad
  | .lextend, ds, [.lst es] => if ds.length + es.length ≤ SZ then .ok (.non, ds ++ es) else .bad
  | .linsert, ds, [.int i, d] => if ds.length < SZ ∧ 0 ≤ i ∧ i < 2 ^ 63 then .ok (.non, ds.take i.toNat ++ [d] ++ ds.drop i.toNat) else .bad
  | .lpop, ds, [.int i] => if -(2 ^ 63) ≤ i ∧ i < 2 ^ 63 then (match seqIndex? i ds.length with
    | some k => (match ds[k]? with
      | some d => .ok (d, ds.eraseIdx k)
      | none => .bad)
    | none => .bad) else .bad
  | _, _, _ => .bad
inductive Ty where
  | int | bool | str | list | tuple | non | cls (c : Nat)
  deriving DecidableEq
def dIsi : D → Ty → R D
  | .frz _, _ => .bad
  | .obj _ _ _, _ => .bad
  | .dct _ _, .non => .bad
  | .dct _ _, .cls _ => .bad
  | .dct _ _, _ => .ok (.bl false)
  | .bl _, .int => .ok (.bl true)
  | .bl _, .bool => .ok (.bl true)
  | .int _, .int => .ok (.bl true)
  | .str _, .str => .ok (.bl true)
  | .lst _, .list => .ok (.bl true)
  | .tup _, .tuple => .ok (.bl true)
  | _, .non => .bad
  | _, .cls _ => .bad
  | _, _ => .ok (.bl false)
inductive T where
  | v (i : Nat) | ci (i : Int) | cb (b : Bool) | cn | cs (s : List Nat) | g (k : Nat)
  | bin (op : Operator) (a b : T) | neg (a : T) | not (a : T) | and (a b : T) | or (a b : T) | ite (c a b : T)
  | cmp (op : CmpOp) (a b : T) | chain (op op' : CmpOp) (a b c : T)
  | nil | cons (a r : T) | tup (as : T) | lst (as : T)
  | ix (a b : T) | sl (a lo hi : T) | no
  | call (f : Nat) (as : T) | callk (f : Nat) (as : T) (kn : List Nat) (ks : T) | mk (c : Nat) (as : T) | mkk (c : Nat) (as : T) (kn : List Nat) (ks : T) | meth (m : Nat) (o as : T) | fld (f : Nat) (o : T) | mcall (m i : Nat) (as : T)
  | isq (a : T) | rpl (lit : List Nat) (ps : List (Nat × Nat)) (a : T) | dsp (ks : List (List Nat)) (as : T) | dget (g : Nat) (k : T) | din (neg : Bool) (g : Nat) (k : T) | dgt (g : Nat) (k d : T) | maxd (a : T) (d : Int)
  | lrev (a : T) | bi (b : Bi) (as : T) | bm (m : Bm) (o as : T) | isi (a : T) (t : Ty) | ise (i : Nat) (t : Nat) | iseT (i : Nat) (ts : List Nat)
  | lc (own : List Nat) (tg : List Nat) (tup : Bool) (it c a : T)
  | itr (a : T) | rng1 (a : T) | rng2 (a b : T) | rng3 (a b c : T) | zip (a b : T) | enum (a : T) | rev (a : T)
  | pass | brk | cnt | ret (fr : Bool) (cl : List Nat) (a : T) | ex (cl : List Nat) (a : T)
  | asg (i : Nat) (cl : List Nat) (o : Bool) (a : T) | unp (is : List Nat) (cl : List Nat) (a : T) | par (is : List Nat) (cl : List Nat) (as : T)
  | aug (i : Nat) (op : Operator) (cl : List Nat) (a : T) | setix (i : Nat) (cl : List Nat) (ix a : T) | mut (m : Bm) (i : Nat) (cl : List Nat) (as : T)
  | sfld (i f : Nat) (cl : List Nat) (a : T) | afld (i f : Nat) (op : Operator) (cl : List Nat) (a : T)
  | iff (cl : List Nat) (c a b : T) | whl (cl : List Nat) (c b : T) | for_ (cl : List Nat) (tg : List Nat) (tup : Bool) (it b : T) | seq (a b : T)
  | rse (c : Nat) | try_ (b hs : T) | hcons (cs : List Nat) (nm : Option Nat) (s r : T)
  | exM (cl : List Nat) (a : T) | retM (cl : List Nat) (a : T) | asgM (i : Nat) (cl : List Nat) (o : Bool) (a : T) | forM (cl : List Nat) (tg : List Nat) (tup : Bool) (a b : T)
  deriving DecidableEq
inductive Sl where
  | emp | val (d : D) (own : Bool) | exn (c : Nat)
abbrev Ev := List Sl
inductive Out where
  | nx (e : Ev) | rt (d : D) (e : Ev) | bk (e : Ev) | ct (e : Ev) | exc (c : Nat) (e : Ev) | bad
structure Pr where
  fn : Nat → List D → R D
  mt : Nat → Nat → Option (Nat × Bool)
  frf : Nat → Bool
  ini : Nat → Option Nat
  kwf : Nat → List Nat → List D → List D → Option (List D)
  fok : Nat → Nat → Bool
  dc : Nat → Option (List (D × D))
  su : Nat → Nat → Bool
  isx : Nat → Bool
  gl : Nat → Option D
def rdS (e : Ev) (i : Nat) : R D := match e[i]? with
  | some (.val d _) => .ok d
  | _ => .bad
def wipeE : List Nat → Ev → Ev
  | [], e => e
  | i :: r, e => (wipeE r e).set i .emp
def clrE : List Nat → Ev → Ev
  | [], e => e
  | i :: r, e => (match (clrE r e)[i]? with
    | some (.val d true) => (clrE r e).set i (.val d false)
    | _ => clrE r e)
def setAll : List Nat → List D → Ev → R Ev
  | [], [], e => .ok e
  | i :: is, d :: ds, e => setAll is ds (e.set i (.val d false))
  | _, _, _ => .bad
def seqOf : D → R (List D)
  | .lst ds => .ok ds
  | .tup ds => .ok ds
  | _ => .bad
def starOf : D → R (List D)
  | .lst ds => if ds.length ≤ 800 then .ok ds else .bad
  | .tup ds => if ds.length ≤ 800 then .ok ds else .bad
  | _ => .bad
def rplS : List (Nat × Nat) → List Nat → List Nat
  | [], s => s
  | (y, z) :: r, s => (Txt.replace (dS (rplS r s)) (dS [y]) (dS [z])).cps.toList
def rplOk : List (Nat × Nat) → List Nat → Bool
  | [], _ => true
  | (y, z) :: r, s => rplOk r s && decide (y ≠ z) && decide ((rplS r s).length ≤ 1000)
def dRpl (lit : List Nat) (ps : List (Nat × Nat)) : D → R D
  | .str s => if rplOk ps s && decide (lit.length + (rplS ps s).length ≤ SZ) then .ok (.str (lit ++ rplS ps s)) else .bad
  | _ => .bad
def nestT : List Nat → Option (Nat × List Nat)
  | i :: r => if 1000 ≤ i then some (i - 1000, r) else none
  | [] => none
def setNest (n : Nat) (r : List Nat) (e : Ev) : List D → R Ev
  | d :: ds => (seqOf d).bind fun xs => (setAll (r.take n) xs e).bind fun e1 => setAll (r.drop n) ds e1
  | [] => .bad
def bindT (tg : List Nat) (tup : Bool) (d : D) (e : Ev) : R Ev := if tup then (match nestT tg with
  | none => (seqOf d).bind fun ds => setAll tg ds e
  | some p => (seqOf d).bind fun ds => setNest p.1 p.2 e ds) else setAll tg [d] e
def rngL (lo : Int) (c : Int) (n : Nat) : List D := (List.range n).map fun (k : Nat) => D.int (lo + (k : Int) * c)
def inR (i : Int) : Prop := -(2 ^ 62) ≤ i ∧ i < 2 ^ 62
noncomputable instance (i : Int) : Decidable (inR i) := Classical.propDecidable _
def inG (i : Int) : Prop := 0 ≤ i ∧ i ≤ 16777216
noncomputable instance (i : Int) : Decidable (inG i) := Classical.propDecidable _
noncomputable def dRng : D → R D
  | .int n => if inG n then .ok (.lst (rngL 0 1 n.toNat)) else .bad
  | _ => .bad
def itemsOf : D → R (List D)
  | .lst ds => .ok ds
  | .tup ds => .ok ds
  | .frz ds => .ok ds
  | .str s => .ok (s.map fun c => .str [c])
  | _ => .bad
def zipD : D → D → R (List D)
  | .lst a, .lst b => .ok ((a.zip b).map fun p => .tup [p.1, p.2])
  | .tup a, .tup b => .ok ((a.zip b).map fun p => .tup [p.1, p.2])
  | _, _ => .bad
def consO : Option D → List D → List D
  | some x, l => x :: l
  | none, l => l
def lcRun (f : D → R (Option D)) : List D → R (List D)
  | [] => .ok []
  | d :: r => (match f d with
    | .ok o => (lcRun f r).bind fun l => .ok (consO o l)
    | _ => .bad)
def notOwn (e : Ev) (i : Nat) : Bool := match e[i]? with
  | some (.val _ true) => false
  | _ => true
def tst : R D → R Bool
  | .ok (.bl b) => .ok b
  | .exc c => .exc c
  | _ => .bad
def asInt : R D → R Int
  | .ok (.int b) => .ok b
  | .exc c => .exc c
  | _ => .bad
def ownable : D → Bool
  | .lst _ => true
  | .obj _ _ _ => true
  | _ => false
def objC : D → R Nat
  | .obj c _ _ => .ok c
  | _ => .bad
def lookF (f : Nat) : List Nat → List D → R D
  | g :: gs, d :: ds => if g = f then .ok d else lookF f gs ds
  | _, _ => .bad
def dFld (fok : Nat → Nat → Bool) (f : Nat) : D → R D
  | .obj c fs ds => if fok c f then lookF f fs ds else .bad
  | _ => .bad
def selfOf : R D → R D
  | .ok (.tup [.non, s]) => .ok s
  | .exc k => .exc k
  | _ => .bad
def pmt : Option (Nat × Bool) → Option Nat
  | some (f, false) => some f
  | _ => none
def mmt : Option (Nat × Bool) → Option Nat
  | some (f, true) => some f
  | _ => none
def dLook (k : D) : List (D × D) → Option D
  | [] => none
  | (a, b) :: r => if dKey a = dKey k then some b else dLook k r
def dIsq : D → R D
  | .int i => if 0 ≤ i ∧ i.natAbs.log2 < 13000 then .ok (.int (Float64.isqrt i.toNat : Nat)) else .bad
  | _ => .bad
def dMaxd (d : Int) : D → R D
  | .lst [] => .ok (.int d)
  | .lst (.int i :: ds) => (rOpt (intsOf ds)).bind fun l => .ok (.int (maxOf i l))
  | _ => .bad
def putFD (f : Nat) (x : D) : List Nat → List D → List Nat × List D
  | g :: gs, d :: ds => if g = f then (g :: gs, x :: ds) else ((putFD f x gs ds).1.cons g, (putFD f x gs ds).2.cons d)
  | gs, ds => (gs ++ [f], ds ++ [x])
def optI (t : T) (r : R D) : R (Option Int) := match t with
  | .no => .ok none
  | _ => (asInt r).bind fun i => .ok (some i)
def optC (t : T) (r : R D) : R Bool := match t with
  | .no => .ok true
  | _ => tst r
section
variable (cl : Pr)
mutual
noncomputable def evX (w : Bool) : T → Ev → R D
  | .v i, e => match e[i]? with
    | some (.val d o) => if o && !w then .bad else .ok d
    | _ => .bad
  | .ci i, _ => .ok (.int i)
  | .cb b, _ => .ok (.bl b)
  | .cn, _ => .ok .non
  | .cs s, _ => .ok (.str s)
  | .g k, _ => rOpt (cl.gl k)
  | .bin op a b, e => (evX true a e).bind fun x => (evX true b e).bind fun y => dBin op x y
  | .neg a, e => (evX true a e).bind dNeg
  | .not a, e => (tst (evX true a e)).bind fun b => .ok (.bl !b)
  | .and a b, e => (tst (evX true a e)).bind fun t => if t then (tst (evX true b e)).bind fun u => .ok (.bl u) else .ok (.bl false)
  | .or a b, e => (tst (evX true a e)).bind fun t => if t then .ok (.bl true) else (tst (evX true b e)).bind fun u => .ok (.bl u)
  | .ite c a b, e => (tst (evX true c e)).bind fun t => if t then evX false a e else evX false b e
  | .cmp op a b, e => (evX true a e).bind fun x => (evX true b e).bind fun y => dCmp op x y
  | .chain op op' a b c, e => (evX true a e).bind fun x => (evX true b e).bind fun y => (tst (dCmp op x y)).bind fun t => if t then (evX true c e).bind fun z => (dCmp op' y z) else .ok (.bl false)
  | .tup as, e => (evL false as e).bind fun ds => .ok (.tup ds)
  | .lst as, e => (evL false as e).bind fun ds => .ok (.lst ds)
  | .ix a b, e => (evX true a e).bind fun x => (evX true b e).bind fun y => dIx x y
  | .sl a lo hi, e => (evX true a e).bind fun x => (optI lo (evX true lo e)).bind fun l => (optI hi (evX true hi e)).bind fun h => dSl x l h
  | .call f as, e => (evL false as e).bind fun ds => cl.fn f ds
  | .callk f as kn ks, e => (evL false as e).bind fun ds => (evL false ks e).bind fun zs => (rOpt (cl.kwf f kn ds zs)).bind fun l => cl.fn f l
  | .mk c as, e => (evL false as e).bind fun ds => (rOpt (cl.ini c)).bind fun f => selfOf (cl.fn f (.obj c [] [] :: ds))
  | .mkk c as kn ks, e => (evL false as e).bind fun ds => (evL false ks e).bind fun zs => (rOpt (cl.ini c)).bind fun f => (rOpt (cl.kwf f kn (.obj c [] [] :: ds) zs)).bind fun l => selfOf (cl.fn f l)
  | .meth m o as, e => (evX false o e).bind fun x => (objC x).bind fun c => (rOpt (pmt (cl.mt c m))).bind fun f => (evL false as e).bind fun ds => cl.fn f (x :: ds)
  | .fld f o, e => (evX true o e).bind fun x => dFld cl.fok f x
  | .dget g k, e => (rOpt (cl.dc g)).bind fun l => (evX true k e).bind fun x => if (dKey x).isSome then rOpt (dLook x l) else .bad
  | .din neg g k, e => (evX true k e).bind fun x => (rOpt (cl.dc g)).bind fun l => if (dKey x).isSome then .ok (.bl (xor neg (dLook x l).isSome)) else .bad
  | .dgt g k d, e => (rOpt (cl.dc g)).bind fun l => (evX true k e).bind fun x => (evX false d e).bind fun y => if (dKey x).isSome then .ok ((dLook x l).getD y) else .bad
  | .maxd a d, e => (evX true a e).bind fun x => dMaxd d x
  | .isq a, e => (evX true a e).bind dIsq
  | .rpl lit ps a, e => (evX true a e).bind (dRpl lit ps)
  | .dsp ks as, e => (evL false as e).bind fun ds => .ok (.dct (ks.map fun s => [s]) ds)
  | .lrev a, e => (evX true a e).bind fun x => dBi .lrev [x]
  | .rng1 a, e => (evX true a e).bind dRng
  | .bi b as, e => (evL true as e).bind fun ds => dBi b ds
  | .bm m o as, e => (evX true o e).bind fun x => if rcv m x then (evL true as e).bind fun ds => dBm m x ds else .bad
  | .isi a t, e => (evX true a e).bind fun x => dIsi x t
  | .ise i t, e => (match e[i]? with
    | some (.exn c) => .ok (.bl (cl.su c t))
    | _ => .bad)
  | .iseT i ts, e => (match e[i]? with
    | some (.exn c) => .ok (.bl (ts.any fun t => cl.su c t))
    | _ => .bad)
  | .lc own tg tup it c a, e => if !own.all (notOwn e) then .bad else (evI true it e).bind fun ds => (lcRun (fun d => (bindT tg tup d (wipeE own e)).bind fun e1 => (optC c (evX true c e1)).bind fun t => if t then (evX false a e1).bind fun x => .ok (some x) else .ok none) ds).bind fun l => if ds.length < SZ then .ok (.lst l) else .bad
  | _, _ => .bad
noncomputable def evL (w : Bool) : T → Ev → R (List D)
  | .nil, _ => .ok []
  | .cons a r, e => (evX w a e).bind fun x => (evL w r e).bind fun xs => .ok (x :: xs)
  | .itr b, e => (evX false b e).bind starOf
  | _, _ => .bad
noncomputable def evI (w : Bool) : T → Ev → R (List D)
  | .itr a, e => (evX w a e).bind itemsOf
  | .rng1 a, e => (asInt (evX true a e)).bind fun j => if inR j then .ok (rngL 0 1 j.toNat) else .bad
  | .rng2 a b, e => (asInt (evX true a e)).bind fun i => (asInt (evX true b e)).bind fun j => if inR i ∧ inR j then .ok (rngL i 1 (j - i).toNat) else .bad
  | .rng3 a b c, e => (asInt (evX true a e)).bind fun i => (asInt (evX true b e)).bind fun j => (asInt (evX true c e)).bind fun k =>
      if inR i ∧ inR j ∧ k ≠ 0 ∧ k.natAbs < 1073741824 ∧ Builtin.Range.small i j k = true then .ok (rngL i k (Builtin.Range.rangeSize i j k).toNat) else .bad
  | .zip a b, e => (evX w a e).bind fun x => (evX w b e).bind fun y => zipD x y
  | .enum a, e => (evX w a e).bind fun x => (match x with
    | .lst ds => .ok ((ds.zipIdx).map fun p => .tup [.int (p.2 : Nat), p.1])
    | _ => .bad)
  | .rev a, e => (evX w a e).bind fun x => (seqOf x).bind fun ds => .ok ds.reverse
  | _, _ => .bad
end
end
end VE
namespace VE
open PySem PySem.Spec PyProof.Rows L2
section
variable (tb : Tb) (K : PySem.W.Frag)
def RepO (H : Hp) (A : Addr → Prop) (a : Addr) : D → Prop
  | .lst ds => ∃ vs, H a = some (.lst vs) ∧ RepL tb K H A ds vs
  | .obj c fs ds => ∃ dx gs, H a = some (.ins (cAd tb K c) dx gs) ∧ gs.map (·.1) = fs.map (fNm tb) ∧ RepL tb K H A ds (gs.map (·.2))
  | _ => False
def RepC (H : Hp) (A : Addr → Prop) (d : D) (v : V) : Prop := Rep tb K H A d v ∨ ∃ a, v = .ref a ∧ RepO tb K H A a d
def RepF (H0 H : Hp) (A : Addr → Prop) (d : D) (v : V) : Prop := match d with
  | .lst _ => ∃ a, v = .ref a ∧ H0 a = none ∧ RepO tb K H (fun b => A b ∨ b = a) a d
  | .obj _ _ _ => ∃ a, v = .ref a ∧ H0 a = none ∧ RepO tb K H (fun b => A b ∨ b = a) a d
  | _ => Rep tb K H A d v
end
inductive Md where
  | look | share | fresh
def RepM (tb : Tb) (K : PySem.W.Frag) (m : Md) (H0 H : Hp) (A : Addr → Prop) (d : D) (v : V) : Prop := match m with
  | .look => RepC tb K H A d v
  | .share => Rep tb K H A d v
  | .fresh => RepF tb K H0 H A d v
section
variable {tb : Tb} {K : PySem.W.Frag} {H H' H0 : Hp} {A A' : Addr → Prop} {d : D} {ds : List D} {v : V} {a : Addr} {vs : List V}
theorem RepO.evo' (e : Evo A H A' H') (h : RepO tb K H A a d) (k : ∀ o, H a = some o → H' a = some o) : RepO tb K H' A' a d := by
  cases d with
  | lst ds =>
    obtain ⟨vs, h1, h2⟩ := h
    exact ⟨vs, k _ h1, h2.evo e⟩
  | obj c fs ds =>
    obtain ⟨dx, gs, h1, h2, h3⟩ := h
    exact ⟨dx, gs, k _ h1, h2, h3.evo e⟩
  | _ => exact h.elim
theorem RepO.some (h : RepO tb K H A a d) : ∃ o, H a = Option.some o := by
  cases d with
  | lst ds => obtain ⟨vs, h1, _⟩ := h; exact ⟨_, h1⟩
  | obj c fs ds => obtain ⟨dx, gs, h1, _⟩ := h; exact ⟨_, h1⟩
  | _ => exact h.elim
theorem RepO.rep (h : RepO tb K H A a d) (n : ¬ A a) : Rep tb K H A d (.ref a) := by
  cases d with
  | lst ds => obtain ⟨vs, h1, h2⟩ := h; exact ⟨a, vs, rfl, ⟨h1, n⟩, h2⟩
  | obj c fs ds => obtain ⟨dx, gs, h1, h2, h3⟩ := h; exact ⟨a, dx, gs, rfl, ⟨h1, n⟩, h2, h3⟩
  | _ => exact h.elim
theorem RepC.evo (e : Evo A H A' H') (s : Same H H') (h : RepC tb K H A d v) : RepC tb K H' A' d v :=
  h.imp (fun h => Rep.evo e h) fun ⟨a, q, h⟩ => ⟨a, q, h.evo' e fun o => s _ o⟩
theorem RepF.rep (h : RepF tb K H0 H A d v) (ha : ∀ b, A b → H0 b ≠ none) : Rep tb K H A d v := by
  have aux : (∃ a, v = .ref a ∧ H0 a = none ∧ RepO tb K H (fun b => A b ∨ b = a) a d) → Rep tb K H A d v := fun ⟨a, e, n, h⟩ => by
    rw [e]
    have h' : RepO tb K H A a d := RepO.evo' (Evo.less fun b z => .inl z) h fun _ q => q
    exact h'.rep fun z => ha a z n
  cases d with
  | lst ds => exact aux h
  | obj c fs ds => exact aux h
  | _ => exact h
theorem RepC.lst (h : RepC tb K H A (.lst ds) v) : ∃ a vs, v = .ref a ∧ H a = Option.some (.lst vs) ∧ RepL tb K H A ds vs := by
  rcases h with ⟨a, vs, e, ⟨h1, _⟩, h2⟩ | ⟨a, e, vs, h1, h2⟩
  · exact ⟨a, vs, e, h1, h2⟩
  · exact ⟨a, vs, e, h1, h2⟩
theorem RepC.obj {c : Nat} {fs : List Nat} (h : RepC tb K H A (.obj c fs ds) v) : ∃ a dx gs, v = .ref a ∧ H a = Option.some (.ins (cAd tb K c) dx gs) ∧ gs.map (·.1) = fs.map (fNm tb) ∧ RepL tb K H A ds (gs.map (·.2)) := by
  rcases h with ⟨a, dx, gs, e, ⟨h1, _⟩, h2, h3⟩ | ⟨a, e, dx, gs, h1, h2, h3⟩
  · exact ⟨a, dx, gs, e, h1, h2, h3⟩
  · exact ⟨a, dx, gs, e, h1, h2, h3⟩
theorem RepC.tup (h : RepC tb K H A (.tup ds) v) : ∃ a vs, v = .ref a ∧ ((H a = Option.some (.tup vs) ∧ ¬ A a) ∨ KTup K a vs) ∧ RepL tb K H A ds vs := by
  rcases h with h | ⟨a, e, h⟩
  · exact h
  · exact h.elim
theorem RepC.frz (h : RepC tb K H A (.frz ds) v) : ∃ a vs, v = .ref a ∧ ((∃ o, H a = Option.some (.frz o (.lst vs)) ∧ ¬ A a) ∨ KLst K a vs) ∧ RepL tb K H A ds vs := by
  rcases h with h | ⟨a, e, h⟩
  · exact h
  · exact h.elim
theorem RepC.int {i : Int} (h : RepC tb K H A (.int i) v) : v = .int i := h.elim id fun ⟨_, _, h⟩ => h.elim
theorem RepC.bl {b : Bool} (h : RepC tb K H A (.bl b) v) : v = .bl b := h.elim id fun ⟨_, _, h⟩ => h.elim
theorem RepC.str {s : List Nat} (h : RepC tb K H A (.str s) v) : v = .str (dS s) := h.elim id fun ⟨_, _, h⟩ => h.elim
theorem RepC.non (h : RepC tb K H A .non v) : v = .non := h.elim id fun ⟨_, _, h⟩ => h.elim
theorem sqT_of (h : (H a = Option.some (.tup vs) ∧ ¬ A a) ∨ KTup K a vs) : SqT K H a vs := h.elim (fun h => .inl (.inl h.1)) .inr
theorem sqL_of (h : (∃ o, H a = Option.some (.frz o (.lst vs)) ∧ ¬ A a) ∨ KLst K a vs) : SqL K H a vs := h.elim (fun ⟨o, h, _⟩ => .inl (.inr ⟨o, h⟩)) .inr
theorem same_upd {o : HO} (h : H a = none) : Same H (upd H a o) := fun b x e => by
  rw [upd_ne (ne_of_none e h)]
  exact e
theorem Same.refl : Same H H := fun _ _ h => h
theorem new_lst (h : H a = none) (r : RepL tb K H A ds vs) : RepF tb K H (upd H a (.lst vs)) A (.lst ds) (.ref a) :=
  ⟨a, rfl, h, vs, upd_same, r.evo ⟨fun b o q _ => by rw [upd_ne (ne_of_none q h)]; exact q, fun b z => z.imp id fun e => by rw [e]; exact h⟩⟩
theorem new_tup (h : H a = none) (ha : ∀ b, A b → H b ≠ none) (r : RepL tb K H A ds vs) : Rep tb K (upd H a (.tup vs)) A (.tup ds) (.ref a) :=
  ⟨a, vs, rfl, .inl ⟨upd_same, fun z => ha a z h⟩, r.evo (Evo.same (same_upd h))⟩
end
def Own (e : Ev) (σ : L2.St) (a : Addr) : Prop := ∃ (i : Nat) (d : D), e[i]? = some (Sl.val d true) ∧ σ[i]? = some (some (V.ref a))
def AV (Xs : Addr → Prop) (e : Ev) (σ : L2.St) (a : Addr) : Prop := Xs a ∨ Own e σ a
structure Fx where
  tb : Tb
  K : PySem.W.Frag
  cl : Pr
  Xs : Addr → Prop
  EX : Addr → Nat → Prop
  SA : Addr → Prop
  W : WX
structure EnvOk (c : Fx) (H : Hp) (σ : L2.St) (e : Ev) : Prop where
  len : σ.length = e.length
  val : ∀ (i : Nat) (d : D), e[i]? = some (Sl.val d false) → ∃ v, σ[i]? = some (some v) ∧ Rep c.tb c.K H (AV c.Xs e σ) d v
  own : ∀ (i : Nat) (d : D), e[i]? = some (Sl.val d true) → ∃ a, σ[i]? = some (some (V.ref a)) ∧ ¬ c.Xs a ∧ RepO c.tb c.K H (AV c.Xs e σ) a d
  inj : ∀ (i j : Nat) (d d' : D) (a : Addr), e[i]? = some (Sl.val d true) → e[j]? = some (Sl.val d' true) → σ[i]? = some (some (V.ref a)) → σ[j]? = some (some (V.ref a)) → i = j
  xs : ∀ a, c.Xs a → H a ≠ none
  exn : ∀ (i k : Nat), e[i]? = some (Sl.exn k) → ∃ a, σ[i]? = some (some (V.ref a)) ∧ c.EX a k
  slf : ∀ (a : Addr) (d : D), c.SA a → e[0]? = some (Sl.val d true) → σ[0]? = some (some (V.ref a))
section
variable {c : Fx} {H H' : Hp} {σ : L2.St} {e : Ev}
theorem EnvOk.av (h : EnvOk c H σ e) : ∀ a, AV c.Xs e σ a → H a ≠ none := fun a z => by
  rcases z with z | ⟨i, d, h1, h2⟩
  · exact h.xs a z
  · obtain ⟨b, q1, _, q3⟩ := h.own i d h1
    rw [h2] at q1
    cases q1
    obtain ⟨o, q⟩ := q3.some
    rw [q]
    exact fun z => nomatch z
theorem EnvOk.same (h : EnvOk c H σ e) (s : Same H H') : EnvOk c H' σ e :=
  ⟨h.len, fun i d q => let ⟨v, h1, h2⟩ := h.val i d q; ⟨v, h1, h2.evo (Evo.same s)⟩, fun i d q => let ⟨a, h1, h2, h3⟩ := h.own i d q; ⟨a, h1, h2, h3.evo' (Evo.same s) fun o => s _ o⟩, h.inj,
    fun a z => by
      cases q : H a with
      | none => exact absurd q (h.xs a z)
      | some o => rw [s a o q]; exact (by simp), h.exn, h.slf⟩
end
def RepLM (tb : Tb) (K : PySem.W.Frag) (m : Md) (H : Hp) (A : Addr → Prop) (ds : List D) (vs : List V) : Prop := match m with
  | .look => Paired (RepC tb K H A) ds vs
  | _ => RepL tb K H A ds vs
def Post (c : Fx) (m : Md) (σ : L2.St) (H : Hp) (e : Ev) (r : R D) (Q : VK) : Prop := match r with
  | .ok d => ∀ v H', Same H H' → RepM c.tb c.K m H H' (AV c.Xs e σ) d v → Q v H'
  | .exc k => ∀ H', Same H H' → c.W (.ref (cAd c.tb c.K k)) none σ H'
  | .bad => False
def PostT (c : Fx) (σ : L2.St) (H : Hp) (r : R Bool) (Q : Bool → Hp → Prop) : Prop := match r with
  | .ok b => ∀ H', Same H H' → Q b H'
  | .exc k => ∀ H', Same H H' → c.W (.ref (cAd c.tb c.K k)) none σ H'
  | .bad => False
def PostL (c : Fx) (m : Md) (σ : L2.St) (H : Hp) (e : Ev) (r : R (List D)) (Q : List V → Hp → Prop) : Prop := match r with
  | .ok ds => ∀ vs H', Same H H' → RepLM c.tb c.K m H' (AV c.Xs e σ) ds vs → Q vs H'
  | .exc k => ∀ H', Same H H' → c.W (.ref (cAd c.tb c.K k)) none σ H'
  | .bad => False
def lk : Md → Bool
  | .look => true
  | _ => false
def tX (c : Fx) (m : Md) (t : T) : TE := fun σ H Q => ∃ e, EnvOk c H σ e ∧ Post c m σ H e (evX c.cl (lk m) t e) Q
def tXT (c : Fx) (t : T) : TT := fun σ H Q => ∃ e, EnvOk c H σ e ∧ PostT c σ H (tst (evX c.cl true t e)) Q
def tXL (c : Fx) (m : Md) (t : T) : TA := fun σ H Q => ∃ e, EnvOk c H σ e ∧ PostL c m σ H e (evL c.cl (lk m) t e) Q
section
variable {X : Cx} {e : Expr}
theorem pe_weak {t t' : TE} (h : PE X e t) (w : ∀ σ H Q, t' σ H Q → t σ H Q) : PE X e t' := ⟨fun pins s σ H Q I q => h.run pins s σ H Q I (w σ H Q q)⟩
theorem pt_weak {t t' : TT} (h : PT X e t) (w : ∀ σ H Q, t' σ H Q → t σ H Q) : PT X e t' := ⟨fun pins s σ H Q I q => h.run pins s σ H Q I (w σ H Q q)⟩
theorem pw_weak {t t' : TT} (h : PW X e t) (w : ∀ σ H Q, t' σ H Q → t σ H Q) : PW X e t' := ⟨fun wh pins s σ H Q I q => h.run wh pins s σ H Q I (w σ H Q q)⟩
theorem pa_weak {es : List Expr} {t t' : TA} (h : PA X es t) (w : ∀ σ H Q, t' σ H Q → t σ H Q) : PA X es t' := ⟨fun pos pins s σ H Q I q => h.run pos pins s σ H Q I (w σ H Q q)⟩
theorem ps_weak {st : Stmt} {t t' : TS} (h : PS X st t) (w : ∀ D σ H, t' D σ H → t D σ H) : PS X st t' := ⟨fun pins s σ H D I q => h.run pins s σ H D I (w D σ H q)⟩
theorem pss_weak {st : List Stmt} {t t' : TS} (h : PSs X st t) (w : ∀ D σ H, t' D σ H → t D σ H) : PSs X st t' := ⟨fun pins s σ H D I q => h.run pins s σ H D I (w D σ H q)⟩
theorem pi_weak {tg : Expr} {t t' : TI} (h : PI X tg e t) (w : ∀ σ H R, t' σ H R → t σ H R) : PI X tg e t' := ⟨fun pins s σ H R I q => h.run pins s σ H R I (w σ H R q)⟩
theorem pe_any {ι : Type} {t : ι → TE} (h : ∀ i, PE X e (t i)) : PE X e (fun σ H Q => ∃ i, t i σ H Q) := ⟨fun pins s σ H Q I ⟨i, q⟩ => (h i).run pins s σ H Q I q⟩
theorem pi_any {ι : Type} {tg : Expr} {t : ι → TI} (h : ∀ i, PI X tg e (t i)) : PI X tg e (fun σ H R => ∃ i, t i σ H R) := ⟨fun pins s σ H R I ⟨i, q⟩ => (h i).run pins s σ H R I q⟩
theorem pi_or {tg : Expr} {t u : TI} (h : PI X tg e t) (k : PI X tg e u) : PI X tg e (fun σ H R => t σ H R ∨ u σ H R) := ⟨fun pins s σ H R I q => q.elim (h.run pins s σ H R I) (k.run pins s σ H R I)⟩
end
def isV : T → Bool
  | .v _ => true
  | _ => false
theorem evX_nv {cl : Pr} {t : T} {e : Ev} (h : isV t = false) (w w' : Bool) : evX cl w t e = evX cl w' t e := by
  cases t <;> first | rfl | (cases h) | skip
structure PEm (X : Cx) (c : Fx) (ex : Expr) (t : T) (f : Bool) : Prop where
  look : PE X ex (tX c .look t)
  share : PE X ex (tX c .share t)
  fresh : f = true → PE X ex (tX c .fresh t)
section
variable {X : Cx} {c : Fx} {ex : Expr} {t : T}
theorem PEm.ofShare (nv : isV t = false) (h : PE X ex (tX c .share t)) : PEm X c ex t false := by
  refine ⟨pe_weak h fun σ H Q ⟨e, he, q⟩ => ⟨e, he, ?_⟩, h, fun z => by cases z⟩
  rw [show evX c.cl (lk .look) t e = evX c.cl (lk .share) t e from evX_nv nv _ _] at q
  revert q
  cases evX c.cl (lk .share) t e with
  | ok d => exact fun q v H' s r => q v H' s (.inl r)
  | exc k => exact id
  | bad => exact id
theorem PEm.ofFresh (nv : isV t = false) (h : PE X ex (tX c .fresh t)) : PEm X c ex t true := by
  have h2 : PE X ex (tX c .share t) := by
    refine pe_weak h fun σ H Q ⟨e, he, q⟩ => ⟨e, he, ?_⟩
    rw [show evX c.cl (lk .share) t e = evX c.cl (lk .fresh) t e from rfl] at q
    revert q
    cases evX c.cl (lk .fresh) t e with
    | ok d => exact fun q v H' s r => q v H' s (r.rep he.av)
    | exc k => exact id
    | bad => exact id
  exact ⟨(PEm.ofShare nv h2).look, h2, fun _ => h⟩
end
end VE
namespace VE
open PySem PySem.Spec PyProof.Rows L2
section
variable {tb : Tb} {K : PySem.W.Frag}
mutual
theorem dp_of {H : Hp} {A : Addr → Prop} : ∀ {d : D} {v : V} {n : Nat}, Rep tb K H A d v → dOk d n = true → Dp K H v (py d) ∧ PyData.canLay0 (py d) = true ∧ PyData.depth (py d) ≤ n
  | .non, _, n, h, _ => by cases (show _ = _ from h); exact ⟨.non, rfl, Nat.zero_le _⟩
  | .bl b, _, n, h, _ => by cases (show _ = _ from h); exact ⟨.bl b, rfl, Nat.zero_le _⟩
  | .int i, _, n, h, _ => by cases (show _ = _ from h); exact ⟨.int i, rfl, Nat.zero_le _⟩
  | .str s, _, n, h, o => by cases (show _ = _ from h); exact ⟨.str _, o, Nat.zero_le _⟩
  | .tup ds, _, 0, _, o => by cases o
  | .tup ds, _, n + 1, ⟨a, vs, e, h, r⟩, o => by
    obtain ⟨q1, q2, q3⟩ := dpL_of r (show dOkL ds n = true from o)
    subst e
    exact ⟨.tup (sqT_of h) q1, q2, Nat.succ_le_succ q3⟩
  | .lst ds, _, 0, _, o => by cases o
  | .lst ds, _, n + 1, ⟨a, vs, e, ⟨h, _⟩, r⟩, o => by
    obtain ⟨q1, q2, q3⟩ := dpL_of r (show dOkL ds n = true from o)
    subst e
    exact ⟨.lst (SqL.of h) q1, q2, Nat.succ_le_succ q3⟩
  | .frz ds, _, 0, _, o => by cases o
  | .frz ds, _, n + 1, ⟨a, vs, e, h, r⟩, o => by
    obtain ⟨q1, q2, q3⟩ := dpL_of r (show dOkL ds n = true from o)
    subst e
    exact ⟨.lst (sqL_of h) q1, q2, Nat.succ_le_succ q3⟩
  | .obj _ _ _, _, _, _, o => by cases o
theorem dpL_of {H : Hp} {A : Addr → Prop} : ∀ {ds : List D} {vs : List V} {n : Nat}, RepL tb K H A ds vs → dOkL ds n = true → DpAll K H vs (pyL ds) ∧ PyData.canLayAll0 (pyL ds) = true ∧ PyData.depthAll (pyL ds) ≤ n
  | [], _, n, h, _ => by cases (show _ = _ from h); exact ⟨.nil, rfl, Nat.zero_le _⟩
  | d :: r, _, n, ⟨v, vs, e, h1, h2⟩, o => by
    obtain ⟨o1, o2⟩ := Bool.and_eq_true_iff.mp (show (dOk d n && dOkL r n) = true from o)
    obtain ⟨p1, p2, p3⟩ := dp_of h1 o1
    obtain ⟨q1, q2, q3⟩ := dpL_of h2 o2
    subst e
    exact ⟨.cons p1 q1, by show (PyData.canLay0 (py d) && PyData.canLayAll0 (pyL r)) = true; rw [p2, q2]; rfl, Nat.max_le.mpr ⟨p3, q3⟩⟩
end
theorem dpC_of {H : Hp} {A : Addr → Prop} {d : D} {v : V} {n : Nat} (h : RepC tb K H A d v) (o : dOk d n = true) (hn : n ≤ 64) : Dp K H v (py d) ∧ SeqAt.shaped (py d) = true := by
  have fin : Dp K H v (py d) ∧ PyData.canLay0 (py d) = true ∧ PyData.depth (py d) ≤ n → Dp K H v (py d) ∧ SeqAt.shaped (py d) = true := fun ⟨q1, q2, q3⟩ =>
    ⟨q1, by show (PyData.canLay0 (py d) && decide (PyData.depth (py d) ≤ 64)) = true; rw [q2, decide_eq_true (Nat.le_trans q3 hn)]; rfl⟩
  rcases h with h | ⟨a, e, h⟩
  · exact fin (dp_of h o)
  · cases d with
    | lst ds =>
      obtain ⟨vs, h1, h2⟩ := h
      cases n with
      | zero => cases o
      | succ n =>
        obtain ⟨q1, q2, q3⟩ := dpL_of h2 (show dOkL ds n = true from o)
        subst e
        exact fin ⟨.lst (SqL.of h1) q1, q2, Nat.succ_le_succ q3⟩
    | obj c fs ds => cases o
    | _ => exact h.elim
theorem pyL_any (ds : List D) (a : D) : (pyL ds).any (fun z => PyData.eqv z (py a)) = ds.any fun z => dEqv z a := by
  induction ds with
  | nil => rfl
  | cons d r ih => show (PyData.eqv (py d) (py a) || (pyL r).any _) = (dEqv d a || r.any _); rw [ih]; rfl
end
def PostM (m : Md) (tb : Tb) (K : PySem.W.Frag) (A : Addr → Prop) (H : Hp) (r : R D) (Q : VK) : Prop := match r with
  | .ok d => ∀ v H', Same H H' → RepM tb K m H H' A d v → Q v H'
  | _ => False
abbrev PostV := PostM .fresh
def rD2 (m : Md) (tb : Tb) (K : PySem.W.Frag) (f : D → D → R D) : R2 := fun x y H Q => ∃ A d1 d2, (∀ a, A a → H a ≠ none) ∧ RepC tb K H A d1 x ∧ RepC tb K H A d2 y ∧ PostM m tb K A H (f d1 d2) Q
def rD1 (m : Md) (tb : Tb) (K : PySem.W.Frag) (f : D → R D) : V → Hp → VK → Prop := fun x H Q => ∃ A d1, (∀ a, A a → H a ≠ none) ∧ RepC tb K H A d1 x ∧ PostM m tb K A H (f d1) Q
def rDL (m : Md) (tb : Tb) (K : PySem.W.Frag) (f : List D → R D) : List V → Hp → VK → Prop := fun xs H Q => ∃ A ds, (∀ a, A a → H a ≠ none) ∧ Paired (RepC tb K H A) ds xs ∧ PostM m tb K A H (f ds) Q
theorem bits_le (i : Int) : Builtin.Int.intBits i ≤ i.natAbs.log2 + 1 := by
  unfold Builtin.Int.intBits
  split <;> omega
theorem sz_eq : SZ = sizeLine := by rw [sizeLine_eq]; rfl
section
variable {tb : Tb} {X : Cx}
theorem pv_int {A : Addr → Prop} {H : Hp} {i : Int} {Q : VK} (q : PostV tb X.K A H (.ok (.int i)) Q) : Q (.int i) H := q _ H Same.refl rfl
theorem pv_bl {A : Addr → Prop} {H : Hp} {i : Bool} {Q : VK} (q : PostV tb X.K A H (.ok (.bl i)) Q) : Q (.bl i) H := q _ H Same.refl rfl
theorem pv_str {A : Addr → Prop} {H : Hp} {i : List Nat} {Q : VK} (q : PostV tb X.K A H (.ok (.str i)) Q) : Q (.str (dS i)) H := q _ H Same.refl rfl
theorem pv_lst {A : Addr → Prop} {H : Hp} {ds : List D} {vs : List V} {Q : VK} (q : PostV tb X.K A H (.ok (.lst ds)) Q) (r : RepL tb X.K H A ds vs) : ∀ p, H p = none → Q (.ref p) (upd H p (.lst vs)) :=
  fun _ np => q _ _ (same_upd np) (new_lst np r)
theorem pv_tup {A : Addr → Prop} {H : Hp} {ds : List D} {vs : List V} {Q : VK} (q : PostV tb X.K A H (.ok (.tup ds)) Q) (ha : ∀ b, A b → H b ≠ none) (r : RepL tb X.K H A ds vs) : ∀ p, H p = none → Q (.ref p) (upd H p (.tup vs)) :=
  fun _ np => q _ _ (same_upd np) (new_tup np ha r)
theorem repL_flat {K : PySem.W.Frag} {H : Hp} {A : Addr → Prop} {ds : List D} {vs : List V} (r : RepL tb K H A ds vs) : ∀ n, RepL tb K H A (List.replicate n ds).flatten (List.replicate n vs).flatten
  | 0 => .nil
  | n + 1 => by
    rw [List.replicate_succ, List.replicate_succ, List.flatten_cons, List.flatten_cons]
    exact RepL.append (repL_flat r n) r
theorem ite_ok {p : Prop} [Decidable p] {a : R D} {A : Addr → Prop} {H : Hp} {Q : VK} (q : PostV tb X.K A H (if p then a else .bad) Q) : p ∧ PostV tb X.K A H a Q := by
  by_cases h : p
  · rw [if_pos h] at q; exact ⟨h, q⟩
  · rw [if_neg h] at q; exact q.elim
theorem ite_bad {p : Prop} [Decidable p] {a : R D} {A : Addr → Prop} {H : Hp} {Q : VK} (q : PostV tb X.K A H (if p then .bad else a) Q) : ¬ p ∧ PostV tb X.K A H a Q := by
  by_cases h : p
  · rw [if_pos h] at q; exact q.elim
  · rw [if_neg h] at q; exact ⟨h, q⟩
theorem fold_app (a : List Nat) : ∀ (n : Nat) (acc : Array Nat), (List.replicate n a.toArray).foldl (· ++ ·) acc = acc ++ (List.replicate n a).flatten.toArray
  | 0, acc => by simp
  | n + 1, acc => by
    rw [List.replicate_succ, List.replicate_succ, List.foldl_cons, fold_app a n, List.flatten_cons]
    apply Array.toList_inj.mp
    simp
theorem rep_cps (a : List Nat) (n : Nat) : (⟨(List.replicate n (dS a).cps).foldl (· ++ ·) #[]⟩ : Str) = dS (List.replicate n a).flatten := by
  show (⟨(List.replicate n a.toArray).foldl (· ++ ·) #[]⟩ : Str) = ⟨(List.replicate n a).flatten.toArray⟩
  rw [fold_app]
  simp
def Plr (X : Cx) : Prop := ∀ (pins : List (Addr × Obj)) (s : Shared) (σ : L2.St) (H : Hp), Inv X pins σ H s → PySem.PylongRoom (model X.prog X.w) X.A s
theorem op_bin (pl : Plr X) (op : Operator) : OpR X (binaryOp op) (rD2 .fresh tb X.K (dBin op)) := by
  intro pins s σ H x y v u Q I rx ry h
  obtain ⟨A, d1, d2, ha, c1, c2, q⟩ := h
  have ii : ∀ {i j : Int} {k : Int} {C : Int → Int → Prop} {g : Int → Int → Int} {r : R2}, RepC tb X.K H A (.int i) x → RepC tb X.K H A (.int j) y → OpR X (binaryOp op) (rI C fun i j => .int (g i j)) → C i j → PostV tb X.K A H (.ok (.int (g i j))) Q →
      wpAny (model X.prog X.w) X.A (binaryOp op v u) (EP X pins σ Q) X.xe s := fun {i j k C g r} a1 a2 o hc p => o pins s σ H x y v u Q I rx ry ⟨i, j, a1.int, a2.int, hc, pv_int p⟩
  have i0 : ∀ {i j : Int} {k : Int} {g : Int → Int → Int}, RepC tb X.K H A (.int i) x → RepC tb X.K H A (.int j) y → OpR X (binaryOp op) (rI0 fun i j => .int (g i j)) → PostV tb X.K A H (.ok (.int (g i j))) Q →
      wpAny (model X.prog X.w) X.A (binaryOp op v u) (EP X pins σ Q) X.xe s := fun {i j k g} a1 a2 o p => o pins s σ H x y v u Q I rx ry ⟨i, j, a1.int, a2.int, pv_int p⟩
  cases op with
  | Add =>
    cases d1 with
    | int i => cases d2 with
      | int j => exact i0 (k := 0) c1 c2 op_add q
      | _ => exact q.elim
    | str a => cases d2 with
      | str b =>
        obtain ⟨hl, q⟩ := ite_ok q
        refine op_add_str pins s σ H x y v u Q I rx ry ⟨dS a, dS b, c1.str, c2.str, ?_, ?_⟩
        · rw [← sz_eq]; exact hl
        · have e : dS a ++ dS b = dS (a ++ b) := by show (⟨a.toArray ++ b.toArray⟩ : Str) = ⟨(a ++ b).toArray⟩; rw [List.append_toArray]
          rw [e]; exact pv_str q
      | _ => exact q.elim
    | lst a => cases d2 with
      | lst b =>
        obtain ⟨hl, q⟩ := ite_ok q
        obtain ⟨p1, vs1, e1, h1, r1⟩ := c1.lst
        obtain ⟨p2, vs2, e2, h2, r2⟩ := c2.lst
        exact op_cat pins s σ H x y v u Q I rx ry ⟨p1, p2, vs1, vs2, e1, e2, h1, h2, by rw [r1.length, r2.length, ← sz_eq]; exact hl, pv_lst q (r2.append r1)⟩
      | _ => exact q.elim
    | tup a => cases d2 with
      | tup b =>
        obtain ⟨hl, q⟩ := ite_ok q
        obtain ⟨p1, vs1, e1, h1, r1⟩ := c1.tup
        obtain ⟨p2, vs2, e2, h2, r2⟩ := c2.tup
        refine op_catA pins s σ H x y v u Q I rx ry ⟨p1, p2, vs1, vs2, e1, e2, sqT_of h1, sqT_of h2, by rw [r1.length, r2.length, ← sz_eq]; exact hl, fun z => ?_, fun _ z => ?_, fun _ _ => pv_tup q ha (r2.append r1)⟩
        · have z2 : a = [] := by have := r1.length; rw [z] at this; exact List.eq_nil_of_length_eq_zero this.symm
          subst z2
          exact q _ H Same.refl ⟨p2, vs2, rfl, h2, r2⟩
        · have z2 : b = [] := by have := r2.length; rw [z] at this; exact List.eq_nil_of_length_eq_zero this.symm
          subst z2
          rw [List.append_nil] at q
          exact q _ H Same.refl ⟨p1, vs1, rfl, h1, r1⟩
      | _ => exact q.elim
    | _ => exact q.elim
  | Sub => cases d1 with
    | int i => cases d2 with
      | int j => exact i0 (k := 0) c1 c2 op_sub q
      | _ => exact q.elim
    | _ => exact q.elim
  | Mult => cases d1 with
    | str a => cases d2 with
      | int k =>
        obtain ⟨hl, q⟩ := ite_ok q
        obtain ⟨t, rfl⟩ := (show ∃ t, v = Value.str (dS a) t by rw [c1.str] at rx; exact rx)
        obtain ⟨t', rfl⟩ := (show ∃ t, u = Value.int k t by rw [c2.int] at ry; exact ry)
        have hla : (dS a).length = a.length := rfl
        have c0 : (decide (k < -(2 ^ 63 : Int)) || decide (k ≥ 2 ^ 63)) = false := by
          rw [decide_eq_false (by omega), decide_eq_false (by omega)] <;> rfl
        have lim : a.length * k.toNat ≤ 1000 * 1000 := Nat.mul_le_mul hl.2.1 (by omega)
        have ef : (⟨(List.replicate k.toNat (dS a).cps).foldl (· ++ ·) #[]⟩ : Str) = dS (List.replicate k.toNat a).flatten := rep_cps a k.toNat
        refine P.mul_str c0 (fun h1 _ => ?_) (fun h1 _ => ?_) ?_
        · have h3 : (1000 : Int) ≤ (2 ^ 63 - 1) / k := by
            rw [Int.le_ediv_iff_mul_le (by omega)]
            omega
          rw [hla]
          omega
        · rw [hla]
          exact decide_eq_false (by rw [sizeLine_eq]; omega)
        · rw [if_neg (by omega)]
          split
          · rename_i h1
            have k1 : k = 1 := by
              rcases Bool.or_eq_true_iff.mp h1 with h2 | h2
              · exact eq_of_beq h2
              · rw [hla] at h2
                have := eq_of_beq h2
                omega
            subst k1
            have e : (List.replicate (1 : Int).toNat a).flatten = a := by simp
            rw [e] at q
            exact ⟨.str (dS a), H, I, ⟨_, rfl⟩, pv_str q⟩
          · rw [ef]
            refine ⟨?_, ⟨.str (dS (List.replicate k.toNat a).flatten), H, I.tok _, ⟨_, rfl⟩, pv_str q⟩⟩
            show (List.replicate k.toNat a).flatten.toArray.size ≤ sizeLine
            rw [sizeLine_eq, List.size_toArray, List.length_flatten, List.map_replicate, List.sum_replicate_nat, Nat.mul_comm]
            omega
      | _ => exact q.elim
    | int i => cases d2 with
      | int j =>
        obtain ⟨hl, q⟩ := ite_ok q
        refine ii (k := 0) (r := fun _ _ _ _ => True) c1 c2 op_mulX ?_ q
        have h1 := bits_le i
        have h2 := bits_le j
        have h3 : i.natAbs.log2 + j.natAbs.log2 < 134000000 := hl
        show ((Builtin.Int.intBits i : Nat) : Int) + ((Builtin.Int.intBits j : Nat) : Int) ≤ 134217728
        omega
      | _ => exact q.elim
    | lst a => cases d2 with
      | int k =>
        obtain ⟨hl, q⟩ := ite_ok q
        obtain ⟨p1, vs1, e1, h1, r1⟩ := c1.lst
        exact op_rep pins s σ H x y v u Q I rx ry ⟨p1, k, vs1, e1, c2.int, h1, hl.1, hl.2.1, by rw [r1.length, ← sz_eq]; exact hl.2.2, pv_lst q (repL_flat r1 _)⟩
      | _ => exact q.elim
    | tup a => cases d2 with
      | int k =>
        obtain ⟨hl, q⟩ := ite_ok q
        obtain ⟨p1, vs1, e1, h1, r1⟩ := c1.tup
        have l1 := r1.length
        refine op_repA pins s σ H x y v u Q I rx ry ⟨p1, k, vs1, e1, c2.int, sqT_of h1, fun z => ?_, hl.2.2.1, hl.2.2.2, by have := hl.2.1; omega, fun z => ?_, fun _ => pv_tup q ha (repL_flat r1 _)⟩
        · rw [z] at l1
          have := hl.1
          simp at l1
          omega
        · subst z
          have e : (List.replicate (1 : Int).toNat a).flatten = a := by simp
          rw [e] at q
          exact q _ H Same.refl ⟨p1, vs1, rfl, h1, r1⟩
      | _ => exact q.elim
    | _ => exact q.elim
  | FloorDiv => cases d1 with
    | int i => cases d2 with
      | int j =>
        obtain ⟨hl, q⟩ := ite_bad q
        obtain ⟨t, rfl⟩ := (show ∃ t, v = Value.int i t by rw [c1.int] at rx; exact rx)
        obtain ⟨t', rfl⟩ := (show ∃ t, u = Value.int j t by rw [c2.int] at ry; exact ry)
        exact floordiv_int hl ⟨.int (i.fdiv j), H, I.tok _, ⟨_, rfl⟩, pv_int q⟩ (.inr (pl pins s σ H I))
      | _ => exact q.elim
    | _ => exact q.elim
  | Mod => cases d1 with
    | int i => cases d2 with
      | int j =>
        obtain ⟨hl, q⟩ := ite_bad q
        exact ii (k := 0) (r := fun _ _ _ _ => True) c1 c2 op_modN hl q
      | _ => exact q.elim
    | _ => exact q.elim
  | Pow => cases d1 with
    | int i => cases d2 with
      | int j =>
        obtain ⟨hl, q⟩ := ite_ok q
        exact ii (k := 0) (r := fun _ _ _ _ => True) c1 c2 op_pow hl q
      | _ => exact q.elim
    | _ => exact q.elim
  | LShift => cases d1 with
    | int i => cases d2 with
      | int j =>
        obtain ⟨hl, q⟩ := ite_ok q
        refine ii (k := 0) (r := fun _ _ _ _ => True) c1 c2 op_shlW ?_ q
        have h1 := bits_le i
        have h3 : (i.natAbs.log2 : Int) + j < 134000000 := hl.2
        refine ⟨hl.1, ?_⟩
        show ((Builtin.Int.intBits i : Nat) : Int) + j ≤ 134217728
        omega
      | _ => exact q.elim
    | _ => exact q.elim
  | RShift => cases d1 with
    | int i => cases d2 with
      | int j =>
        obtain ⟨hl, q⟩ := ite_ok q
        exact ii (k := 0) (r := fun _ _ _ _ => True) c1 c2 op_shr hl q
      | _ => exact q.elim
    | _ => exact q.elim
  | BitAnd => cases d1 with
    | int i => cases d2 with
      | int j => exact i0 (k := 0) c1 c2 op_and q
      | _ => exact q.elim
    | _ => exact q.elim
  | BitOr => cases d1 with
    | int i => cases d2 with
      | int j => exact i0 (k := 0) c1 c2 op_or q
      | _ => exact q.elim
    | _ => exact q.elim
  | BitXor => cases d1 with
    | int i => cases d2 with
      | int j => exact i0 (k := 0) c1 c2 op_xor q
      | _ => exact q.elim
    | _ => exact q.elim
  | MatMult => exact q.elim
  | Div => exact q.elim
end
end VE
namespace VE
open PySem PySem.Spec PyProof.Rows L2
def KeyHs (P : Params) : List (List Nat) → Int
  | [s] => PyData.keyHash P ⟨s.toArray⟩
  | ks => reduceHash (Builtin.Tuple.tupleHashOf (ks.map fun s => PyData.keyHash P ⟨s.toArray⟩))
def DicOk (w : World) (K : PySem.W.Frag) (a : Addr) : Prop := (a == sysModules) = false ∧ ∀ es n, K.lookup a = some ⟨.type "dict", none, .dict es n, #[]⟩ → ∀ e ∈ es.toList, ∃ k, KeyT K k e.key ∧ e.hash = KeyHs w.params k
def Dcs (tb : Tb) (X : Cx) : Prop := ∀ x ∈ tb.tab, DicOk X.w X.K (He.ga X.K x)
theorem toA_inj {s t : List Nat} (h : s.toArray = t.toArray) : s = t := by
  have := congrArg Array.toList h
  simpa using this
theorem strN_inj {s t : List Nat} (h : (⟨s.toArray⟩ : Str) = ⟨t.toArray⟩) : s = t := toA_inj (by injection h)
section
variable {K : PySem.W.Frag}
theorem KeyT.one {s : List Nat} {u : Value} (h : KeyT K [s] u) : ∃ t, u = .str ⟨s.toArray⟩ t := h
theorem KeyT.two {s z : List Nat} {u : Value} (h : KeyT K [s, z] u) : ∃ b o it n t1 t2, u = .ref b ∧ K.lookup b = some o ∧ o.cls = .type "tuple" ∧ o.data = .seq it n ∧ it.toList = [.str ⟨s.toArray⟩ t1, .str ⟨z.toArray⟩ t2] := h
theorem KeyT.len {k : List (List Nat)} {u : Value} (h : KeyT K k u) : (∃ s, k = [s]) ∨ ∃ s z, k = [s, z] := by
  rcases k with _ | ⟨s, _ | ⟨z, _ | ⟨y, r⟩⟩⟩
  · exact h.elim
  · exact .inl ⟨s, rfl⟩
  · exact .inr ⟨s, z, rfl⟩
  · exact h.elim
theorem KeyT.inj {k k' : List (List Nat)} {u : Value} (h : KeyT K k u) (h' : KeyT K k' u) : k = k' := by
  rcases h.len with ⟨s, rfl⟩ | ⟨s, z, rfl⟩ <;> rcases h'.len with ⟨s', rfl⟩ | ⟨s', z', rfl⟩
  · obtain ⟨t, e⟩ := h.one
    obtain ⟨t', e'⟩ := h'.one
    rw [e] at e'
    injection e' with e1 _
    rw [strN_inj e1]
  · obtain ⟨t, e⟩ := h.one
    obtain ⟨b, o, it, n, t1, t2, e', _⟩ := h'.two
    rw [e] at e'; cases e'
  · obtain ⟨t, e⟩ := h'.one
    obtain ⟨b, o, it, n, t1, t2, e', _⟩ := h.two
    rw [e] at e'; cases e'
  · obtain ⟨b, o, it, n, t1, t2, e, l, c, d, q⟩ := h.two
    obtain ⟨b', o', it', n', t1', t2', e', l', c', d', q'⟩ := h'.two
    rw [e] at e'
    cases e'
    rw [l] at l'
    cases l'
    rw [d] at d'
    injection d' with d1 _
    subst d1
    rw [q] at q'
    injection q' with q1 q2
    injection q2 with q3 _
    injection q1 with r1 _
    injection q3 with r2 _
    rw [strN_inj r1, strN_inj r2]
theorem DcE.len : ∀ {ks : List (List (List Nat))} {es : List DictEntry} {vs : List V}, DcE K ks es vs → vs.length = ks.length
  | [], _, _, ⟨_, e⟩ => by rw [e]; rfl
  | _ :: _, _, _, ⟨e, er, v, vr, _, ev, _, _, r⟩ => by rw [ev]; simp [DcE.len r]
theorem dctGet_some {α : Type} {k : List (List Nat)} : ∀ {ks : List (List (List Nat))} {vs : List α}, vs.length = ks.length → (dctGet k ks vs).isSome = decide (k ∈ ks)
  | [], vs, h => by simp [dctGet]
  | z :: zs, [], h => by cases h
  | z :: zs, v :: vs, h => by
    show (if z = k then some v else dctGet k zs vs).isSome = _
    by_cases e : z = k
    · rw [if_pos e]
      subst e
      simp
    · rw [if_neg e, dctGet_some (by simpa using h)]
      have : (k = z) = False := by simp; exact fun q => e q.symm
      simp [this]
theorem RepL.dget {tb : Tb} {H : Hp} {A : Addr → Prop} {k : List (List Nat)} : ∀ {ks : List (List (List Nat))} {ds : List D} {vs : List V} {d : D}, RepL tb K H A ds vs → dctGet k ks ds = some d → ∃ v, dctGet k ks vs = some v ∧ Rep tb K H A d v
  | [], ds, vs, d, _, e => by cases ds <;> cases e
  | z :: zs, [], vs, d, _, e => by cases e
  | z :: zs, d0 :: ds, vs, d, ⟨v, r, ev, h1, h2⟩, e => by
    subst ev
    have e' : (if z = k then some d0 else dctGet k zs ds) = some d := e
    show ∃ v', (if z = k then some v else dctGet k zs r) = some v' ∧ _
    by_cases q : z = k
    · rw [if_pos q] at e' ⊢
      cases e'
      exact ⟨v, rfl, h1⟩
    · rw [if_neg q] at e' ⊢
      exact RepL.dget h2 e'
theorem find1 {s : List Nat} : ∀ {ks : List (List (List Nat))} {es : List DictEntry} {vs : List V}, DcE K ks es vs → (∀ k ∈ ks, k.length = 1) → RelO (dctGet [s] ks vs) ((es.find? fun e => Value.isStrOf ⟨s.toArray⟩ e.key).map (·.val))
  | [], _, _, ⟨e1, e2⟩, _ => by subst e1 e2; exact True.intro
  | k :: ks, _, _, ⟨e, er, v, vr, e1, e2, hk, hv, r⟩, h => by
    subst e1 e2
    match k, h k (by simp), hk with
    | [z], _, ⟨t, ek⟩ =>
      show RelO (if [z] = [s] then some v else dctGet [s] ks vr) _
      rw [List.find?_cons, ek]
      by_cases q : z = s
      · subst q
        rw [if_pos rfl]
        have : Value.isStrOf ⟨z.toArray⟩ (.str ⟨z.toArray⟩ t) = true := by simp [Value.isStrOf]
        rw [this]
        exact hv
      · have n : ¬ [z] = [s] := fun x => q (by injection x)
        rw [if_neg n]
        have : Value.isStrOf ⟨s.toArray⟩ (.str ⟨z.toArray⟩ t) = false := by
          show ((⟨z.toArray⟩ : Str) == ⟨s.toArray⟩) = false
          exact beq_eq_false_iff_ne.mpr fun x => q (strN_inj x)
        rw [this]
        exact find1 r fun k hk => h k (by simp [hk])
theorem lit_of {P : Params} : ∀ {ks : List (List (List Nat))} {es : List DictEntry} {vs : List V}, DcE K ks es vs → (∀ k ∈ ks, k.length = 1) → (∀ e ∈ es, ∃ k, KeyT K k e.key ∧ e.hash = KeyHs P k) → PySem.W.KeysLit P es
  | [], _, _, ⟨e1, e2⟩, _, _ => by subst e1; exact trivial
  | k :: ks, _, _, ⟨e, er, v, vr, e1, e2, hk, hv, r⟩, h, g => by
    subst e1 e2
    obtain ⟨k', g1, g2⟩ := g e (by simp)
    have := KeyT.inj hk g1
    subst this
    match k, h k (by simp), hk, g2 with
    | [z], _, ⟨t, ek⟩, g2 => exact ⟨⟨_, t, ek, g2⟩, lit_of r (fun k hk => h k (by simp [hk])) fun e he => g e (by simp [he])⟩
def kL (k : List (List Nat)) : List L2.Key := k.map fun s => .inr ⟨s.toArray⟩
theorem kL_inj : ∀ {k k' : List (List Nat)}, kL k = kL k' → k = k'
  | [], [], _ => rfl
  | [], _ :: _, h => by cases h
  | _ :: _, [], h => by cases h
  | s :: k, s' :: k', h => by
    have h' : (Sum.inr ⟨s.toArray⟩ : L2.Key) :: kL k = .inr ⟨s'.toArray⟩ :: kL k' := h
    injection h' with h1 h2
    injection h1 with h3
    rw [strN_inj h3, kL_inj h2]
theorem pairs_of {prog : Program} {w : World} {h : Heap} (X : K.In h) : ∀ {ks : List (List (List Nat))} {es : List DictEntry} {vs : List V}, DcE K ks es vs → (∀ k ∈ ks, k.length = 2) → (∀ e ∈ es, ∃ k, KeyT K k e.key ∧ e.hash = KeyHs w.params k) →
    ∃ xs : List (List L2.Key × Addr × Value), es = xs.map (entryOfKey (tupleKind (mixKind prog w))) ∧ (∀ x ∈ xs, (tupleKind (mixKind prog w)).is h x.1 x.2.1) ∧ xs.map (·.1) = ks.map kL ∧ ∀ k, RelO (dctGet k ks vs) ((atKey xs (kL k)).map (·.2))
  | [], _, _, ⟨e1, e2⟩, _, _ => by
    subst e1 e2
    refine ⟨[], rfl, ?_, rfl, fun k => True.intro⟩
    intro x hx
    cases hx
  | k :: ks, _, _, ⟨e, er, v, vr, e1, e2, hk, hv, r⟩, hl, g => by
    subst e1 e2
    obtain ⟨k', g1, g2⟩ := g e (by simp)
    have := KeyT.inj hk g1
    subst this
    obtain ⟨xs, q1, q2, q3, q4⟩ := pairs_of (prog := prog) X r (fun k hk => hl k (by simp [hk])) fun e he => g e (by simp [he])
    match k, hl k (by simp), hk, g2 with
    | [s, z], _, ⟨b, o, it, n, t1, t2, ek, lo, oc, od, oi⟩, g2 =>
      obtain ⟨eh, ekey, ev⟩ := e
      have ek' : ekey = Value.ref b := ek
      have g2' : eh = KeyHs w.params [s, z] := g2
      have hv' : L2.RelV v ev := hv
      subst ek' g2'
      refine ⟨(kL [s, z], b, ev) :: xs, ?_, ?_, ?_, fun k => ?_⟩
      · rw [List.map_cons, ← q1]
        rfl
      · intro x hx
        rcases List.mem_cons.mp hx with hx | hx
        · subst hx
          refine ⟨o, it, n, X b o lo, oc, od, ?_⟩
          rw [oi]
          exact .cons (keyIs_str _ t1) (.cons (keyIs_str _ t2) .nil)
        · exact q2 x hx
      · rw [List.map_cons, List.map_cons, q3]
      · show RelO (if [s, z] = k then some v else dctGet k ks vr) _
        unfold atKey
        rw [List.find?_cons]
        by_cases q : [s, z] = k
        · subst q
          rw [if_pos rfl]
          simp only [decide_true]
          exact hv'
        · rw [if_neg q]
          have : decide (kL [s, z] = kL k) = false := decide_eq_false fun x => q (kL_inj x)
          simp only [this]
          exact q4 k
theorem made1 {s : List Nat} : ∀ {ks : List (List (List Nat))} {kvs : List (L2.Key × V)}, kvs.map (·.1) = ks.map kyK → (∀ k ∈ ks, k.length = 1) → valV kvs (.inr ⟨s.toArray⟩) = dctGet [s] ks (kvs.map (·.2))
  | [], [], _, _ => rfl
  | [], _ :: _, h, _ => by cases h
  | _ :: _, [], h, _ => by cases h
  | k :: ks, (q, v) :: kvs, h, hl => by
    have h' : q :: kvs.map (·.1) = kyK k :: ks.map kyK := h
    injection h' with h1 h2
    have ih := made1 (s := s) h2 fun k hk => hl k (by simp [hk])
    match k, hl k (by simp), h1 with
    | [z], _, h1 =>
      have h1' : q = .inr ⟨z.toArray⟩ := h1
      subst h1'
      show _ = if [z] = [s] then some v else dctGet [s] ks (kvs.map (·.2))
      by_cases e : z = s
      · subst e
        rw [if_pos rfl]
        exact valV_pos rfl
      · rw [if_neg fun x => e (by injection x), ← ih]
        exact valV_neg fun x => e (by injection x with x; exact strN_inj x)
end
theorem dctOk_len {k : List (List Nat)} {ks : List (List (List Nat))} (h : dctOk k ks = true) : ks ≠ [] ∧ ∀ z ∈ ks, z.length = k.length := by
  obtain ⟨h1, h2⟩ := Bool.and_eq_true_iff.mp (show ((!ks.isEmpty) && ks.all fun z => z.length == k.length) = true from h)
  refine ⟨fun z => (by rw [z] at h1; cases h1), fun z hz => ?_⟩
  exact beq_iff_eq.mp (List.all_eq_true.mp h2 z hz)
section
variable {tb : Tb} {X : Cx} {H : Hp} {A : Addr → Prop}
theorem RepC.dct {K : PySem.W.Frag} {ks : List (List (List Nat))} {ds : List D} {v : V} (h : RepC tb K H A (.dct ks ds) v) : ∃ a vs, v = .ref a ∧ (HDc H A a ks vs ∨ KDc tb K a ks vs) ∧ RepL tb K H A ds vs := by
  rcases h with h | ⟨a, e, h⟩
  · exact h
  · exact h.elim
theorem key_cases {d : D} {k : List (List Nat)} (h : dKey d = some k) : (∃ s, d = .str s ∧ k = [s]) ∨ ∃ s z, d = .tup [.str s, .str z] ∧ k = [s, z] := by
  unfold dKey at h
  split at h
  · exact .inl ⟨_, rfl, (Option.some.inj h).symm⟩
  · exact .inr ⟨_, _, rfl, (Option.some.inj h).symm⟩
  · cases h
theorem key_str {d : D} {s : List Nat} (h : dKey d = some [s]) : d = .str s := by
  rcases key_cases h with ⟨s', e, q⟩ | ⟨s', z', e, q⟩
  · cases q; exact e
  · cases q
theorem key_pair {d : D} {s z : List Nat} (h : dKey d = some [s, z]) : d = .tup [.str s, .str z] := by
  rcases key_cases h with ⟨s', e, q⟩ | ⟨s', z', e, q⟩
  · cases q
  · cases q; exact e
theorem key_len {d : D} {k : List (List Nat)} (h : dKey d = some k) : k.length = 1 ∨ k.length = 2 := by
  rcases key_cases h with ⟨s', e, q⟩ | ⟨s', z', e, q⟩
  · rw [q]; exact .inl rfl
  · rw [q]; exact .inr rfl
theorem dct_at (hu : X.A.units + 65 < cLine) (dc : Dcs tb X) {pins : List (Addr × Obj)} {s : Shared} {σ : L2.St} {a : Addr} {x : V} {v : Value} {d1 : D} {ks : List (List (List Nat))} {vs : List V} {k : List (List Nat)}
    (I : Inv X pins σ H s) (rx : L2.RelV x v) (c1 : RepC tb X.K H A d1 x) (hk : dKey d1 = some k) (ho : dctOk k ks = true) (h : HDc H A a ks vs ∨ KDc tb X.K a ks vs) :
    (∀ Q : Value → Shared → Prop, (∀ s', Inv X pins σ H s' → Q (.bool (dctGet k ks vs).isSome) s') → wpAny (model X.prog X.w) X.A (compareOp .In v (.ref a)) Q X.xe s) ∧
    (∀ Q : Value → Shared → Prop, (∀ s', Inv X pins σ H s' → Q (.bool (!(dctGet k ks vs).isSome)) s') → wpAny (model X.prog X.w) X.A (compareOp .NotIn v (.ref a)) Q X.xe s) ∧
    s.TypeIs (.ref a) "dict" ∧
    (∀ y, dctGet k ks vs = some y → ∀ Q : Value → Shared → Prop, (∀ w' s', Inv X pins σ H s' → L2.RelV y w' → Q w' s') → wpAny (model X.prog X.w) X.A (getItem (.ref a) v) Q X.xe s) := by
  obtain ⟨hne, hl⟩ := dctOk_len ho
  rcases h with ⟨kvs, ⟨e, _⟩, e1, e2, e3⟩ | ⟨nd, nm, hm, ea, es, n, lo, dce⟩
  · have k1 : k.length = 1 := by
      cases ks with
      | nil => exact absurd rfl hne
      | cons z zs => rw [← hl z (by simp)]; exact e3 z (by simp)
    match k, k1, hk with
    | [t], _, hk =>
      have ed := key_str hk
      subst ed
      have ex : x = .str (dS t) := c1.str
      subst ex
      have g := made1 (s := t) e1 e3
      rw [e2] at g
      have dg : DGet H a (kV (.inr (dS t))) (dctGet [t] ks vs) := by rw [← g]; exact DGet.k e
      refine ⟨fun Q q => d_in (by omega) I dg rx q, fun Q q => d_notIn (by omega) I dg rx q, dict_typeIs I dg, fun y hy Q q => ?_⟩
      rw [hy] at dg
      exact d_getItem (by omega) I dg rx q
  · subst ea
    obtain ⟨ns, hh⟩ := dc nm hm
    have hh := hh es n lo
    rcases key_len hk with k1 | k2
    · match k, k1, hk with
      | [t], _, hk =>
        have ed := key_str hk
        subst ed
        have ex : x = .str (dS t) := c1.str
        subst ex
        obtain ⟨tk, rfl⟩ := (show ∃ tk, v = Value.str (dS t) tk from rx)
        have hm' := PySem.W.mapOf_K (prog := X.prog) (w := X.w) I.kIn lo (lit_of dce hl hh)
        have f := find1 (s := t) dce hl
        have fe : findBy Value.isStrOf es (dS t) = (es.toList.find? fun e => Value.isStrOf ⟨t.toArray⟩ e.key).map (·.val) := by
          obtain ⟨l⟩ := es
          unfold findBy
          rw [List.find?_toArray]
          rfl
        rw [← fe] at f
        refine ⟨fun Q q => wpAny_in_of (strKind_is X.prog X.w (dS t) tk) ns hm' ?_, fun Q q => wpAny_notIn_of (strKind_is X.prog X.w (dS t) tk) ns hm' ?_, hm'.typeIs, fun y hy Q q => ?_⟩
        · rw [← f.isSome_eq]; exact q _ (I.tok _)
        · rw [← f.isSome_eq]; exact q _ (I.tok _)
        · rw [hy] at f
          obtain ⟨u, hu', ru⟩ := RelO.some_of f
          exact wpAny_getItem_of (strKind_is X.prog X.w (dS t) tk) hm' hu' (q u _ (I.tok _) ru)
    · match k, k2, hk with
      | [t, z], _, hk =>
        have ed := key_pair hk
        subst ed
        obtain ⟨p, ws, ex, hp, r⟩ := c1.tup
        subst ex
        obtain rfl : v = Value.ref p := rx
        have ew : ws = [.str (dS t), .str (dS z)] := by
          obtain ⟨v1, r1, ev1, q1, w1, r2, ev2, q2, q3⟩ := r
          rw [ev1, ev2, (show v1 = V.str _ from q1), (show w1 = V.str _ from q2), (show r2 = [] from q3)]
          rfl
        subst ew
        obtain ⟨its, rv, it, hz⟩ := I.tuple (sqT_of hp)
        obtain ⟨xs, x1, x2, x3, x4⟩ := pairs_of (prog := X.prog) I.kIn dce hl hh
        have key : (tupleKind (mixKind X.prog X.w)).is s.heap (kL [t, z]) p := by
          obtain ⟨o, o1, o2, n, o3⟩ := it
          refine ⟨o, _, n, o1, o2, o3, ?_⟩
          have := items_are (P := X.prog) (w := X.w) (ks := kL [t, z]) (us := its) rv
          simpa using this
        have dh : s.heap.DictOfH (tupleKind (mixKind X.prog X.w)) (He.ga X.K nm) xs := by
          refine ⟨_, es, n, I.kIn _ _ lo, ⟨rfl, rfl, rfl⟩, rfl, x1, x2, ?_⟩
          rw [x3]
          exact List.Pairwise.map _ (fun a b hab hq => hab (kL_inj hq)) nd
        have f := x4 [t, z]
        have hs := f.isSome_eq
        rw [Option.isSome_map] at hs
        refine ⟨fun Q q => wpAny_in_heap (tupleKind_room_in1 (by omega)) key ns dh ?_, fun Q q => wpAny_notIn_heap (tupleKind_room_in1 (by omega)) key ns dh ?_, dh.typeIs, fun y hy Q q => ?_⟩
        · rw [← hs]; exact q _ (I.tok _)
        · rw [← hs]; exact q _ (I.tok _)
        · rw [hy] at f
          obtain ⟨u, hu', ru⟩ := RelO.some_of f
          obtain ⟨pp, hp1, hp2⟩ := Option.map_eq_some_iff.mp hu'
          refine wpAny_getItem_heap (tupleKind_room_in1 (by omega)) key dh hp1 ?_
          rw [hp2]
          exact q u _ (I.tok _) ru
end
end VE
namespace VE
open PySem PySem.Spec PyProof.Rows L2
section
variable {tb : Tb} {X : Cx}
theorem rBl_ok {r : R Bool} {A : Addr → Prop} {H : Hp} {Q : VK} (q : PostV tb X.K A H (rBl r) Q) : ∃ b, r = .ok b ∧ Q (.bl b) H := by
  cases r with
  | ok b => exact ⟨b, rfl, pv_bl q⟩
  | exc c => exact q.elim
  | bad => exact q.elim
theorem rNot_ok {r : R Bool} {A : Addr → Prop} {H : Hp} {Q : VK} (q : PostV tb X.K A H (rNot r) Q) : ∃ b, r = .ok b ∧ Q (.bl !b) H := by
  cases r with
  | ok b => exact ⟨b, rfl, pv_bl q⟩
  | exc c => exact q.elim
  | bad => exact q.elim
theorem dEq_ok {a b : D} {k : Bool} (h : dEq a b = .ok k) : dOk a 60 = true ∧ dOk b 60 = true ∧ k = dEqv a b := by
  unfold dEq at h
  split at h
  · rename_i z
    obtain ⟨z1, z2⟩ := Bool.and_eq_true_iff.mp z
    exact ⟨z1, z2, (R.ok.inj h).symm⟩
  · cases h
theorem scal_of {H : Hp} {A : Addr → Prop} {d : D} {v : V} (h : Rep tb X.K H A d v) (s : dScal d = true) : flatV v = true := by
  cases d with
  | non => cases (show _ = _ from h); rfl
  | bl b => cases (show _ = _ from h); rfl
  | int b => cases (show _ = _ from h); rfl
  | str b => cases (show _ = _ from h); rfl
  | _ => cases s
theorem eqV_of {H : Hp} {A : Addr → Prop} {d e : D} {v w : V} (h : Rep tb X.K H A d v) (k : Rep tb X.K H A e w) (s : dScal d = true) (s' : dScal e = true) : eqV v w = dEqv d e := by
  cases d <;> first | cases s | skip
  all_goals cases e <;> first | cases s' | skip
  all_goals (have e1 := (show _ = _ from h); have e2 := (show _ = _ from k); subst e1; subst e2; rfl)
theorem inV_of {H : Hp} {A : Addr → Prop} {e : D} {w : V} (k : Rep tb X.K H A e w) (s' : dScal e = true) : ∀ {ds : List D} {vs : List V}, RepL tb X.K H A ds vs → ds.all dScal = true → vs.all flatV = true ∧ inV w vs = ds.any fun z => dEqv z e
  | [], _, h, _ => by cases (show _ = _ from h); exact ⟨rfl, rfl⟩
  | d :: r, _, ⟨v, vs, ev, h1, h2⟩, o => by
    subst ev
    obtain ⟨o1, o2⟩ := Bool.and_eq_true_iff.mp (show (dScal d && r.all dScal) = true from o)
    obtain ⟨q1, q2⟩ := inV_of k s' h2 o2
    refine ⟨?_, ?_⟩
    · show (flatV v && vs.all flatV) = true
      rw [scal_of h1 o1, q1]; rfl
    · show (eqV v w || inV w vs) = (dEqv d e || r.any _)
      rw [q2, eqV_of h1 k o1 s']
theorem repC_scal {H : Hp} {A : Addr → Prop} {d : D} {v : V} (h : RepC tb X.K H A d v) (s : dScal d = true) : Rep tb X.K H A d v := by
  rcases h with h | ⟨a, e, h⟩
  · exact h
  · cases d <;> first | exact h.elim | cases s
theorem in_of (hu : X.A.units + 65 < cLine) (dc : Dcs tb X) {neg : Bool} {op : CmpOp} (ho : op = if neg then .NotIn else .In) {pins : List (Addr × Obj)} {s : Shared} {σ : L2.St} {H : Hp} {x y : V} {v u : Value} {Q : VK} {A : Addr → Prop} {d1 d2 : D} {k : Bool}
    (I : Inv X pins σ H s) (rx : RelV x v) (ry : RelV y u) (c1 : RepC tb X.K H A d1 x) (c2 : RepC tb X.K H A d2 y) (e : dIn d1 d2 = .ok k) (q : Q (.bl (if neg then !k else k)) H) :
    wpAny (model X.prog X.w) X.A (compareOp op v u) (EP X pins σ Q) X.xe s := by
  subst ho
  cases d2 with
  | lst ds =>
    have e' : (if dOk d1 60 && dOkL ds 60 then R.ok (ds.any fun z => dEqv z d1) else .bad) = .ok k := e
    split at e'
    · rename_i z
      obtain ⟨z1, z2⟩ := Bool.and_eq_true_iff.mp z
      have ek := R.ok.inj e'
      obtain ⟨p1, p2⟩ := dpC_of c1 z1 (by decide)
      obtain ⟨r1, r2⟩ := dpC_of (n := 61) c2 (show dOkL ds 60 = true from z2) (by decide)
      rw [← pyL_any] at ek
      cases neg with
      | true => exact op_notInD hu pins s σ H x y v u Q I rx ry ⟨_, _, p1, r1, p2, r2, by rw [ek]; exact q⟩
      | false => exact op_inD hu pins s σ H x y v u Q I rx ry ⟨_, _, p1, r1, p2, r2, by rw [ek]; exact q⟩
    · cases e'
  | tup ds =>
    have e' : (if dScal d1 && ds.all dScal then R.ok (ds.any fun z => dEqv z d1) else .bad) = .ok k := e
    split at e'
    · rename_i z
      obtain ⟨z1, z2⟩ := Bool.and_eq_true_iff.mp z
      have ek := R.ok.inj e'
      have s1 := repC_scal c1 z1
      obtain ⟨p, vs, ep, h2, r2⟩ := c2.tup
      obtain ⟨q1, q2⟩ := inV_of s1 z1 r2 z2
      cases neg with
      | true => exact op_notIn_seq pins s σ H x y v u Q I rx ry ⟨p, vs, ep, .inr (sqT_of h2), scal_of s1 z1, q1, by rw [q2, ek]; exact q⟩
      | false => exact op_in_seq pins s σ H x y v u Q I rx ry ⟨p, vs, ep, .inr (sqT_of h2), scal_of s1 z1, q1, by rw [q2, ek]; exact q⟩
    · cases e'
  | str t => cases d1 with
    | str a => cases a with
      | nil => cases e
      | cons c r => cases r with
        | nil =>
          have ek : decide (c ∈ t) = k := R.ok.inj e
          have e2 : (dS t).cps.toList = t := by show t.toArray.toList = t; simp
          cases neg with
          | true => exact op_notIn_sign pins s σ H x y v u Q I rx ry ⟨c, dS t, c1.str, c2.str, by rw [e2, ek]; exact q⟩
          | false => exact op_in_sign pins s σ H x y v u Q I rx ry ⟨c, dS t, c1.str, c2.str, by rw [e2, ek]; exact q⟩
        | cons _ _ => cases e
    | _ => cases e
  | dct ks ds =>
    have e' : (match dKey d1 with
      | some k => if dctOk k ks then R.ok (decide (k ∈ ks)) else .bad
      | none => .bad) = R.ok k := e
    cases hk : dKey d1 with
    | none => rw [hk] at e'; cases e'
    | some z =>
      rw [hk] at e'
      have e2 : (if dctOk z ks then R.ok (decide (z ∈ ks)) else .bad) = R.ok k := e'
      split at e2
      · rename_i ho
        have ek : decide (z ∈ ks) = k := R.ok.inj e2
        obtain ⟨a, vs, ey, hd, r⟩ := c2.dct
        subst ey
        obtain rfl : u = Value.ref a := ry
        have hv : vs.length = ks.length := by
          rcases hd with ⟨kvs, _, e1, e2, _⟩ | ⟨_, _, _, _, _, _, _, q⟩
          · have := congrArg List.length e1
            rw [List.length_map, List.length_map] at this
            rw [← e2, List.length_map, this]
          · exact q.len
        obtain ⟨p1, p2, _, _⟩ := dct_at hu dc I rx c1 hk ho hd
        have hs := dctGet_some (k := z) hv
        cases neg with
        | true => exact p2 _ fun s' I' => by rw [hs, ek]; exact ⟨.bl (!k), H, I', rfl, q⟩
        | false => exact p1 _ fun s' I' => by rw [hs, ek]; exact ⟨.bl k, H, I', rfl, q⟩
      · cases e2
  | _ => cases e
theorem non_iff {H : Hp} {A : Addr → Prop} {d : D} {x : V} (c : RepC tb X.K H A d x) : decide (x = .non) = isNonD d := by
  cases d with
  | non => rw [c.non]; rfl
  | bl b => rw [c.bl]; rfl
  | int b => rw [c.int]; rfl
  | str b => rw [c.str]; rfl
  | tup ds => obtain ⟨a, vs, e, _⟩ := c.tup; rw [e]; rfl
  | lst ds => obtain ⟨a, vs, e, _⟩ := c.lst; rw [e]; rfl
  | frz ds => obtain ⟨a, vs, e, _⟩ := c.frz; rw [e]; rfl
  | obj k fs ds => obtain ⟨a, dx, gs, e, _⟩ := c.obj; rw [e]; rfl
  | dct ks ds => obtain ⟨a, vs, e, _⟩ := c.dct; rw [e]; rfl
theorem op_cmp (dc : Dcs tb X) (hu : X.A.units + 65 < cLine) (op : CmpOp) : OpR X (compareOp op) (rD2 .fresh tb X.K (dCmp op)) := by
  intro pins s σ H x y v u Q I rx ry h
  obtain ⟨A, d1, d2, ha, c1, c2, q⟩ := h
  have b0 : ∀ {i j : Int} {g : Int → Int → Bool}, RepC tb X.K H A (.int i) x → RepC tb X.K H A (.int j) y → OpR X (compareOp op) (rI0 fun i j => .bl (g i j)) → PostV tb X.K A H (.ok (.bl (g i j))) Q →
      wpAny (model X.prog X.w) X.A (compareOp op v u) (EP X pins σ Q) X.xe s := fun {i j g} a1 a2 o p => o pins s σ H x y v u Q I rx ry ⟨i, j, a1.int, a2.int, pv_bl p⟩
  cases op with
  | Lt => cases d1 with
    | int i => cases d2 with
      | int j => exact b0 c1 c2 op_lt q
      | _ => exact q.elim
    | str b => cases d2 with
      | str b2 => exact op_lt_str pins s σ H x y v u Q I rx ry ⟨_, _, c1.str, c2.str, pv_bl q⟩
      | _ => exact q.elim
    | _ => exact q.elim
  | LtE => cases d1 with
    | int i => cases d2 with
      | int j => exact b0 c1 c2 op_le q
      | _ => exact q.elim
    | str b => cases d2 with
      | str b2 => exact op_le_str pins s σ H x y v u Q I rx ry ⟨_, _, c1.str, c2.str, pv_bl q⟩
      | _ => exact q.elim
    | _ => exact q.elim
  | Gt => cases d1 with
    | int i => cases d2 with
      | int j => exact b0 c1 c2 op_gt q
      | _ => exact q.elim
    | str b => cases d2 with
      | str b2 => exact op_gt_str pins s σ H x y v u Q I rx ry ⟨_, _, c1.str, c2.str, pv_bl q⟩
      | _ => exact q.elim
    | _ => exact q.elim
  | GtE => cases d1 with
    | int i => cases d2 with
      | int j => exact b0 c1 c2 op_ge q
      | _ => exact q.elim
    | str b => cases d2 with
      | str b2 => exact op_ge_str pins s σ H x y v u Q I rx ry ⟨_, _, c1.str, c2.str, pv_bl q⟩
      | _ => exact q.elim
    | _ => exact q.elim
  | Eq =>
    have q' : PostV tb X.K A H (rBl (dEq d1 d2)) Q := by cases d1 <;> exact q
    obtain ⟨b, e, q2⟩ := rBl_ok q'
    obtain ⟨o1, o2, rfl⟩ := dEq_ok e
    obtain ⟨p1, p2⟩ := dpC_of c1 o1 (by decide)
    obtain ⟨r1, r2⟩ := dpC_of c2 o2 (by decide)
    exact op_eqD (by omega) pins s σ H x y v u Q I rx ry ⟨_, _, p1, r1, p2, r2, q2⟩
  | NotEq =>
    have q' : PostV tb X.K A H (rNot (dEq d1 d2)) Q := by cases d1 <;> exact q
    obtain ⟨b, e, q2⟩ := rNot_ok q'
    obtain ⟨o1, o2, rfl⟩ := dEq_ok e
    obtain ⟨p1, p2⟩ := dpC_of c1 o1 (by decide)
    obtain ⟨r1, r2⟩ := dpC_of c2 o2 (by decide)
    exact op_neD (by omega) pins s σ H x y v u Q I rx ry ⟨_, _, p1, r1, p2, r2, q2⟩
  | In =>
    have q' : PostV tb X.K A H (rBl (dIn d1 d2)) Q := by cases d1 <;> exact q
    obtain ⟨b, e, q2⟩ := rBl_ok q'
    exact in_of (neg := false) hu dc rfl I rx ry c1 c2 e q2
  | NotIn =>
    have q' : PostV tb X.K A H (rNot (dIn d1 d2)) Q := by cases d1 <;> exact q
    obtain ⟨b, e, q2⟩ := rNot_ok q'
    exact in_of (neg := true) hu dc rfl I rx ry c1 c2 e q2
  | Is => cases d2 with
    | non =>
      refine op_isN pins s σ H x y v u Q I rx ry ⟨c2.non, ?_⟩
      rw [non_iff c1]
      cases d1 <;> exact pv_bl q
    | bl b => cases d1 with
      | bl a => exact op_isBl pins s σ H x y v u Q I rx ry ⟨a, b, c1.bl, c2.bl, pv_bl q⟩
      | _ => exact q.elim
    | _ => cases d1 <;> exact q.elim
  | IsNot => cases d2 with
    | non =>
      refine op_notN pins s σ H x y v u Q I rx ry ⟨c2.non, ?_⟩
      rw [non_iff c1]
      cases d1 <;> exact pv_bl q
    | bl b => cases d1 with
      | bl a => exact op_notBl pins s σ H x y v u Q I rx ry ⟨a, b, c1.bl, c2.bl, pv_bl q⟩
      | _ => exact q.elim
    | _ => cases d1 <;> exact q.elim
theorem un_negD : UnR X (unaryOp .USub) (rD1 .fresh tb X.K dNeg) := by
  intro pins s σ H x v Q I rx h
  obtain ⟨A, d1, ha, c1, q⟩ := h
  cases d1 with
  | int i => exact un_neg pins s σ H x v Q I rx ⟨i, c1.int, pv_int q⟩
  | _ => exact q.elim
theorem atI_rep {K : PySem.W.Frag} {H : Hp} {A : Addr → Prop} {ds : List D} {vs : List V} {i : Int} {d : D} (r : RepL tb K H A ds vs) (e : atI ds i = some d) : ∃ v, atI vs i = some v ∧ Rep tb K H A d v := by
  unfold atI at e ⊢
  rw [r.length]
  cases q : ixN ds.length i with
  | none => rw [q] at e; cases e
  | some j =>
    rw [q] at e
    exact r.get e
theorem ps_ok {o : Option D} {A : Addr → Prop} {H : Hp} {m : Md} {Q : VK} (q : PostM m tb X.K A H (rOpt o) Q) : ∃ d, o = some d ∧ PostM m tb X.K A H (.ok d) Q := by
  cases o with
  | none => exact q.elim
  | some d => exact ⟨d, rfl, q⟩
theorem ix_D (dc : Dcs tb X) (hu : X.A.units + 65 < cLine) : IxR X (rD2 .share tb X.K dIx) := by
  intro vx sx pins s σ H x y v u Q I rx ry h hs
  obtain ⟨A, d1, d2, ha, c1, c2, q⟩ := h
  have dct : ∀ {ks : List (List (List Nat))} {ds : List D}, d1 = .dct ks ds → wpAny (model X.prog X.w) X.A (PyProof.Rows.subscriptTail vx sx v u) (EP X pins σ Q) X.xe s := fun {ks ds} ed => by
    subst ed
    have q' : PostM .share tb X.K A H (match dKey d2 with
      | some k => if dctOk k ks then rOpt (dctGet k ks ds) else .bad
      | none => .bad) Q := q
    cases hk : dKey d2 with
    | none => rw [hk] at q'; exact q'.elim
    | some z =>
      rw [hk] at q'
      have q2 : PostM .share tb X.K A H (if dctOk z ks then rOpt (dctGet z ks ds) else .bad) Q := q'
      split at q2
      · rename_i ho
        obtain ⟨d, e, q3⟩ := ps_ok q2
        obtain ⟨a, vs, ex, hd, r⟩ := c1.dct
        subst ex
        obtain rfl : v = Value.ref a := rx
        obtain ⟨y', e2, rz⟩ := r.dget e
        obtain ⟨_, _, p3, p4⟩ := dct_at hu dc I ry c2 hk ho hd
        exact tail_any p3 slot_dict_getitem.lookup (p4 y' e2 _ fun w' s' I' rw' => ⟨y', H, I', rw', q3 _ H Same.refl rz⟩) hs
      · exact q2.elim
  have fin : rIx X.K x y H Q → wpAny (model X.prog X.w) X.A (PyProof.Rows.subscriptTail vx sx v u) (EP X pins σ Q) X.xe s := fun r => ix_seq vx sx pins s σ H x y v u Q I rx ry r hs
  cases d2 with
  | int i => cases d1 with
    | lst ds =>
      obtain ⟨d, e, q⟩ := ps_ok q
      obtain ⟨p, vs, ep, h1, r⟩ := c1.lst
      obtain ⟨z, e2, rz⟩ := atI_rep r e
      exact fin (.inl ⟨p, vs, i, z, ep, c2.int, SqL.of h1, e2, q z H Same.refl rz⟩)
    | frz ds =>
      obtain ⟨d, e, q⟩ := ps_ok q
      obtain ⟨p, vs, ep, h1, r⟩ := c1.frz
      obtain ⟨z, e2, rz⟩ := atI_rep r e
      exact fin (.inl ⟨p, vs, i, z, ep, c2.int, sqL_of h1, e2, q z H Same.refl rz⟩)
    | tup ds =>
      obtain ⟨d, e, q⟩ := ps_ok q
      obtain ⟨p, vs, ep, h1, r⟩ := c1.tup
      obtain ⟨z, e2, rz⟩ := atI_rep r e
      exact fin (.inr (.inl ⟨p, vs, i, z, ep, c2.int, sqT_of h1, e2, q z H Same.refl rz⟩))
    | dct ks ds => exact dct rfl
    | str a =>
      have q' : PostM .share tb X.K A H (if a.length ≤ SZ then rOpt ((atI a i).map fun c => D.str [c]) else .bad) Q := q
      split at q'
      · rename_i hl
        obtain ⟨d, e, q2⟩ := ps_ok q'
        cases z : atI a i with
        | none => rw [z] at e; cases e
        | some c =>
          rw [z] at e
          cases e
          refine fin (.inr (.inr ⟨dS a, i, c, c1.str, c2.int, by rw [← sz_eq]; exact hl, ?_, q2 _ H Same.refl rfl⟩))
          have e2 : (dS a).cps.toList = a := by show a.toArray.toList = a; simp
          rw [e2]; exact z
      · exact q'.elim
    | _ => exact q.elim
  | _ => cases d1 <;> first | exact q.elim | exact dct rfl
theorem cut_rep {K : PySem.W.Frag} {H : Hp} {A : Addr → Prop} {ds : List D} {vs : List V} (r : RepL tb K H A ds vs) (lo hi : Option Int) : RepL tb K H A (cutD ds lo hi) (cutV vs lo hi) := by
  unfold cutD cutV
  rw [r.length]
  exact (r.drop _).take _
def rSlD (tb : Tb) (K : PySem.W.Frag) : V → Option Int → Option Int → Hp → VK → Prop := fun x lo hi H Q => ∃ A d, (∀ a, A a → H a ≠ none) ∧ RepC tb K H A d x ∧ PostV tb K A H (dSl d lo hi) Q
theorem sl_D : SlR X (rSlD tb X.K) := by
  intro pins s σ H x v vl vu lo hi sl Q I rx hs hl hu h
  obtain ⟨A, d, ha, c, q⟩ := h
  cases d with
  | lst ds =>
    obtain ⟨p, vs, ep, h1, r⟩ := c.lst
    exact sl_list pins s σ H x v vl vu lo hi sl Q I rx hs hl hu ⟨p, vs, ep, SqL.of h1, pv_lst q (cut_rep r lo hi)⟩
  | tup ds =>
    obtain ⟨p, vs, ep, h1, r⟩ := c.tup
    refine sl_tupA pins s σ H x v vl vu lo hi sl Q I rx hs hl hu ⟨p, vs, ep, sqT_of h1, fun ⟨z1, z2⟩ => ?_, fun _ => pv_tup q ha (cut_rep r lo hi)⟩
    refine q _ H Same.refl (show Rep tb X.K H A _ _ from ⟨p, vs, ep ▸ rfl, h1, ?_⟩)
    have e : cutD ds lo hi = ds := by
      unfold cutD
      rw [← r.length, z1, z2]
      simp [r.length]
    rw [e]; exact r
  | str a =>
    have q' : PostV tb X.K A H (if a.length ≤ SZ then R.ok (D.str (cutD a lo hi)) else .bad) Q := q
    obtain ⟨hl', q2⟩ := ite_ok q'
    refine sl_str pins s σ H x v vl vu lo hi sl Q I rx hs hl hu ⟨dS a, c.str, by rw [← sz_eq]; exact hl', ?_⟩
    have e2 : (dS a).cps.toList = a := by show a.toArray.toList = a; simp
    have e3 : cutS (dS a) lo hi = dS (cutD a lo hi) := by
      unfold cutS cutD
      rw [e2]; rfl
    rw [e3]; exact pv_str q2
  | _ => exact q.elim
end
end VE
namespace VE
open PySem PySem.Spec PyProof.Rows L2
section
variable {tb : Tb} {X : Cx} {K : PySem.W.Frag}
theorem intsOf_eq : ∀ {ds : List D} {l : List Int}, intsOf ds = some l → ds = l.map D.int
  | [], l, h => by cases h; rfl
  | .int i :: r, l, h => by
    have h' : (intsOf r).map (i :: ·) = some l := h
    cases q : intsOf r with
    | none => rw [q] at h'; cases h'
    | some l' => rw [q] at h'; cases h'; rw [intsOf_eq q]; rfl
  | .non :: _, _, h => by cases h
  | .bl _ :: _, _, h => by cases h
  | .str _ :: _, _, h => by cases h
  | .tup _ :: _, _, h => by cases h
  | .lst _ :: _, _, h => by cases h
  | .frz _ :: _, _, h => by cases h
  | .obj _ _ _ :: _, _, h => by cases h
  | .dct _ _ :: _, _, h => by cases h
theorem blsOf_eq : ∀ {ds : List D} {l : List Bool}, blsOf ds = some l → ds = l.map D.bl
  | [], l, h => by cases h; rfl
  | .bl i :: r, l, h => by
    have h' : (blsOf r).map (i :: ·) = some l := h
    cases q : blsOf r with
    | none => rw [q] at h'; cases h'
    | some l' => rw [q] at h'; cases h'; rw [blsOf_eq q]; rfl
  | .non :: _, _, h => by cases h
  | .int _ :: _, _, h => by cases h
  | .str _ :: _, _, h => by cases h
  | .tup _ :: _, _, h => by cases h
  | .lst _ :: _, _, h => by cases h
  | .frz _ :: _, _, h => by cases h
  | .obj _ _ _ :: _, _, h => by cases h
  | .dct _ _ :: _, _, h => by cases h
theorem strsOf_eq : ∀ {ds : List D} {l : List Str}, strsOf ds = some l → ∃ k : List (List Nat), ds = k.map D.str ∧ l = k.map dS
  | [], l, h => by cases h; exact ⟨[], rfl, rfl⟩
  | .str s :: r, l, h => by
    have h' : (strsOf r).map (dS s :: ·) = some l := h
    cases q : strsOf r with
    | none => rw [q] at h'; cases h'
    | some l' =>
      rw [q] at h'; cases h'
      obtain ⟨k, e1, e2⟩ := strsOf_eq q
      exact ⟨s :: k, by rw [e1]; rfl, by rw [e2]; rfl⟩
  | .non :: _, _, h => by cases h
  | .int _ :: _, _, h => by cases h
  | .bl _ :: _, _, h => by cases h
  | .tup _ :: _, _, h => by cases h
  | .lst _ :: _, _, h => by cases h
  | .frz _ :: _, _, h => by cases h
  | .obj _ _ _ :: _, _, h => by cases h
  | .dct _ _ :: _, _, h => by cases h
theorem repL_ints {H : Hp} {A : Addr → Prop} : ∀ {l : List Int} {vs : List V}, RepL tb K H A (l.map D.int) vs → vs = l.map V.int
  | [], _, h => h
  | i :: l, _, ⟨v, r, e, h1, h2⟩ => by rw [e, repL_ints h2, (show v = V.int i from h1)]; rfl
theorem ints_repL {H : Hp} {A : Addr → Prop} : ∀ (l : List Int), RepL tb K H A (l.map D.int) (l.map V.int)
  | [] => .nil
  | i :: l => RepL.cons rfl (ints_repL l)
theorem repL_bls {H : Hp} {A : Addr → Prop} : ∀ {l : List Bool} {vs : List V}, RepL tb K H A (l.map D.bl) vs → vs = l.map V.bl
  | [], _, h => h
  | i :: l, _, ⟨v, r, e, h1, h2⟩ => by rw [e, repL_bls h2, (show v = V.bl i from h1)]; rfl
theorem repL_strs {H : Hp} {A : Addr → Prop} : ∀ {l : List (List Nat)} {vs : List V}, RepL tb K H A (l.map D.str) vs → vs = (l.map dS).map V.str
  | [], _, h => h
  | i :: l, _, ⟨v, r, e, h1, h2⟩ => by rw [e, repL_strs h2, (show v = V.str _ from h1)]; rfl
theorem strs_repL {H : Hp} {A : Addr → Prop} : ∀ (l : List Str), RepL tb K H A (l.map dTx) (l.map V.str)
  | [] => .nil
  | i :: l => RepL.cons (show V.str i = V.str _ by simp) (strs_repL l)
theorem minOf_spec : ∀ (l : List Int) (m : Int), minOf m l ∈ m :: l ∧ ∀ y ∈ m :: l, minOf m l ≤ y
  | [], m => ⟨by simp [minOf], fun y h => by simp at h; simp [minOf, h]⟩
  | x :: r, m => by
    obtain ⟨h1, h2⟩ := minOf_spec r (if x < m then x else m)
    have e : minOf m (x :: r) = minOf (if x < m then x else m) r := rfl
    rw [e]
    have hm := h2 _ (List.mem_cons_self ..)
    have hm2 : minOf (if x < m then x else m) r ≤ m ∧ minOf (if x < m then x else m) r ≤ x := by
      revert hm
      generalize minOf (if x < m then x else m) r = z
      intro hm
      split at hm <;> omega
    refine ⟨?_, fun y hy => ?_⟩
    · rcases List.mem_cons.mp h1 with q | q
      · rw [q]; split <;> simp
      · simp [q]
    · rcases List.mem_cons.mp hy with q | q
      · rw [q]; exact hm2.1
      · rcases List.mem_cons.mp q with q | q
        · rw [q]; exact hm2.2
        · exact h2 y (List.mem_cons_of_mem _ q)
theorem maxOf_spec : ∀ (l : List Int) (m : Int), maxOf m l ∈ m :: l ∧ ∀ y ∈ m :: l, y ≤ maxOf m l
  | [], m => ⟨by simp [maxOf], fun y h => by simp at h; simp [maxOf, h]⟩
  | x :: r, m => by
    obtain ⟨h1, h2⟩ := maxOf_spec r (if x > m then x else m)
    have e : maxOf m (x :: r) = maxOf (if x > m then x else m) r := rfl
    rw [e]
    have hm := h2 _ (List.mem_cons_self ..)
    have hm2 : m ≤ maxOf (if x > m then x else m) r ∧ x ≤ maxOf (if x > m then x else m) r := by
      revert hm
      generalize maxOf (if x > m then x else m) r = z
      intro hm
      split at hm <;> omega
    refine ⟨?_, fun y hy => ?_⟩
    · rcases List.mem_cons.mp h1 with q | q
      · rw [q]; split <;> simp
      · simp [q]
    · rcases List.mem_cons.mp hy with q | q
      · rw [q]; exact hm2.1
      · rcases List.mem_cons.mp q with q | q
        · rw [q]; exact hm2.2
        · exact h2 y (List.mem_cons_of_mem _ q)
theorem bind_ok {o : Option (List Int)} {f : List Int → R D} {A : Addr → Prop} {H : Hp} {m : Md} {Q : VK} (q : PostM m tb X.K A H ((rOpt o).bind f) Q) : ∃ l, o = some l ∧ PostM m tb X.K A H (f l) Q := by
  cases o with
  | none => exact q.elim
  | some l => exact ⟨l, rfl, q⟩
theorem p1 {H : Hp} {A : Addr → Prop} {d : D} {xs : List V} (h : Paired (RepC tb K H A) [d] xs) : ∃ x, xs = [x] ∧ RepC tb K H A d x := by
  cases h with
  | cons a b => cases b; exact ⟨_, rfl, a⟩
theorem p2 {H : Hp} {A : Addr → Prop} {d e : D} {xs : List V} (h : Paired (RepC tb K H A) [d, e] xs) : ∃ x y, xs = [x, y] ∧ RepC tb K H A d x ∧ RepC tb K H A e y := by
  cases h with
  | cons a b => cases b with
    | cons c d => cases d; exact ⟨_, _, rfl, a, c⟩
def biV : Bi → Value
  | .len => .builtin "len" | .abs => .builtin "abs" | .int => .type "int" | .min => .builtin "min" | .max => .builtin "max" | .sum => .builtin "sum"
  | .list => .type "list" | .tuple => .type "tuple" | .ord => .builtin "ord" | .str => .type "str" | .all => .builtin "all" | .lrev => .none | .isqrt => .none
def biOk : Bi → Bool
  | .lrev => false | .isqrt => false | _ => true
theorem dS_len (s : List Nat) : (dS s).length = s.length := by show s.toArray.size = _; simp
theorem call_D (hc : X.calm = true) (b : Bi) (hb : biOk b = true) : CallR X (biV b) (rDL .fresh tb X.K (dBi b)) := by
  intro pins s σ H xs us Q I r h
  obtain ⟨A, ds, ha, c, q⟩ := h
  cases b with
  | lrev => cases hb
  | isqrt => cases hb
  | len => cases ds with
    | nil => exact q.elim
    | cons d r1 => cases r1 with
      | cons _ _ => cases d <;> exact q.elim
      | nil =>
        obtain ⟨x, ex, cc⟩ := p1 c
        subst ex
        cases d with
        | lst es =>
          obtain ⟨p, vs, ep, h1, r1⟩ := cc.lst
          subst ep
          exact call_len pins s σ H _ us Q I r ⟨_, _, rfl, .inl ⟨vs, SqL.of h1, rfl⟩, by rw [r1.length]; exact pv_int q⟩
        | frz es =>
          obtain ⟨p, vs, ep, h1, r1⟩ := cc.frz
          subst ep
          exact call_len pins s σ H _ us Q I r ⟨_, _, rfl, .inl ⟨vs, sqL_of h1, rfl⟩, by rw [r1.length]; exact pv_int q⟩
        | tup es =>
          obtain ⟨p, vs, ep, h1, r1⟩ := cc.tup
          subst ep
          exact call_len pins s σ H _ us Q I r ⟨_, _, rfl, .inr ⟨vs, sqT_of h1, rfl⟩, by rw [r1.length]; exact pv_int q⟩
        | str a =>
          have q' : PostV tb X.K A H (if a.length ≤ SZ then R.ok (D.int a.length) else .bad) Q := q
          obtain ⟨hl, q2⟩ := ite_ok q'
          have e := cc.str
          subst e
          exact call_len pins s σ H _ us Q I r ⟨_, a.length, rfl, ⟨by rw [dS_len, ← sz_eq]; exact hl, (dS_len a).symm⟩, pv_int q2⟩
        | _ => exact q.elim
  | abs => cases ds with
    | nil => exact q.elim
    | cons d r1 => cases r1 with
      | cons _ _ => cases d <;> exact q.elim
      | nil =>
        obtain ⟨x, ex, cc⟩ := p1 c
        subst ex
        cases d with
        | int i => exact call_abs pins s σ H _ us Q I r ⟨i, by rw [cc.int], pv_int q⟩
        | _ => exact q.elim
  | int => cases ds with
    | nil => exact q.elim
    | cons d r1 => cases r1 with
      | cons _ _ => cases d <;> exact q.elim
      | nil =>
        obtain ⟨x, ex, cc⟩ := p1 c
        subst ex
        cases d with
        | int i => exact call_int1 pins s σ H _ us Q I r (.inl ⟨i, by rw [cc.int], pv_int q⟩)
        | bl i => exact call_int1 pins s σ H _ us Q I r (.inr ⟨i, by rw [cc.bl], pv_int q⟩)
        | _ => exact q.elim
  | ord => cases ds with
    | nil => exact q.elim
    | cons d r1 => cases r1 with
      | cons _ _ => cases d <;> first | exact q.elim | (rename_i z; cases z with | nil => exact q.elim | cons _ z2 => cases z2 <;> exact q.elim)
      | nil =>
        obtain ⟨x, ex, cc⟩ := p1 c
        subst ex
        cases d with
        | str a => cases a with
          | nil => exact q.elim
          | cons k z => cases z with
            | nil => exact call_ord pins s σ H _ us Q I r ⟨dS [k], by rw [cc.str], rfl, pv_int q⟩
            | cons _ _ => exact q.elim
        | _ => exact q.elim
  | str => cases ds with
    | nil => exact q.elim
    | cons d r1 => cases r1 with
      | cons _ _ => cases d <;> exact q.elim
      | nil =>
        obtain ⟨x, ex, cc⟩ := p1 c
        subst ex
        cases d with
        | int i =>
          have q' : PostV tb X.K A H (if i.natAbs.log2 < 1920 then R.ok (D.str (Str.ofString (toString i)).cps.toList) else .bad) Q := q
          obtain ⟨hl, q2⟩ := ite_ok q'
          refine call_str_int pins s σ H _ us Q I r ⟨i, by rw [cc.int], hl, ?_⟩
          have e : dS (Str.ofString (toString i)).cps.toList = Str.ofString (toString i) := by unfold dS; simp
          rw [← e]; exact pv_str q2
        | _ => exact q.elim
  | list => cases ds with
    | nil => exact q.elim
    | cons d r1 => cases r1 with
      | cons _ _ => cases d <;> exact q.elim
      | nil =>
        obtain ⟨x, ex, cc⟩ := p1 c
        subst ex
        cases d with
        | lst es =>
          obtain ⟨p, vs, ep, h1, r1⟩ := cc.lst
          subst ep
          exact call_list_of pins s σ H _ us Q I r ⟨p, vs, rfl, .inl (SqL.of h1), pv_lst q r1⟩
        | frz es =>
          obtain ⟨p, vs, ep, h1, r1⟩ := cc.frz
          subst ep
          exact call_list_of pins s σ H _ us Q I r ⟨p, vs, rfl, .inl (sqL_of h1), pv_lst q r1⟩
        | tup es =>
          obtain ⟨p, vs, ep, h1, r1⟩ := cc.tup
          subst ep
          exact call_list_of pins s σ H _ us Q I r ⟨p, vs, rfl, .inr (sqT_of h1), pv_lst q r1⟩
        | _ => exact q.elim
  | tuple => cases ds with
    | nil => exact q.elim
    | cons d r1 => cases r1 with
      | cons _ _ => cases d <;> exact q.elim
      | nil =>
        obtain ⟨x, ex, cc⟩ := p1 c
        subst ex
        cases d with
        | lst es =>
          obtain ⟨p, vs, ep, h1, r1⟩ := cc.lst
          subst ep
          exact call_tuple_of pins s σ H _ us Q I r ⟨p, vs, rfl, .inl ⟨SqL.of h1, pv_tup q ha r1⟩⟩
        | tup es =>
          obtain ⟨p, vs, ep, h1, r1⟩ := cc.tup
          subst ep
          exact call_tuple_of pins s σ H _ us Q I r ⟨p, vs, rfl, .inr ⟨sqT_of h1, q _ H Same.refl (show Rep tb X.K H A _ _ from ⟨p, vs, rfl, h1, r1⟩)⟩⟩
        | _ => exact q.elim
  | sum => cases ds with
    | nil => exact q.elim
    | cons d r1 => cases r1 with
      | cons _ _ => cases d <;> exact q.elim
      | nil =>
        obtain ⟨x, ex, cc⟩ := p1 c
        subst ex
        cases d with
        | lst es =>
          obtain ⟨l, e, q2⟩ := bind_ok (f := fun l => R.ok (D.int l.sum)) q
          obtain ⟨p, vs, ep, h1, r1⟩ := cc.lst
          subst ep
          rw [intsOf_eq e] at r1
          rw [repL_ints r1] at h1
          exact cr_sum hc pins s σ H _ us Q I r ⟨p, l, rfl, SqL.of h1, pv_int q2⟩
        | _ => exact q.elim
  | all => cases ds with
    | nil => exact q.elim
    | cons d r1 => cases r1 with
      | cons _ _ => cases d <;> exact q.elim
      | nil =>
        obtain ⟨x, ex, cc⟩ := p1 c
        subst ex
        cases d with
        | lst es =>
          have q' : PostV tb X.K A H ((rOpt (blsOf es)).bind fun l => R.ok (D.bl (l.all id))) Q := q
          cases e : blsOf es with
          | none => rw [e] at q'; exact q'.elim
          | some l =>
            rw [e] at q'
            obtain ⟨p, vs, ep, h1, r1⟩ := cc.lst
            subst ep
            rw [blsOf_eq e] at r1
            rw [repL_bls r1] at h1
            exact cr_all hc pins s σ H _ us Q I r ⟨p, l, rfl, SqL.of h1, pv_bl q'⟩
        | _ => exact q.elim
  | min => cases ds with
    | nil => exact q.elim
    | cons d r1 => cases r1 with
      | nil =>
        obtain ⟨x, ex, cc⟩ := p1 c
        subst ex
        cases d with
        | lst es => cases es with
          | nil => exact q.elim
          | cons z zs => cases z with
            | int i =>
              obtain ⟨l, e, q2⟩ := bind_ok (f := fun l => R.ok (D.int (minOf i l))) q
              obtain ⟨p, vs, ep, h1, r1⟩ := cc.lst
              subst ep
              rw [intsOf_eq e] at r1
              rw [repL_ints (l := i :: l) r1] at h1
              refine cr_min hc pins s σ H _ us Q I r ⟨p, i :: l, rfl, SqL.of h1, Nat.succ_pos _, fun m hm hl => ?_⟩
              obtain ⟨s1, s2⟩ := minOf_spec l i
              have e1 := hl _ s1
              have e2 := s2 _ hm
              rw [show m = minOf i l by omega]; exact pv_int q2
            | _ => exact q.elim
        | tup es => cases es with
          | nil => exact q.elim
          | cons z zs => cases z with
            | int i =>
              obtain ⟨l, e, q2⟩ := bind_ok (f := fun l => R.ok (D.int (minOf i l))) q
              obtain ⟨p, vs, ep, h1, r1⟩ := cc.tup
              subst ep
              have h1 := sqT_of h1
              rw [intsOf_eq e] at r1
              rw [repL_ints (l := i :: l) r1] at h1
              refine cr_minT hc pins s σ H _ us Q I r ⟨p, i :: l, rfl, h1, Nat.succ_pos _, fun m hm hl => ?_⟩
              obtain ⟨s1, s2⟩ := minOf_spec l i
              have e1 := hl _ s1
              have e2 := s2 _ hm
              rw [show m = minOf i l by omega]; exact pv_int q2
            | _ => exact q.elim
        | _ => exact q.elim
      | cons d2 r2 => cases r2 with
        | nil =>
          obtain ⟨x, y, ex, cc, c2⟩ := p2 c
          subst ex
          cases d with
          | int i => cases d2 with
            | int j => exact call_min2 hc pins s σ H _ us Q I r ⟨i, j, by rw [cc.int, c2.int], pv_int q⟩
            | _ => exact q.elim
          | lst es => cases es with
            | nil => exact q.elim
            | cons z zs => cases z <;> exact q.elim
          | tup es => cases es with
            | nil => exact q.elim
            | cons z zs => cases z <;> exact q.elim
          | _ => exact q.elim
        | cons _ _ => cases d with
          | lst es => cases es with
            | nil => exact q.elim
            | cons z zs => cases z <;> exact q.elim
          | tup es => cases es with
            | nil => exact q.elim
            | cons z zs => cases z <;> exact q.elim
          | int i => cases d2 <;> exact q.elim
          | _ => exact q.elim
  | max => cases ds with
    | nil => exact q.elim
    | cons d r1 => cases r1 with
      | nil =>
        obtain ⟨x, ex, cc⟩ := p1 c
        subst ex
        cases d with
        | lst es => cases es with
          | nil => exact q.elim
          | cons z zs => cases z with
            | int i =>
              obtain ⟨l, e, q2⟩ := bind_ok (f := fun l => R.ok (D.int (maxOf i l))) q
              obtain ⟨p, vs, ep, h1, r1⟩ := cc.lst
              subst ep
              rw [intsOf_eq e] at r1
              rw [repL_ints (l := i :: l) r1] at h1
              refine cr_max hc pins s σ H _ us Q I r ⟨p, i :: l, rfl, SqL.of h1, Nat.succ_pos _, fun m hm hl => ?_⟩
              obtain ⟨s1, s2⟩ := maxOf_spec l i
              have e1 := hl _ s1
              have e2 := s2 _ hm
              rw [show m = maxOf i l by omega]; exact pv_int q2
            | _ => exact q.elim
        | tup es => cases es with
          | nil => exact q.elim
          | cons z zs => cases z with
            | int i =>
              obtain ⟨l, e, q2⟩ := bind_ok (f := fun l => R.ok (D.int (maxOf i l))) q
              obtain ⟨p, vs, ep, h1, r1⟩ := cc.tup
              subst ep
              have h1 := sqT_of h1
              rw [intsOf_eq e] at r1
              rw [repL_ints (l := i :: l) r1] at h1
              refine cr_maxT hc pins s σ H _ us Q I r ⟨p, i :: l, rfl, h1, Nat.succ_pos _, fun m hm hl => ?_⟩
              obtain ⟨s1, s2⟩ := maxOf_spec l i
              have e1 := hl _ s1
              have e2 := s2 _ hm
              rw [show m = maxOf i l by omega]; exact pv_int q2
            | _ => exact q.elim
        | _ => exact q.elim
      | cons d2 r2 => cases r2 with
        | nil =>
          obtain ⟨x, y, ex, cc, c2⟩ := p2 c
          subst ex
          cases d with
          | int i => cases d2 with
            | int j => exact call_max2 hc pins s σ H _ us Q I r ⟨i, j, by rw [cc.int, c2.int], pv_int q⟩
            | _ => exact q.elim
          | lst es => cases es with
            | nil => exact q.elim
            | cons z zs => cases z <;> exact q.elim
          | tup es => cases es with
            | nil => exact q.elim
            | cons z zs => cases z <;> exact q.elim
          | _ => exact q.elim
        | cons _ _ => cases d with
          | lst es => cases es with
            | nil => exact q.elim
            | cons z zs => cases z <;> exact q.elim
          | tup es => cases es with
            | nil => exact q.elim
            | cons z zs => cases z <;> exact q.elim
          | int i => cases d2 <;> exact q.elim
          | _ => exact q.elim
end
end VE
namespace VE
open PySem PySem.Spec PyProof.Rows L2
def rDM (tb : Tb) (K : PySem.W.Frag) (f : D → List D → R D) : V → List V → Hp → VK → Prop := fun x xs H Q => ∃ A d ds, (∀ a, A a → H a ≠ none) ∧ RepC tb K H A d x ∧ Paired (RepC tb K H A) ds xs ∧ PostV tb K A H (f d ds) Q
theorem dTx_str (x : Str) : dS x.cps.toList = x := by unfold dS; simp
section
variable {tb : Tb} {X : Cx}
theorem pv_tx {A : Addr → Prop} {H : Hp} {x : Str} {Q : VK} (q : PostV tb X.K A H (.ok (dTx x)) Q) : Q (.str x) H := by
  have := pv_str (X := X) q
  rw [dTx_str] at this
  exact this
theorem mt_findD : MtR X "str.find" (rDM tb X.K (dBm .find)) := by
  intro pins s σ H x xs v us Q I rx rs h
  obtain ⟨A, d, ds, ha, c, cs, q⟩ := h
  cases d with
  | str a => cases ds with
    | nil => exact q.elim
    | cons d2 r => cases d2 with
      | str b => cases r with
        | cons _ _ => exact q.elim
        | nil =>
          obtain ⟨y, ey, cy⟩ := p1 cs
          subst ey
          exact mt_find pins s σ H x _ v us Q I rx rs ⟨dS a, dS b, c.str, by rw [cy.str], pv_int q⟩
      | _ => exact q.elim
  | _ => exact q.elim
theorem mt_indexD : MtR X "str.index" (rDM tb X.K (dBm .index)) := by
  intro pins s σ H x xs v us Q I rx rs h
  obtain ⟨A, d, ds, ha, c, cs, q⟩ := h
  cases d with
  | str a => cases ds with
    | nil => exact q.elim
    | cons d2 r => cases d2 with
      | str b => cases r with
        | cons _ _ => exact q.elim
        | nil =>
          obtain ⟨y, ey, cy⟩ := p1 cs
          subst ey
          have q' : PostV tb X.K A H (match Builtin.Str.occurrences (dS a) (dS b) 0 (dS a).length 1 with
            | i :: _ => R.ok (D.int (i : Nat))
            | [] => .bad) Q := q
          cases ho : Builtin.Str.occurrences (dS a) (dS b) 0 (dS a).length 1 with
          | nil => rw [ho] at q'; exact q'.elim
          | cons i rest =>
            rw [ho] at q'
            obtain ⟨t, rfl⟩ := (show ∃ t, v = Value.str (dS a) t by rw [c.str] at rx; exact rx)
            cases rs with
            | cons r1 rs =>
              cases rs
              obtain ⟨t2, rfl⟩ := (show ∃ t, _ = Value.str (dS b) t by rw [cy.str] at r1; exact r1)
              exact PySem.SC.index ho ⟨.int (i : Nat), H, I.tok _, ⟨_, rfl⟩, pv_int q'⟩
      | _ => exact q.elim
  | _ => exact q.elim
theorem mt_splitD : MtR X "str.split" (rDM tb X.K (dBm .split)) := by
  intro pins s σ H x xs v us Q I rx rs h
  obtain ⟨A, d, ds, ha, c, cs, q⟩ := h
  cases d with
  | str a => cases ds with
    | nil => exact q.elim
    | cons d2 r => cases d2 with
      | str b => cases r with
        | cons _ _ => exact q.elim
        | nil =>
          obtain ⟨y, ey, cy⟩ := p1 cs
          subst ey
          have q' : PostV tb X.K A H (if b.length ≠ 0 ∧ a.length + 2 ≤ SZ then R.ok (D.lst ((Txt.split (dS a) (dS b)).map dTx)) else .bad) Q := q
          obtain ⟨⟨hl1, hl2⟩, q2⟩ := ite_ok q'
          exact mt_split pins s σ H x _ v us Q I rx rs ⟨dS a, dS b, c.str, by rw [cy.str], by rw [dS_len]; simpa using hl1, by rw [dS_len, ← sz_eq]; exact hl2, pv_lst q2 (strs_repL _)⟩
      | _ => exact q.elim
  | _ => exact q.elim
theorem mt_partitionD : MtR X "str.partition" (rDM tb X.K (dBm .partition)) := by
  intro pins s σ H x xs v us Q I rx rs h
  obtain ⟨A, d, ds, ha, c, cs, q⟩ := h
  cases d with
  | str a => cases ds with
    | nil => exact q.elim
    | cons d2 r => cases d2 with
      | str b => cases r with
        | cons _ _ => exact q.elim
        | nil =>
          obtain ⟨y, ey, cy⟩ := p1 cs
          subst ey
          have q' : PostV tb X.K A H (if b.length ≠ 0 ∧ a.length ≤ SZ then R.ok (D.tup [dTx (Txt.partition (dS a) (dS b)).1, dTx (Txt.partition (dS a) (dS b)).2.1, dTx (Txt.partition (dS a) (dS b)).2.2]) else .bad) Q := q
          obtain ⟨⟨hl1, hl2⟩, q2⟩ := ite_ok q'
          exact mt_partition pins s σ H x _ v us Q I rx rs ⟨dS a, dS b, c.str, by rw [cy.str], by rw [dS_len]; simpa using hl1, by rw [dS_len, ← sz_eq]; exact hl2, pv_tup q2 ha (strs_repL [_, _, _])⟩
      | _ => exact q.elim
  | _ => exact q.elim
theorem mt_upperD : MtR X "str.upper" (rDM tb X.K (dBm .upper)) := by
  intro pins s σ H x xs v us Q I rx rs h
  obtain ⟨A, d, ds, ha, c, cs, q⟩ := h
  cases d with
  | str a => cases ds with
    | cons _ _ => exact q.elim
    | nil =>
      cases cs
      have q' : PostV tb X.K A H (if a.length ≤ 5592405 then R.ok (dTx (Txt.upper (dS a))) else .bad) Q := q
      obtain ⟨hl, q2⟩ := ite_ok q'
      exact mt_upper pins s σ H x _ v us Q I rx rs ⟨dS a, c.str, rfl, by rw [dS_len]; exact hl, pv_tx q2⟩
  | _ => exact q.elim
theorem mt_joinD : MtR X "str.join" (rDM tb X.K (dBm .join)) := by
  intro pins s σ H x xs v us Q I rx rs h
  obtain ⟨A, d, ds, ha, c, cs, q⟩ := h
  cases d with
  | str a => cases ds with
    | nil => exact q.elim
    | cons d2 r => cases d2 with
      | lst b => cases r with
        | cons _ _ => exact q.elim
        | nil =>
          obtain ⟨y, ey, cy⟩ := p1 cs
          subst ey
          have q' : PostV tb X.K A H ((rOpt (strsOf b)).bind fun l => if (l.map (·.length)).sum + l.length * a.length ≤ SZ then R.ok (dTx (Txt.join (dS a) l)) else .bad) Q := q
          cases e : strsOf b with
          | none => rw [e] at q'; exact q'.elim
          | some l =>
            rw [e] at q'
            obtain ⟨hl, q2⟩ := ite_ok q'
            obtain ⟨k, e1, e2⟩ := strsOf_eq e
            obtain ⟨p, vs, ep, h1, r1⟩ := cy.lst
            subst ep
            rw [e1] at r1
            rw [repL_strs r1, ← e2] at h1
            exact mt_join pins s σ H x _ v us Q I rx rs ⟨dS a, p, l, c.str, rfl, .inl (SqL.of h1), by rw [dS_len]; exact hl, pv_tx q2⟩
      | _ => exact q.elim
  | _ => exact q.elim
end
end VE
namespace VE
open PySem PySem.Spec PyProof.Rows L2
structure FI where
  nm : Str
  lo : Nat
  hi : Nat
  fr : Bool
  glob : Bool
  pn : List Str
structure Pg where
  tb : Tb
  fns : List FI
  cs : List (Nat × Nat)
  kws : List (Nat × List Nat)
  glo : List Str
  exs : List Nat
  isq : Bool
structure CC where
  N : List Str
  sc : Scope
  hot : Bool
  fr : Bool
  me : Bool
  G : Pg
def biName : Bi → Str
  | .len => "len" | .abs => "abs" | .int => "int" | .min => "min" | .max => "max" | .sum => "sum" | .list => "list" | .tuple => "tuple" | .ord => "ord" | .str => "str" | .all => "all" | .lrev => "list" | .isqrt => "isqrt"
def bmName : Bm → Str
  | .find => "find" | .join => "join" | .split => "split" | .partition => "partition" | .upper => "upper" | .bits => "bit_length" | .index => "index" | .lindex => "index" | .replace => "replace" | .lappend => "append" | .lextend => "extend" | .linsert => "insert" | .lpop => "pop"
def tyName : Ty → Str
  | .int => "int" | .bool => "bool" | .str => "str" | .list => "list" | .tuple => "tuple" | .non => "" | .cls _ => ""
def tyB : Ty → Bool
  | .non => false
  | .cls _ => false
  | _ => true
def bnames : List Str := ["len", "abs", "int", "min", "max", "sum", "list", "tuple", "ord", "str", "all", "range", "zip", "enumerate", "reversed", "isinstance", "bool", "ValueError"]
def visB (sc : Scope) (x : Str) : Bool := match sc.names.lookup x with
  | some .local => true
  | some .cell => true
  | some .free => true
  | _ => false
def locB (sc : Scope) (x : Str) : Bool := match sc.names.lookup x with
  | some .local => true
  | _ => false
def stoB (cel : Bool) (sc : Scope) (x : Str) : Bool := match sc.names.lookup x with
  | some .local => true
  | some .cell => cel
  | _ => false
def glB (sc : Scope) (x : Str) : Bool := match sc.names.lookup x with
  | some .globalImplicit => true
  | _ => false
def dbg (x : Str) : Bool := (x == ("__debug__" : Str)) || (x == ("__classdict__" : Str))
def isSlice : Expr → Bool
  | .Slice _ _ _ _ => true
  | _ => false
def isStar : Expr → Bool
  | .Starred _ _ => true
  | _ => false
def isCall : Expr → Bool
  | .Call (.Name id _) [] [] _ => id == ("super" : Str)
  | _ => false
def isCall0 : Expr → Bool
  | .Call (.Name id _) [] [] _ => id == ("super" : Str)
  | _ => false
def isLcE : Expr → Bool
  | .ListComp _ _ _ _ => true
  | _ => false
def bmExp : Bm → Bool
  | .find => true | .index => true | .lindex => true | .join => true | .split => true | .partition => true | .upper => true | .bits => true | _ => false
def bmZero : Bm → Bool
  | .bits => true | .upper => true | _ => false
def few (es : List Expr) : Bool := decide (es.length < 25)
def isNo : T → Bool
  | .no => true
  | _ => false
def mNm (cel : Bool) (N : List Str) (sc : Scope) (i : Nat) : Expr → Bool
  | .Name x _ => decide (N[i]? = some x) && stoB cel sc x
  | _ => false
def mNms (cel : Bool) (N : List Str) (sc : Scope) : List Nat → List Expr → Bool
  | [], [] => true
  | i :: is, e :: es => mNm cel N sc i e && mNms cel N sc is es
  | _, _ => false
def mNst (cel : Bool) (N : List Str) (sc : Scope) (n : Nat) (r : List Nat) : List Expr → Bool
  | .Tuple xs _ _ :: ys => mNms cel N sc (r.take n) xs && mNms cel N sc (r.drop n) ys
  | _ => false
def mTg (cel : Bool) (N : List Str) (sc : Scope) (tg : List Nat) (tup : Bool) (e : Expr) : Bool := match tup, e with
  | false, e => (match tg with
    | [i] => mNm cel N sc i e
    | _ => false)
  | true, .Tuple es _ _ => (match nestT tg with
    | none => mNms cel N sc tg es
    | some p => mNst cel N sc p.1 p.2 es)
  | _, _ => false
def ownP (N : List Str) (own : List Nat) : List (Str × Nat) := own.map fun i => (N.getD i Str.empty, i)
def clsB (cc : CC) (t : Nat) (z : Str) : Bool := glB cc.sc z && !dbg z && ((decide (t ∈ cc.G.exs) && decide (cc.G.tb.cls[t]? = some z)) || (decide (t = 1000) && decide (z = "ValueError")))
def mCls (cc : CC) : List Nat → List Expr → Bool
  | [], [] => true
  | t :: ts, .Name z _ :: es => clsB cc t z && mCls cc ts es
  | _, _ => false
def kwE (kws : List Keyword) : List Expr := kws.map (·.value)
def kwNm : Keyword → Option Str
  | ⟨some x, _, _⟩ => some x
  | _ => none
def kwN (pn : List Str) (kn : List Nat) (kws : List Keyword) : Bool := !kws.isEmpty && kws.all (fun k => (kwNm k).isSome) && decide (kws.length < 10) && decide (kn.map (fun i => pn[i]?) = kws.map kwNm)
def keysB : List (List Nat) → List (Option Expr) → Bool
  | [], [] => true
  | s :: ks, some (.Constant (.str x) _ _) :: es => decide (x.cps.toList = s) && keysB ks es
  | _, _ => false
def rplB : List (Nat × Nat) → Expr → Option Expr
  | [], ex => some ex
  | (y, z) :: r, ex => (match ex with
    | .Call (.Attribute o nm ap) [.Constant (.str u) _ _, .Constant (.str v) _ _] [] p => if decide (nm = ("replace" : Str)) && decide (u.cps.toList = [y]) && decide (v.cps.toList = [z]) && decide (y ≠ z) && (ap.endLine == p.line) && !isCall o then rplB r o else none
    | _ => none)
def isNilT : T → Bool
  | .nil => true
  | _ => false
def dspB (ks : List (List Nat)) (keys : List (Option Expr)) (vals : List Expr) : Bool := keysB ks keys && decide ks.Nodup && decide (keys.length = vals.length) && !keys.isEmpty && decide (keys.length ≤ 15)
mutual
def mE (cc : CC) : T → Expr → Bool
  | .v i, ex => (match ex with
    | .Name x _ => decide (cc.N[i]? = some x) && visB cc.sc x && !dbg x
    | _ => false)
  | .ci i, ex => (match ex with
    | .Constant (.int j) _ _ => decide (i = j)
    | _ => false)
  | .cb i, ex => (match ex with
    | .Constant (.bool j) _ _ => decide (i = j)
    | _ => false)
  | .cn, ex => (match ex with
    | .Constant .none _ _ => true
    | _ => false)
  | .cs s, ex => (match ex with
    | .Constant (.str x) _ _ => decide (x.cps.toList = s)
    | _ => false)
  | .g k, ex => (match ex with
    | .Name x _ => decide (cc.G.glo[k]? = some x) && glB cc.sc x && !dbg x
    | _ => false)
  | .bin op a b, ex => (match ex with
    | .BinOp x op' y _ => !cc.hot && decide (op = op') && mE cc a x && mE cc b y
    | _ => false)
  | .neg a, ex => (match ex with
    | .UnaryOp .USub x _ => mE cc a x
    | _ => false)
  | .not a, ex => (match ex with
    | .UnaryOp .Not x _ => mE cc a x
    | _ => false)
  | .and a b, ex => (match ex with
    | .BoolOp .And (x :: y :: r) pos => mE cc a x && (match r with
      | [] => mE cc b y
      | _ :: _ => mE cc b (.BoolOp .And (y :: r) pos))
    | _ => false)
  | .or a b, ex => (match ex with
    | .BoolOp .Or (x :: y :: r) pos => mE cc a x && (match r with
      | [] => mE cc b y
      | _ :: _ => mE cc b (.BoolOp .Or (y :: r) pos))
    | _ => false)
  | .ite c a b, ex => (match ex with
    | .IfExp z x y _ => mE cc c z && mE cc a x && mE cc b y
    | _ => false)
  | .cmp op a b, ex => (match ex with
    | .Compare x [op'] [y] _ => decide (op = op') && !behindInMarks op y && mE cc a x && mE cc b y
    | _ => false)
  | .chain op op2 a b c, ex => (match ex with
    | .Compare x [o1, o2] [y, z] _ => decide (op = o1) && decide (op2 = o2) && !behindInMarks op2 z && mE cc a x && mE cc b y && mE cc c z
    | _ => false)
  | .tup as, ex => (match ex with
    | .Tuple es _ _ => decide (es.length < 1000) && mL cc as es
    | _ => false)
  | .lst as, ex => (match ex with
    | .List es _ => (decide (es.length < 1000) && mL cc as es) || (decide (es.length < 100) && mLs cc as es)
    | _ => false)
  | .ix a b, ex => (match ex with
    | .Subscript x y _ => !isSlice y && mE cc a x && mE cc b y
    | _ => false)
  | .sl a lo hi, ex => (match ex with
    | .Subscript x (.Slice l h none _) _ => mE cc a x && (match l with
      | none => isNo lo
      | some l => !isNo lo && mE cc lo l) && (match h with
      | none => isNo hi
      | some h => !isNo hi && mE cc hi h)
    | _ => false)
  | .call f as, ex => (match ex with
    | .Call (.Name x _) es [] _ => !cc.hot && glB cc.sc x && !dbg x && (match cc.G.fns[f]? with
      | some F => F.glob && decide (x = F.nm) && decide (F.lo ≤ es.length) && decide (es.length ≤ F.hi)
      | none => false) && mL cc as es
    | _ => false)
  | .callk f as kn ks, ex => (match ex with
    | .Call (.Name x _) (e :: es) kws _ => !cc.hot && glB cc.sc x && !dbg x && (match cc.G.fns[f]? with
      | some F => F.glob && decide (x = F.nm) && decide ((f, kn) ∈ cc.G.kws) && decide (F.lo = (e :: es).length) && kwN F.pn kn kws
      | none => false) && mL cc as (e :: es) && mL cc ks (kwE kws)
    | _ => false)
  | .mk c as, ex => (match ex with
    | .Call (.Name x _) es [] _ => !cc.hot && glB cc.sc x && !dbg x && decide (cc.G.tb.cls[c]? = some x) && (match cc.G.cs.lookup c with
      | some f => (match cc.G.fns[f]? with
        | some F => decide (F.lo = es.length + 1)
        | none => false)
      | none => false) && mL cc as es
    | _ => false)
  | .mkk c as kn ks, ex => (match ex with
    | .Call (.Name x _) (e :: es) kws _ => !cc.hot && glB cc.sc x && !dbg x && decide (cc.G.tb.cls[c]? = some x) && (match cc.G.cs.lookup c with
      | some f => (match cc.G.fns[f]? with
        | some F => decide ((f, kn) ∈ cc.G.kws) && decide (F.lo = (e :: es).length + 1) && kwN F.pn kn kws
        | none => false)
      | none => false) && mL cc as (e :: es) && mL cc ks (kwE kws)
    | _ => false)
  | .meth m o as, ex => (match ex with
    | .Call (.Attribute x nm ap) es [] p => !cc.hot && decide (cc.G.tb.mth[m]? = some nm) && !isCall0 x && (ap.endLine == p.line) && few es && mE cc o x && mL cc as es
    | _ => false)
  | .fld f o, ex => (match ex with
    | .Attribute x nm _ => !cc.hot && decide (cc.G.tb.fld[f]? = some nm) && !isCall0 x && mE cc o x
    | _ => false)
  | .rng1 a, ex => (match ex with
    | .Call (.Name x _) [.Call (.Name y _) [e] [] _] [] _ => !cc.hot && decide (x = "list") && decide (y = "range") && glB cc.sc x && glB cc.sc y && !isStar e && mE cc a e
    | _ => false)
  | .lrev a, ex => (match ex with
    | .Call (.Name x _) [.Call (.Name y _) [e] [] _] [] _ => !cc.hot && decide (x = "list") && decide (y = "reversed") && glB cc.sc x && glB cc.sc y && !isStar e && mE cc a e
    | _ => false)
  | .bi b as, ex => (match ex with
    | .Call (.Name x _) (e :: es) [] _ => !cc.hot && biOk b && decide (x = biName b) && glB cc.sc x && mL cc as (e :: es)
    | _ => false)
  | .bm m o as, ex => (match ex with
    | .Call (.Attribute x nm ap) es [] p => !cc.hot && bmExp m && decide (nm = bmName m) && !isCall x && (ap.endLine == p.line) && few es && (bmZero m == es.isEmpty) && mE cc o x && mL cc as es
    | _ => false)
  | .isi a t, ex => (match ex with
    | .Call (.Name x _) [y, .Name z _] [] _ => decide (x = "isinstance") && glB cc.sc x && decide (z = tyName t) && glB cc.sc z && !isStar y && tyB t && mE cc a y
    | _ => false)
  | .ise i t, ex => (match ex with
    | .Call (.Name x _) [.Name y _, .Name z _] [] _ => cc.hot && decide (x = "isinstance") && glB cc.sc x && decide (cc.N[i]? = some y) && visB cc.sc y && !dbg y && clsB cc t z
    | _ => false)
  | .iseT i ts, ex => (match ex with
    | .Call (.Name x _) [.Name y _, .Tuple es _ _] [] _ => cc.hot && decide (x = "isinstance") && glB cc.sc x && decide (cc.N[i]? = some y) && visB cc.sc y && !dbg y && decide (ts.length < 1000) && mCls cc ts es
    | _ => false)
  | .isq a, ex => (match ex with
    | .Call (.Name x _) [y] [] _ => !cc.hot && cc.G.isq && decide (x = "isqrt") && glB cc.sc x && !isStar y && mE cc a y
    | _ => false)
  | .rpl lit ps a, ex => (match ex with
    | .BinOp (.Constant (.str x) _ _) .Add y _ => !cc.hot && decide (x.cps.toList = lit) && !ps.isEmpty && (match rplB ps y with
      | some o => mE cc a o
      | none => false)
    | _ => false)
  | .maxd a d, ex => (match ex with
    | .Call (.Name x _) [y] [⟨some k, .Constant (.int j) _ _, _⟩] _ => !cc.hot && decide (x = "max") && glB cc.sc x && !isStar y && decide (k = "default") && decide (j = d) && mE cc a y
    | _ => false)
  | .dsp ks as, ex => (match ex with
    | .Dict keys vals _ => !cc.hot && ((dspB ks keys vals && mL cc as vals) || (ks.isEmpty && keys.isEmpty && vals.isEmpty && isNilT as))
    | _ => false)
  | .lc own tg tup it c a, ex => (match ex with
    | .ListComp elt gens scope _ => (match gens with
      | [⟨te, iter, ifs, asy⟩] => decide (asy = 0) && !cc.hot && blkC cc.N cc.sc scope (ownP cc.N own) && decide (∀ i ∈ tg, i ∈ own) && mTg false cc.N (relS scope cc.sc) tg tup te && mI cc it te iter &&
        (match ifs with
          | [] => isNo c
          | [q] => !isNo c && mE { cc with sc := relS scope cc.sc } c q
          | _ => false) && mE { cc with sc := relS scope cc.sc } a elt
      | _ => false)
    | _ => false)
  | _, _ => false
def mL (cc : CC) : T → List Expr → Bool
  | .nil, es => (match es with
    | [] => true
    | _ => false)
  | .cons a r, es => (match es with
    | e :: es => !isStar e && mE cc a e && mL cc r es
    | _ => false)
  | _, _ => false
def mLs (cc : CC) : T → List Expr → Bool
  | .cons a r, es => (match es with
    | e :: es => !isStar e && mE cc a e && mLs cc r es
    | _ => false)
  | .itr b, es => (match es with
    | [.Starred e _] => mE cc b e
    | _ => false)
  | _, _ => false
def mI (cc : CC) : T → Expr → Expr → Bool
  | .itr a, _, ex => !isStar ex && mE cc a ex
  | .rng1 a, _, ex => (match ex with
    | .Call (.Name x _) [y] [] _ => decide (x = "range") && glB cc.sc x && !isStar y && mE cc a y
    | _ => false)
  | .rng2 a b, _, ex => (match ex with
    | .Call (.Name x _) [y, z] [] _ => decide (x = "range") && glB cc.sc x && !isStar y && !isStar z && mE cc a y && mE cc b z
    | _ => false)
  | .rng3 a b c, _, ex => (match ex with
    | .Call (.Name x _) [y, z, u] [] _ => decide (x = "range") && glB cc.sc x && !isStar y && !isStar z && !isStar u && mE cc a y && mE cc b z && mE cc c u
    | _ => false)
  | .zip a b, tg, ex => (match tg, ex with
    | .Tuple _ _ _, .Call (.Name x _) [y, z] [] _ => decide (x = "zip") && glB cc.sc x && !isStar y && !isStar z && mE cc a y && mE cc b z
    | _, _ => false)
  | .enum a, tg, ex => (match tg, ex with
    | .Tuple _ _ _, .Call (.Name x _) [y] [] _ => decide (x = "enumerate") && glB cc.sc x && !isStar y && mE cc a y
    | _, _ => false)
  | .rev a, _, ex => (match ex with
    | .Call (.Name x _) [y] [] _ => decide (x = "reversed") && glB cc.sc x && !isStar y && mE cc a y
    | _ => false)
  | _, _, _ => false
end
end VE
namespace VE
open PySem PySem.Spec PyProof.Rows L2
def PostF (tb : Tb) (K : PySem.W.Frag) (fr : Bool) (Xs : Addr → Prop) (H : Hp) (r : R D) (Q : VK) (E : XK) : Prop := match r with
  | .ok d => ∀ v H', Same H H' → RepM tb K (if fr then .fresh else .share) H H' Xs d v → Q v H'
  | .exc k => ∀ H', Same H H' → E (.ref (cAd tb K k)) none H'
  | .bad => False
def spV (tb : Tb) (K : PySem.W.Frag) (fr : Bool) (n : Nat) (r : List D → R D) : Sp := fun vs H Q E => ∃ Xs ds, ds.length = n ∧ (∀ a, Xs a → H a ≠ none) ∧ RepL tb K H Xs ds vs ∧ PostF tb K fr Xs H (r ds) Q E
def PostMu (tb : Tb) (K : PySem.W.Frag) (fr : Bool) (Xs : Addr → Prop) (a : Addr) (H : Hp) (r : R D) (Q : VK) (E : XK) : Prop := match r with
  | .ok (.tup [d, s]) => ∀ v H', Evo (fun b => b = a) H (fun b => b = a) H' → RepO tb K H' (fun b => (Xs b ∨ b = a) ∨ (fr = true ∧ ownable d = true ∧ v = .ref b)) a s → RepM tb K (if fr then .fresh else .share) H H' (fun b => Xs b ∨ b = a) d v → Q v H'
  | .exc k => ∀ H', Evo (fun b => b = a) H (fun b => b = a) H' → E (.ref (cAd tb K k)) none H'
  | _ => False
def spM (tb : Tb) (K : PySem.W.Frag) (fr : Bool) (n : Nat) (r : List D → R D) : Sp := fun vs H Q E => ∃ (Xs : Addr → Prop) (a : Addr) (d0 : D) (ds : List D) (vs' : List V), vs = .ref a :: vs' ∧ ds.length + 1 = n ∧ (∀ b, Xs b → H b ≠ none) ∧ ¬ Xs a ∧
  RepO tb K H (fun b => Xs b ∨ b = a) a d0 ∧ RepL tb K H (fun b => Xs b ∨ b = a) ds vs' ∧ PostMu tb K fr Xs a H (r (d0 :: ds)) Q E
def mtN (tb : Tb) (m : Nat) : Str := tb.mth.getD m Str.empty
def CallF (X : Cx) (c : Fx) (f : Nat) (x : Str) (n : Nat) (fr : Bool) : Prop :=
  ∃ (fa : Addr) (fd : FuncData) (ps : List Str) (sp : Sp) (dvs : List V) (ds : List Value) (k : Nat), Room k X.A ∧ X.mg x = some (.ref fa) ∧ PySem.W.keepIn X.K (.ref fa) = true ∧
    FnOk X.prog X.w X.K X.mg X.base (L2.CX X.prog X.w) k fa fd ps sp ∧ Binds X.K fd ps ds ∧ Vals dvs ds ∧ ∀ vs H Q E, spV c.tb c.K fr n (c.cl.fn f) vs H Q E → sp (vs ++ dvs) H Q E
def CallK (X : Cx) (c : Fx) (f : Nat) (x : Str) (F : FI) (kn : List Nat) : Prop :=
  ∃ (fa : Addr) (fd : FuncData) (ps ks : List Str) (sp : Sp) (k : Nat) (g : List Value → List Value → List Value) (gV : List V → List V → List V), Room k X.A ∧ X.mg x = some (.ref fa) ∧ PySem.W.keepIn X.K (.ref fa) = true ∧
    FnOk X.prog X.w X.K X.mg X.base (L2.CX X.prog X.w) k fa fd ps sp ∧ KBn X.K fd ps F.lo ks g gV ∧ kn.map (fun i => F.pn[i]?) = ks.map some ∧
    ∀ (Xs : Addr → Prop) (ds zs l : List D) (vs ws : List V) H Q E, (∀ a, Xs a → H a ≠ none) → ds.length = F.lo → RepL c.tb c.K H Xs ds vs → RepL c.tb c.K H Xs zs ws → c.cl.kwf f kn ds zs = some l → PostF c.tb c.K F.fr Xs H (c.cl.fn f l) Q E → sp (gV vs ws) H Q E
def InitF (X : Cx) (c : Fx) (cls f : Nat) (x : Str) (F : FI) : Prop :=
  ∃ (fa : Addr) (fd : FuncData) (ps : List Str) (sp : Sp) (dvs : List V) (ds : List Value) (k : Nat), Mk X.K (cAd c.tb c.K cls) fa ∧ Room (k + 1) X.A ∧ X.mg x = some (.ref (cAd c.tb c.K cls)) ∧
    FnOk X.prog X.w X.K X.mg X.base (L2.CX X.prog X.w) k fa fd ps sp ∧ Binds X.K fd ps ds ∧ Vals dvs ds ∧ ∀ vs H Q E, spM c.tb c.K F.fr F.lo (c.cl.fn f) vs H Q E → sp (vs ++ dvs) H Q E
def InitK (X : Cx) (c : Fx) (cls f : Nat) (x : Str) (F : FI) (kn : List Nat) : Prop :=
  ∃ (fa : Addr) (fd : FuncData) (ps ks : List Str) (sp : Sp) (k : Nat) (g : List Value → List Value → List Value) (gV : List V → List V → List V), Mk X.K (cAd c.tb c.K cls) fa ∧ Room (k + 1) X.A ∧ X.mg x = some (.ref (cAd c.tb c.K cls)) ∧
    FnOk X.prog X.w X.K X.mg X.base (L2.CX X.prog X.w) k fa fd ps sp ∧ KBn X.K fd ps F.lo ks g gV ∧ kn.map (fun i => F.pn[i]?) = ks.map some ∧
    ∀ (Xs : Addr → Prop) (a : Addr) (d0 : D) (ds zs l : List D) (vs ws : List V) H Q E, (∀ b, Xs b → H b ≠ none) → ¬ Xs a → RepO c.tb c.K H (fun b => Xs b ∨ b = a) a d0 → ds.length + 1 = F.lo → RepL c.tb c.K H (fun b => Xs b ∨ b = a) ds vs → RepL c.tb c.K H (fun b => Xs b ∨ b = a) zs ws →
      c.cl.kwf f kn (d0 :: ds) zs = some l → PostMu c.tb c.K F.fr Xs a H (c.cl.fn f l) Q E → sp (gV (.ref a :: vs) ws) H Q E
def MethF (X : Cx) (c : Fx) (cls m f : Nat) (mu : Bool) : Prop :=
  Cls X.K (cAd c.tb c.K cls) ∧ ∃ (fr : Bool) (fa : Addr) (fd : FuncData) (ps : List Str) (sp : Sp) (k n : Nat), Meth X.K (cAd c.tb c.K cls) (mtN c.tb m) fa ∧ Room k X.A ∧ FnOk X.prog X.w X.K X.mg X.base (L2.CX X.prog X.w) k fa fd ps sp ∧ Binds X.K fd ps [] ∧ c.cl.frf f = fr ∧
    (∀ ds, c.cl.fn f ds ≠ .bad → ds.length = n) ∧ ∀ vs H Q E, (if mu then spM c.tb c.K fr n (c.cl.fn f) vs H Q E else spV c.tb c.K fr n (c.cl.fn f) vs H Q E) → sp vs H Q E
structure PlrS (X : Cx) : Prop where
  seer : X.base.NoSeer
  tree : X.prog.given.tree = none
  dp : X.A.depth + Builtin.pylongFrames < recursionLimit
  fr : ∃ (env : Env) (l : List Env), X.stack = env :: l ∧ env.scope.isGenerator = false ∧ env.scope.isCoroutine = false ∧ env.builtins = builtinsNs ∧ env.globals = mainGlobals
theorem plr_of {X : Cx} (h : PlrS X) : Plr X := fun pins s σ H I => by
  obtain ⟨env, l, f1, f2, f3, f4, f5⟩ := h.fr
  exact PySem.PylongRoom.of I.nolimit h.dp (PySem.SeerAt.of (h.seer.keeps I.bk) h.tree (by rw [I.ok.frames, f1]) f2 f3 f4 f5)
def clsV (tb : Tb) (K : PySem.W.Frag) (t : Nat) : Value := if t = 1000 then .type "ValueError" else .ref (cAd tb K t)
def rIsET (K : PySem.W.Frag) (D a : Addr) : List V → Hp → VK → Prop := fun xs H Q => ∃ (tp : Addr) (cs : List V) (us : List Value) (b : Bool), xs = [.ref a, .ref tp] ∧ H tp = some (.tup cs) ∧ Paired ClsV cs us ∧ PySem.W.kitAny K (.ref D) us = some b ∧ Q (.bl b) H
theorem call_isET {X : Cx} {a D : Addr} {oe : Obj} {pn : List (Addr × Obj)} (C : ExcC X.K D) (hz : Zc (.ref D) none oe) (hf : ∃ vs, oe.data = .fields vs) : CallR (X.suite a ((a, oe) :: pn)) (.builtin "isinstance") (rIsET X.K D a) := by
  intro pins s σ H xs us Q I r h
  obtain ⟨tp, cs, ws, b, rfl, hT, k, e, q⟩ := h
  obtain ⟨u1, u2, rfl, r1, r2⟩ := vals2 r
  cases (show u1 = Value.ref a from r1)
  cases (show u2 = Value.ref tp from r2)
  obtain ⟨hget, _⟩ := I.pin (a, oe) (List.mem_append.mpr (.inl List.mem_cons_self))
  obtain ⟨vs, hv⟩ := hf
  have J : PySem.W.InstAt s.heap a oe D none := by
    obtain ⟨oc, od, oda, osl⟩ := oe
    obtain ⟨h1, h2⟩ := hz
    dsimp only at h1 h2 hv
    subst h1 h2 hv
    exact ⟨hget, rfl, rfl, trivial⟩
  obtain ⟨_, its, rv, o, h1, h2, n, h3⟩ := (show ObjOk X.prog X.w H s.heap tp (.tup cs) from I.hok tp _ hT)
  have e3 := ClsV.all k rv
  subst e3
  obtain ⟨oc, od, dt, sl⟩ := o
  simp only at h2 h3
  subst h2 h3
  exact PySem.W.kia_tup (PySem.W.handS_kitx_exc C.hg C.hk C.hs C.hd C.ha C.hn C.ht C.hm) I.kIn J h1 e (fun z => nomatch z) fun tk => ⟨.bl b, H, I.kept (t' := tk) fun _ _ z => z, rfl, q⟩
structure XOk (cc : CC) (X : Cx) (c : Fx) : Prop where
  hN : X.N = cc.N
  nd : cc.N.Nodup
  sc : X.env.scope = cc.sc
  K : c.K = X.K
  tb : c.tb = cc.G.tb
  tk : Takes X c.W
  un : X.A.units + 65 < cLine
  plr : cc.hot = false → PlrS X
  bn : ∀ x ∈ bnames, X.mg x = none
  gl : ∀ (k : Nat) (x : Str) (d : D), cc.G.glo[k]? = some x → c.cl.gl k = some d → ∃ u v, X.mg x = some u ∧ RelV v u ∧ ∀ H A, Rep c.tb c.K H A d v
  cls : ∀ (t : Nat) (z : Str), t ∈ cc.G.exs → cc.G.tb.cls[t]? = some z → X.mg z = some (.ref (cAd c.tb c.K t))
  kit : ∀ (k t : Nat), k ∈ cc.G.exs → t ∈ cc.G.exs ∨ t = 1000 → PySem.W.kitOne X.K (.ref (cAd c.tb c.K k)) (clsV c.tb c.K t) = some (c.cl.su k t)
  big : ∀ t ∈ cc.G.exs, t ≠ 1000
  ise : cc.hot = true → ∀ (a : Addr) (k : Nat), c.EX a k → k ∈ cc.G.exs ∧ CallR X (.builtin "isinstance") (rIsE X.K (cAd c.tb c.K k) a) ∧ CallR X (.builtin "isinstance") (rIsET X.K (cAd c.tb c.K k) a)
  calm : cc.hot = false → X.calm = true
  fn : cc.hot = false → ∀ (f : Nat) (F : FI) (n : Nat), cc.G.fns[f]? = some F → F.glob = true → F.lo ≤ n → n ≤ F.hi → CallF X c f F.nm n F.fr
  me : cc.me = false → ∀ a, ¬ c.SA a
  fok : ∀ (k f : Nat), c.cl.fok k f = true → Cls X.K (cAd c.tb c.K k) ∧ NoAttr X.K (cAd c.tb c.K k) (fNm c.tb f) ∧ f < c.tb.fld.length
  fnd : c.tb.fld.Nodup ∧ Str.empty ∉ c.tb.fld
  dc : Dcs c.tb X
  isq : cc.G.isq = true → X.mg "isqrt" = some (.builtin "math.isqrt")
  mok : ∀ (k m : Nat), c.cl.mt k m ≠ none → mtN c.tb m ≠ Str.empty ∧ mtN c.tb m ∉ c.tb.fld
  ini : cc.hot = false → ∀ (k f : Nat) (x : Str) (F : FI), cc.G.cs.lookup k = some f → cc.G.fns[f]? = some F → cc.G.tb.cls[k]? = some x → c.cl.ini k = some f ∧ InitF X c k f x F
  inik : cc.hot = false → ∀ (k f : Nat) (x : Str) (F : FI) (kn : List Nat), cc.G.cs.lookup k = some f → cc.G.fns[f]? = some F → cc.G.tb.cls[k]? = some x → (f, kn) ∈ cc.G.kws → InitK X c k f x F kn
  kwc : cc.hot = false → ∀ (f : Nat) (F : FI) (kn : List Nat), cc.G.fns[f]? = some F → F.glob = true → (f, kn) ∈ cc.G.kws → CallK X c f F.nm F kn
  mt : cc.hot = false → ∀ (k m f : Nat) (mu : Bool), c.cl.mt k m = some (f, mu) → MethF X c k m f mu
section
variable {cc : CC} {X : Cx} {c : Fx}
theorem vis_of {sc : Scope} {x : Str} (h : visB sc x = true) : Vis sc x := by
  unfold visB at h
  unfold Vis
  split at h <;> first | exact .inl (by assumption) | exact .inr (.inl (by assumption)) | exact .inr (.inr (by assumption)) | cases h
theorem XOk.vis (o : XOk cc X c) {x : Str} (h : visB cc.sc x = true) : Vis X.env.scope x := by rw [o.sc]; exact vis_of h
theorem XOk.glo (o : XOk cc X c) {x : Str} (h : glB cc.sc x = true) : Gl X x := by
  show X.env.scope.names.lookup x = some .globalImplicit
  rw [o.sc]
  unfold glB at h
  split at h
  · assumption
  · cases h
theorem loc_of {sc : Scope} {x : Str} (h : locB sc x = true) : sc.names.lookup x = some .local := by
  unfold locB at h
  split at h
  · assumption
  · cases h
theorem XOk.slot (o : XOk cc X c) {x : Str} {i : Nat} (h : cc.N[i]? = some x) : X.N[i]? = some x := by rw [o.hN]; exact h
theorem dbg_no {x : Str} (h : dbg x = false) : (x == ("__debug__" : Str)) = false ∧ (x == ("__classdict__" : Str)) = false := by
  unfold dbg at h
  exact Bool.or_eq_false_iff.mp h
theorem bang {b : Bool} (h : (!b) = true) : b = false := by cases b <;> first | rfl | cases h
theorem and2 {a b : Bool} (h : (a && b) = true) : a = true ∧ b = true := Bool.and_eq_true_iff.mp h
theorem rep_v (o : XOk cc X c) {i : Nat} {x : Str} {pos : Pos} (hi : cc.N[i]? = some x) (hv : visB cc.sc x = true) (hd : dbg x = false) : PEm X c (.Name x pos) (.v i) false := by
  have base := pe_var (X := X) (pos := pos) (o.slot hi) (o.vis hv) (dbg_no hd).1 (dbg_no hd).2
  refine ⟨pe_weak base fun σ H Q ⟨e, he, q⟩ => ?_, pe_weak base fun σ H Q ⟨e, he, q⟩ => ?_, fun z => by cases z⟩
  · have ev : evX c.cl (lk .look) (.v i) e = (match e[i]? with | some (.val d o) => R.ok d | _ => .bad) := by
      show (match e[i]? with | some (.val d o) => if o && !true then R.bad else .ok d | _ => .bad) = _
      cases e[i]? with
      | none => rfl
      | some s => cases s <;> simp
    rw [ev] at q
    cases z : e[i]? with
    | none => rw [z] at q; exact q.elim
    | some s =>
      rw [z] at q
      cases s with
      | emp => exact q.elim
      | exn _ => exact q.elim
      | val d ow =>
        cases ow with
        | false => obtain ⟨v, h1, h2⟩ := he.val i d z; exact ⟨v, h1, q v H Same.refl (.inl h2)⟩
        | true => obtain ⟨a, h1, _, h2⟩ := he.own i d z; exact ⟨_, h1, q _ H Same.refl (.inr ⟨a, rfl, h2⟩)⟩
  · have ev : evX c.cl (lk .share) (.v i) e = (match e[i]? with | some (.val d o) => if o then R.bad else .ok d | _ => .bad) := by
      show (match e[i]? with | some (.val d o) => if o && !false then R.bad else .ok d | _ => .bad) = _
      cases e[i]? with
      | none => rfl
      | some s => cases s <;> simp
    rw [ev] at q
    cases z : e[i]? with
    | none => rw [z] at q; exact q.elim
    | some s =>
      rw [z] at q
      cases s with
      | emp => exact q.elim
      | exn _ => exact q.elim
      | val d ow =>
        cases ow with
        | false => obtain ⟨v, h1, h2⟩ := he.val i d z; exact ⟨v, h1, q v H Same.refl h2⟩
        | true => exact q.elim
theorem pem_c {ex : Expr} {t : T} {d : D} {v : V} (nv : isV t = false) (ev : ∀ e, evX c.cl false t e = .ok d) (h : PE X ex (tC v)) (r : ∀ H0 H A, RepF c.tb c.K H0 H A d v) : PEm X c ex t true :=
  PEm.ofFresh nv (pe_weak h fun σ H Q ⟨e, he, q⟩ => by
    rw [show evX c.cl (lk .fresh) t e = .ok d from ev e] at q
    exact q v H Same.refl (r _ _ _))
theorem rep_ci {i : Int} {j : Nat} {pos : Pos} : PEm X c (.Constant (.int i) j pos) (.ci i) true := pem_c rfl (fun _ => rfl) pe_int fun _ _ _ => rfl
theorem rep_cb {i : Bool} {j : Nat} {pos : Pos} : PEm X c (.Constant (.bool i) j pos) (.cb i) true := pem_c rfl (fun _ => rfl) pe_bl fun _ _ _ => rfl
theorem rep_cn {j : Nat} {pos : Pos} : PEm X c (.Constant .none j pos) .cn true := pem_c rfl (fun _ => rfl) pe_non fun _ _ _ => rfl
theorem rep_cs {s : List Nat} {x : Str} {j : Nat} {pos : Pos} (h : x.cps.toList = s) : PEm X c (.Constant (.str x) j pos) (.cs s) true := pem_c rfl (fun _ => rfl) pe_str fun _ _ _ => by
  show V.str x = .str (dS s)
  rw [← h, dTx_str]
theorem rep_g (o : XOk cc X c) {k : Nat} {x : Str} {pos : Pos} (hk : cc.G.glo[k]? = some x) (hg : glB cc.sc x = true) (hd : dbg x = false) : PEm X c (.Name x pos) (.g k) false := by
  refine PEm.ofShare rfl ?_
  cases z : c.cl.gl k with
  | none => exact ⟨fun pins s σ H Q I ⟨e, he, q⟩ => False.elim (by
      have : evX c.cl (lk .share) (.g k) e = .bad := by show rOpt (c.cl.gl k) = _; rw [z]; rfl
      rw [this] at q; exact q)⟩
  | some d =>
    obtain ⟨u, v, h1, h2, h3⟩ := o.gl k x d hk z
    refine pe_weak (pe_glob (o.glo hg) h1 h2 (dbg_no hd).1) fun σ H Q ⟨e, he, q⟩ => ?_
    have : evX c.cl (lk .share) (.g k) e = .ok d := by show rOpt (c.cl.gl k) = _; rw [z]; rfl
    rw [this] at q
    exact q v H Same.refl (h3 _ _)
theorem EnvOk.av_same {H H' : Hp} {σ : L2.St} {e : Ev} (h : EnvOk c H σ e) (s : Same H H') : ∀ a, AV c.Xs e σ a → H' a ≠ none := (h.same s).av
theorem Same.trans {H H1 H2 : Hp} (a : Same H H1) (b : Same H1 H2) : Same H H2 := fun x o h => b x o (a x o h)
theorem RepF.back {tb : Tb} {K : PySem.W.Frag} {H0 H1 H : Hp} {A : Addr → Prop} {d : D} {v : V} (s : Same H0 H1) (h : RepF tb K H1 H A d v) : RepF tb K H0 H A d v := by
  have aux : ∀ {a : Addr}, H1 a = none → H0 a = none := fun {a} n => by
    cases z : H0 a with
    | none => rfl
    | some o => rw [s a o z] at n; cases n
  cases d with
  | lst ds => obtain ⟨a, e, n, r⟩ := h; exact ⟨a, e, aux n, r⟩
  | obj k fs ds => obtain ⟨a, e, n, r⟩ := h; exact ⟨a, e, aux n, r⟩
  | _ => exact h
theorem RepM.back {tb : Tb} {K : PySem.W.Frag} {m : Md} {H0 H1 H : Hp} {A : Addr → Prop} {d : D} {v : V} (s : Same H0 H1) (h : RepM tb K m H1 H A d v) : RepM tb K m H0 H A d v := by
  cases m with
  | look => exact h
  | share => exact h
  | fresh => exact RepF.back s h
theorem Post.later {m : Md} {σ : L2.St} {H H1 : Hp} {e : Ev} {r : R D} {Q : VK} (s : Same H H1) (h : Post c m σ H e r Q) : Post c m σ H1 e r Q := by
  cases r with
  | ok d => exact fun v H' s' r => h v H' (s.trans s') (r.back s)
  | exc k => exact fun H' s' => h H' (s.trans s')
  | bad => exact h
theorem PostT.later {σ : L2.St} {H H1 : Hp} {r : R Bool} {Q : Bool → Hp → Prop} (s : Same H H1) (h : PostT c σ H r Q) : PostT c σ H1 r Q := by
  cases r with
  | ok d => exact fun H' s' => h H' (s.trans s')
  | exc k => exact fun H' s' => h H' (s.trans s')
  | bad => exact h
theorem PostL.later {m : Md} {σ : L2.St} {H H1 : Hp} {e : Ev} {r : R (List D)} {Q : List V → Hp → Prop} (s : Same H H1) (h : PostL c m σ H e r Q) : PostL c m σ H1 e r Q := by
  cases r with
  | ok d => exact fun v H' s' r => h v H' (s.trans s') r
  | exc k => exact fun H' s' => h H' (s.trans s')
  | bad => exact h
theorem PostM.of {m : Md} {σ : L2.St} {H H1 : Hp} {e : Ev} {r : R D} {Q : VK} (s : Same H H1) (ne : ∀ k, r ≠ .exc k) (h : Post c m σ H e r Q) : PostM m c.tb c.K (AV c.Xs e σ) H1 r Q := by
  cases r with
  | ok d => exact fun v H' s' r => h v H' (s.trans s') (r.back s)
  | exc k => exact absurd rfl (ne k)
  | bad => exact h
theorem Post.step {m : Md} {σ : L2.St} {H : Hp} {e : Ev} {r : R D} {k : D → R D} {m' : Md} {Q : VK} (h : Post c m' σ H e (r.bind k) Q) {Q' : VK}
    (q : ∀ d v H', Same H H' → RepM c.tb c.K m H H' (AV c.Xs e σ) d v → Post c m' σ H' e (k d) Q → Q' v H') : Post c m σ H e r Q' := by
  cases r with
  | ok d => exact fun v H' s r => q d v H' s r (Post.later s h)
  | exc c => exact h
  | bad => exact h
theorem Post.stepL {m : Md} {σ : L2.St} {H : Hp} {e : Ev} {r : R D} {k : D → R (List D)} {m' : Md} {Q : List V → Hp → Prop} (h : PostL c m' σ H e (r.bind k) Q) {Q' : VK}
    (q : ∀ d v H', Same H H' → RepM c.tb c.K m H H' (AV c.Xs e σ) d v → PostL c m' σ H' e (k d) Q → Q' v H') : Post c m σ H e r Q' := by
  cases r with
  | ok d => exact fun v H' s r => q d v H' s r (PostL.later s h)
  | exc c => exact h
  | bad => exact h
theorem PostL.step {m : Md} {σ : L2.St} {H : Hp} {e : Ev} {r : R (List D)} {k : List D → R D} {m' : Md} {Q : VK} (h : Post c m' σ H e (r.bind k) Q) {Q' : List V → Hp → Prop}
    (q : ∀ ds vs H', Same H H' → RepLM c.tb c.K m H' (AV c.Xs e σ) ds vs → Post c m' σ H' e (k ds) Q → Q' vs H') : PostL c m σ H e r Q' := by
  cases r with
  | ok d => exact fun v H' s r => q d v H' s r (Post.later s h)
  | exc c => exact h
  | bad => exact h
theorem PostL.stepE {m : Md} {σ : L2.St} {H : Hp} {e : Ev} {r : R (List D)} {k : List D → R D} {m' : Md} {Q : VK} (h : Post c m' σ H e (r.bind k) Q) {Q' : List V → Hp → Prop}
    (q : ∀ ds vs H', r = .ok ds → Same H H' → RepLM c.tb c.K m H' (AV c.Xs e σ) ds vs → Post c m' σ H' e (k ds) Q → Q' vs H') : PostL c m σ H e r Q' := by
  cases r with
  | ok d => exact fun v H' s r => q d v H' rfl s r (Post.later s h)
  | exc c => exact h
  | bad => exact h
theorem PostL.stepL {m : Md} {σ : L2.St} {H : Hp} {e : Ev} {r : R (List D)} {k : List D → R (List D)} {m' : Md} {Q : List V → Hp → Prop} (h : PostL c m' σ H e (r.bind k) Q) {Q' : List V → Hp → Prop}
    (q : ∀ ds vs H', Same H H' → RepLM c.tb c.K m H' (AV c.Xs e σ) ds vs → PostL c m' σ H' e (k ds) Q → Q' vs H') : PostL c m σ H e r Q' := by
  cases r with
  | ok d => exact fun v H' s r => q d v H' s r (PostL.later s h)
  | exc c => exact h
  | bad => exact h
theorem PostT.step {σ : L2.St} {H : Hp} {e : Ev} {r : R Bool} {k : Bool → R D} {m' : Md} {Q : VK} (h : Post c m' σ H e (r.bind k) Q) {Q' : Bool → Hp → Prop}
    (q : ∀ b H', Same H H' → Post c m' σ H' e (k b) Q → Q' b H') : PostT c σ H r Q' := by
  cases r with
  | ok d => exact fun H' s => q d H' s (Post.later s h)
  | exc c => exact h
  | bad => exact h
theorem PostT.stepT {σ : L2.St} {H : Hp} {r : R Bool} {k : Bool → R Bool} {Q : Bool → Hp → Prop} (h : PostT c σ H (r.bind k) Q) {Q' : Bool → Hp → Prop}
    (q : ∀ b H', Same H H' → PostT c σ H' (k b) Q → Q' b H') : PostT c σ H r Q' := by
  cases r with
  | ok d => exact fun H' s => q d H' s (PostT.later s h)
  | exc c => exact h
  | bad => exact h
end
end VE
namespace VE
open PySem PySem.Spec PyProof.Rows L2
theorem bind_ne {a b : Type} {r : R a} {k : a → R b} {n : Nat} (h : r.bind k = .exc n) : r = .exc n ∨ ∃ x, r = .ok x ∧ k x = .exc n := by
  cases r with
  | ok x => exact .inr ⟨x, rfl, h⟩
  | exc c => exact .inl (by cases h; rfl)
  | bad => cases h
theorem rOpt_ne {a : Type} {o : Option a} {n : Nat} : rOpt o ≠ .exc n := by cases o <;> intro h <;> cases h
theorem ite_ne {a : Type} {p : Prop} [Decidable p] {x y : R a} {n : Nat} (hx : x ≠ .exc n) (hy : y ≠ .exc n) : (if p then x else y) ≠ .exc n := by split <;> assumption
theorem ok_ne {a : Type} {x : a} {n : Nat} : R.ok x ≠ .exc n := fun h => nomatch h
theorem bad_ne {a : Type} {n : Nat} : (R.bad : R a) ≠ .exc n := fun h => nomatch h
theorem dBin_ne (op : Operator) (x y : D) (n : Nat) : dBin op x y ≠ .exc n := by
  unfold dBin
  split <;> first | exact ok_ne | exact bad_ne | exact ite_ne ok_ne bad_ne | exact ite_ne bad_ne ok_ne
theorem dEq_ne (x y : D) (n : Nat) : dEq x y ≠ .exc n := by unfold dEq; exact ite_ne ok_ne bad_ne
theorem dIn_ne (x y : D) (n : Nat) : dIn x y ≠ .exc n := by
  unfold dIn
  split <;> first | exact ite_ne ok_ne bad_ne | exact bad_ne | skip
  all_goals (split <;> first | exact ok_ne | exact bad_ne | exact ite_ne ok_ne bad_ne)
theorem rBl_ne {r : R Bool} {n : Nat} (h : ∀ n, r ≠ .exc n) : rBl r ≠ .exc n := by
  cases r with
  | ok b => exact ok_ne
  | exc c => exact absurd rfl (h c)
  | bad => exact bad_ne
theorem rNot_ne {r : R Bool} {n : Nat} (h : ∀ n, r ≠ .exc n) : rNot r ≠ .exc n := by
  cases r with
  | ok b => exact ok_ne
  | exc c => exact absurd rfl (h c)
  | bad => exact bad_ne
theorem dCmp_ne (op : CmpOp) (x y : D) (n : Nat) : dCmp op x y ≠ .exc n := by
  unfold dCmp
  split <;> first | exact ok_ne | exact bad_ne | exact rBl_ne (dEq_ne _ _) | exact rNot_ne (dEq_ne _ _) | exact rBl_ne (dIn_ne _ _) | exact rNot_ne (dIn_ne _ _)
theorem dNeg_ne (x : D) (n : Nat) : dNeg x ≠ .exc n := by unfold dNeg; split <;> first | exact ok_ne | exact bad_ne
theorem dIx_ne (x y : D) (n : Nat) : dIx x y ≠ .exc n := by
  unfold dIx
  split <;> first | exact rOpt_ne | exact bad_ne | exact ite_ne rOpt_ne bad_ne | skip
  all_goals (split <;> first | exact rOpt_ne | exact bad_ne | exact ite_ne rOpt_ne bad_ne)
theorem dSl_ne (x : D) (l h : Option Int) (n : Nat) : dSl x l h ≠ .exc n := by
  unfold dSl
  split <;> first | exact ok_ne | exact bad_ne | exact ite_ne ok_ne bad_ne
section
variable {cc : CC} {X : Cx} {c : Fx} {a b d : T} {x y z : Expr} {pos : Pos}
theorem RepM.look {tb : Tb} {K : PySem.W.Frag} {H0 H : Hp} {A : Addr → Prop} {d : D} {v : V} (h : RepM tb K .look H0 H A d v) : RepC tb K H A d v := h
theorem Post.tst {σ : L2.St} {H : Hp} {e : Ev} {r : R D} {Q : Bool → Hp → Prop} (h : PostT c σ H (tst r) Q) : Post c .look σ H e r (fun v H1 => ∃ k, v = .bl k ∧ Q k H1) := by
  cases r with
  | ok d => cases d with
    | bl k => exact fun v H' s r => ⟨k, r.look.bl, h H' s⟩
    | _ => exact h.elim
  | exc k => exact h
  | bad => exact h
theorem two {m : Md} {f : D → D → R D} {σ : L2.St} {H : Hp} {e : Ev} {Q : VK} (ne : ∀ x y k, f x y ≠ .exc k) (he : EnvOk c H σ e)
    (q : Post c m σ H e ((evX c.cl true a e).bind fun x => (evX c.cl true b e).bind fun y => f x y) Q) : tOp (rD2 m c.tb c.K f) (tX c .look a) (tX c .look b) σ H Q :=
  ⟨e, he, q.step fun d1 v1 H1 s1 r1 q1 => ⟨e, he.same s1, q1.step fun d2 v2 H2 s2 r2 q2 => ⟨AV c.Xs e σ, d1, d2, ((he.same s1).same s2).av, r1.look.evo (Evo.same s2) s2, r2, PostM.of Same.refl (ne d1 d2) q2⟩⟩⟩
theorem rule_bin (o : XOk cc X c) (hh : cc.hot = false) (op : Operator) (ha : PE X x (tX c .look a)) (hb : PE X y (tX c .look b)) : PEm X c (.BinOp x op y pos) (.bin op a b) true := by
  have h := op_bin (tb := c.tb) (plr_of (o.plr hh)) op
  rw [← o.K] at h
  exact PEm.ofFresh rfl (pe_weak (pe_op h ha hb) fun σ H Q ⟨e, he, q⟩ => two (dBin_ne op) he q)
theorem rule_cmp (o : XOk cc X c) (op : CmpOp) (hm : behindInMarks op y = false) (ha : PE X x (tX c .look a)) (hb : PE X y (tX c .look b)) : PEm X c (.Compare x [op] [y] pos) (.cmp op a b) true ∧ PT X (.Compare x [op] [y] pos) (tXT c (.cmp op a b)) := by
  have h := op_cmp (tb := c.tb) o.dc o.un op
  rw [← o.K] at h
  refine ⟨PEm.ofFresh rfl (pe_weak (pe_cmpR h ha hb hm) fun σ H Q ⟨e, he, q⟩ => two (dCmp_ne op) he q), pt_weak (pt_cmpR h ha hb hm) fun σ H Q ⟨e, he, q⟩ => ?_⟩
  exact two (dCmp_ne op) he (m := .fresh) (fresh_of (Post.tst q))
where
  fresh_of {σ : L2.St} {H : Hp} {e : Ev} {r : R D} {Q : Bool → Hp → Prop} (q : Post c .look σ H e r (fun v H1 => ∃ k, v = .bl k ∧ Q k H1)) : Post c .fresh σ H e r (fun v H1 => ∃ k, v = .bl k ∧ Q k H1) := by
    cases r with
    | ok d => cases d with
      | bl k => exact fun v H' s r => q v H' s (.inl r)
      | lst ds => exact fun v H' s ⟨p, e, n, r⟩ => q v H' s (.inr ⟨p, e, r.evo' (Evo.less fun _ z => .inl z) fun _ z => z⟩)
      | obj _ _ _ => exact fun v H' s ⟨p, e, n, r⟩ => q v H' s (.inr ⟨p, e, r.evo' (Evo.less fun _ z => .inl z) fun _ z => z⟩)
      | _ => exact fun v H' s r => q v H' s (.inl r)
    | exc k => exact q
    | bad => exact q
theorem chainT {m : Md} {op op' : CmpOp} {σ : L2.St} {H : Hp} {e : Ev} {Q : VK} (he : EnvOk c H σ e) (q : Post c .fresh σ H e (evX c.cl true (.chain op op' a b d) e) Q) :
    tChain (rD2 .fresh c.tb c.K (dCmp op)) (rD2 .fresh c.tb c.K (dCmp op')) (tX c .look a) (tX c .look b) (tX c .look d) σ H Q := by
  have q' : Post c .fresh σ H e ((evX c.cl true a e).bind fun x => (evX c.cl true b e).bind fun y => (tst (dCmp op x y)).bind fun t => if t then (evX c.cl true d e).bind fun z => (dCmp op' y z) else .ok (.bl false)) Q := q
  refine ⟨e, he, q'.step fun d1 v1 H1 s1 r1 q1 => ⟨e, he.same s1, q1.step fun d2 v2 H2 s2 r2 q2 => ⟨AV c.Xs e σ, d1, d2, ((he.same s1).same s2).av, r1.look.evo (Evo.same s2) s2, r2, ?_⟩⟩⟩
  have he2 := (he.same s1).same s2
  cases z : dCmp op d1 d2 with
  | bad => rw [z] at q2; exact q2.elim
  | exc k => exact absurd z (dCmp_ne _ _ _ _)
  | ok d3 =>
    rw [z] at q2
    cases d3 with
    | bl k =>
      intro v3 H3 s3 r3
      refine ⟨k, r3, ?_⟩
      cases k with
      | false => exact q2 _ H3 s3 rfl
      | true => exact ⟨e, he2.same s3, (Post.later s3 q2).step fun d4 v4 H4 s4 r4 q4 => ⟨AV c.Xs e σ, d2, d4, ((he2.same s3).same s4).av, (r2.look.evo (Evo.same s3) s3).evo (Evo.same s4) s4, r4, PostM.of Same.refl (dCmp_ne _ _ _) q4⟩⟩
    | _ => exact q2.elim
theorem lastM {op op' : CmpOp} (hm : behindInMarks op' z = false) : lastMarks [op, op'] [y, z] = false := hm
theorem fresh_of {σ : L2.St} {H : Hp} {e : Ev} {r : R D} {Q : Bool → Hp → Prop} (q : PostT c σ H (tst r) Q) : Post c .fresh σ H e r (fun v H1 => ∃ k, v = .bl k ∧ Q k H1) := by
  cases r with
  | ok d => cases d with
    | bl k => exact fun v H' s r => ⟨k, r, q H' s⟩
    | _ => exact q.elim
  | exc k => exact q
  | bad => exact q
theorem rule_chain (o : XOk cc X c) (op op' : CmpOp) (hm : behindInMarks op' z = false) (ha : PE X x (tX c .look a)) (hb : PE X y (tX c .look b)) (hd : PE X z (tX c .look d)) :
    PEm X c (.Compare x [op, op'] [y, z] pos) (.chain op op' a b d) true ∧ PT X (.Compare x [op, op'] [y, z] pos) (tXT c (.chain op op' a b d)) := by
  have h := op_cmp (tb := c.tb) o.dc o.un op
  have h' := op_cmp (tb := c.tb) o.dc o.un op'
  rw [← o.K] at h h'
  exact ⟨PEm.ofFresh rfl (pe_weak (pe_chain h h' ha hb hd (lastM hm)) fun σ H Q ⟨e, he, q⟩ => chainT (m := .fresh) he q), pt_weak (pt_chain h h' ha hb hd (lastM hm)) fun σ H Q ⟨e, he, q⟩ => chainT (m := .fresh) he (fresh_of q)⟩
theorem rule_neg (o : XOk cc X c) (ha : PE X x (tX c .look a)) : PEm X c (.UnaryOp .USub x pos) (.neg a) true := by
  have h := un_negD (tb := c.tb) (X := X)
  rw [← o.K] at h
  refine PEm.ofFresh rfl (pe_weak (pe_un h ha) fun σ H Q ⟨e, he, q⟩ => ?_)
  have q' : Post c .fresh σ H e ((evX c.cl true a e).bind dNeg) Q := q
  exact ⟨e, he, q'.step fun d1 v1 H1 s1 r1 q1 => ⟨AV c.Xs e σ, d1, (he.same s1).av, r1, PostM.of Same.refl (dNeg_ne _) q1⟩⟩
theorem rule_not (ha : PE X x (tX c .look a)) (ht : PT X x (tXT c a)) : PEm X c (.UnaryOp .Not x pos) (.not a) true ∧ PT X (.UnaryOp .Not x pos) (tXT c (.not a)) := by
  refine ⟨PEm.ofFresh rfl (pe_weak (pe_not ha) fun σ H Q ⟨e, he, q⟩ => ?_), pt_weak (pt_not ht) fun σ H Q ⟨e, he, q⟩ => ?_⟩
  · have q' : Post c .fresh σ H e ((tst (evX c.cl true a e)).bind fun b => .ok (.bl !b)) Q := q
    exact ⟨e, he, Post.tst (PostT.step q' fun b H1 s1 q1 => q1 _ H1 Same.refl rfl)⟩
  · have q' : PostT c σ H (tst ((tst (evX c.cl true a e)).bind fun b => .ok (.bl !b))) Q := q
    have e2 : tst ((tst (evX c.cl true a e)).bind fun b => .ok (.bl !b)) = (tst (evX c.cl true a e)).bind fun b => .ok !b := by
      cases tst (evX c.cl true a e) <;> rfl
    rw [e2] at q'
    exact ⟨e, he, q'.stepT fun b H1 s1 q1 => q1 H1 Same.refl⟩
theorem bl2 {m : Md} {σ : L2.St} {H : Hp} {e : Ev} {r : R D} {Q : VK} (h : Post c m σ H e ((tst r).bind fun u => .ok (.bl u)) Q) : Post c .look σ H e r Q := by
  cases r with
  | ok d => cases d with
    | bl k => exact fun v H' s r => h v H' s (by
        have e : v = .bl k := RepC.bl (show RepC _ _ _ _ _ _ from r)
        subst e
        cases m <;> first | exact .inl rfl | exact rfl)
    | _ => exact h.elim
  | exc k => exact h
  | bad => exact h
theorem tst_bl (r : R Bool) : tst (r.bind fun u => .ok (.bl u)) = r := by cases r <;> rfl
theorem rule_and {r : List Expr} (ha : PE X x (tX c .look a)) (ht : PT X x (tXT c a)) (hb : PE X (.BoolOp .And (y :: r) pos) (tX c .look b)) (hw : PW X (.BoolOp .And (y :: r) pos) (tXT c b)) :
    PEm X c (.BoolOp .And (x :: y :: r) pos) (.and a b) true ∧ PW X (.BoolOp .And (x :: y :: r) pos) (tXT c (.and a b)) := by
  refine ⟨PEm.ofFresh rfl (pe_weak (pe_and ha hb) fun σ H Q ⟨e, he, q⟩ => ?_), pw_weak (pw_and ht hw) fun σ H Q ⟨e, he, q⟩ => ?_⟩
  · have q' : Post c .fresh σ H e ((tst (evX c.cl true a e)).bind fun t => if t then (tst (evX c.cl true b e)).bind fun u => .ok (.bl u) else .ok (.bl false)) Q := q
    refine ⟨e, he, Post.tst (PostT.step q' fun k H1 s1 q1 => ?_)⟩
    cases k with
    | false => exact q1 _ H1 Same.refl rfl
    | true =>
      refine ⟨e, he.same s1, ?_⟩
      have q2 : Post c .fresh σ H1 e ((tst (evX c.cl true b e)).bind fun u => .ok (.bl u)) Q := q1
      exact bl2 q2
  · have q' : PostT c σ H (tst ((tst (evX c.cl true a e)).bind fun t => if t then (tst (evX c.cl true b e)).bind fun u => .ok (.bl u) else .ok (.bl false))) Q := q
    have e2 : tst ((tst (evX c.cl true a e)).bind fun t => if t then (tst (evX c.cl true b e)).bind fun u => .ok (.bl u) else .ok (.bl false)) = (tst (evX c.cl true a e)).bind fun t => if t then tst (evX c.cl true b e) else .ok false := by
      cases tst (evX c.cl true a e) with
      | ok t => cases t with
        | false => rfl
        | true => exact tst_bl _
      | _ => rfl
    rw [e2] at q'
    refine ⟨e, he, q'.stepT fun k H1 s1 q1 => ?_⟩
    cases k with
    | false => exact q1 H1 Same.refl
    | true => exact ⟨e, he.same s1, q1⟩
theorem rule_or {r : List Expr} (ha : PE X x (tX c .look a)) (ht : PT X x (tXT c a)) (hb : PE X (.BoolOp .Or (y :: r) pos) (tX c .look b)) (hw : PW X (.BoolOp .Or (y :: r) pos) (tXT c b)) :
    PEm X c (.BoolOp .Or (x :: y :: r) pos) (.or a b) true ∧ PW X (.BoolOp .Or (x :: y :: r) pos) (tXT c (.or a b)) := by
  refine ⟨PEm.ofFresh rfl (pe_weak (pe_or ha hb) fun σ H Q ⟨e, he, q⟩ => ?_), pw_weak (pw_or ht hw) fun σ H Q ⟨e, he, q⟩ => ?_⟩
  · have q' : Post c .fresh σ H e ((tst (evX c.cl true a e)).bind fun t => if t then .ok (.bl true) else (tst (evX c.cl true b e)).bind fun u => .ok (.bl u)) Q := q
    refine ⟨e, he, Post.tst (PostT.step q' fun k H1 s1 q1 => ?_)⟩
    cases k with
    | true => exact q1 _ H1 Same.refl rfl
    | false =>
      refine ⟨e, he.same s1, ?_⟩
      have q2 : Post c .fresh σ H1 e ((tst (evX c.cl true b e)).bind fun u => .ok (.bl u)) Q := q1
      exact bl2 q2
  · have q' : PostT c σ H (tst ((tst (evX c.cl true a e)).bind fun t => if t then .ok (.bl true) else (tst (evX c.cl true b e)).bind fun u => .ok (.bl u))) Q := q
    have e2 : tst ((tst (evX c.cl true a e)).bind fun t => if t then .ok (.bl true) else (tst (evX c.cl true b e)).bind fun u => .ok (.bl u)) = (tst (evX c.cl true a e)).bind fun t => if t then .ok true else tst (evX c.cl true b e) := by
      cases tst (evX c.cl true a e) with
      | ok t => cases t with
        | true => rfl
        | false => exact tst_bl _
      | _ => rfl
    rw [e2] at q'
    refine ⟨e, he, q'.stepT fun k H1 s1 q1 => ?_⟩
    cases k with
    | true => exact q1 H1 Same.refl
    | false => exact ⟨e, he.same s1, q1⟩
theorem pt_of (h : PE X x (tX c .look a)) (he : ∀ whole, isTrue x X.env whole = (do let v ← whole; standAt x.pos; holding [v] (truthy v))) : PT X x (tXT c a) :=
  pt_weak (pt_val h he) fun _ _ _ ⟨e, hv, q⟩ => ⟨e, hv, Post.tst q⟩
theorem rule_ite {u : Expr} (hc : PT X u (tXT c d)) (ha : PE X x (tX c .share a)) (hb : PE X y (tX c .share b)) : PEm X c (.IfExp u x y pos) (.ite d a b) false := by
  refine PEm.ofShare rfl (pe_weak (pe_ifExp hc ha hb) fun σ H Q ⟨e, he, q⟩ => ?_)
  have q' : Post c .share σ H e ((tst (evX c.cl true d e)).bind fun t => if t then evX c.cl false a e else evX c.cl false b e) Q := q
  refine ⟨e, he, PostT.step q' fun k H1 s1 q1 => ?_⟩
  cases k with
  | true => exact ⟨e, he.same s1, q1⟩
  | false => exact ⟨e, he.same s1, q1⟩
theorem rule_ix (o : XOk cc X c) (hp : PlainIx y) (ha : PE X x (tX c .look a)) (hb : PE X y (tX c .look b)) : PEm X c (.Subscript x y pos) (.ix a b) false := by
  have h := ix_D (tb := c.tb) (X := X) o.dc o.un
  rw [← o.K] at h
  exact PEm.ofShare rfl (pe_weak (pe_ix h ha hb hp) fun σ H Q ⟨e, he, q⟩ => two dIx_ne he q)
theorem PostO.step {m' : Md} {σ : L2.St} {H : Hp} {e : Ev} {r : R D} {k : Int → R D} {Q : VK} (h : Post c m' σ H e ((asInt r).bind k) Q) {Q' : Option Int → Hp → Prop}
    (q : ∀ i H', Same H H' → Post c m' σ H' e (k i) Q → Q' (some i) H') : Post c .look σ H e r (fun v H1 => ∃ i, v = .int i ∧ Q' (some i) H1) := by
  cases r with
  | ok d => cases d with
    | int i => exact fun v H' s r => ⟨i, r.look.int, q i H' s (Post.later s h)⟩
    | _ => exact h.elim
  | exc k => exact h
  | bad => exact h
theorem optI_not {r : R D} (h : isNo a = false) : optI a r = (asInt r).bind fun i => .ok (some i) := by
  cases a <;> first | rfl | cases h
def tXO (c : Fx) (t : T) : TO := if isNo t then tNoPart else tPart (tX c .look t)
theorem optI_step {m' : Md} {σ : L2.St} {H : Hp} {e : Ev} {k : Option Int → R D} {Q : VK} (he : EnvOk c H σ e) (h : Post c m' σ H e ((optI a (evX c.cl true a e)).bind k) Q) {Q' : Option Int → Hp → Prop}
    (q : ∀ i H', Same H H' → Post c m' σ H' e (k i) Q → Q' i H') : tXO c a σ H Q' := by
  unfold tXO
  cases z : isNo a with
  | true =>
    have ea : a = .no := by cases a <;> first | rfl | cases z
    subst ea
    exact q none H Same.refl h
  | false =>
    rw [optI_not z] at h
    refine ⟨e, he, PostO.step (k := fun i => k (some i)) ?_ fun i H' s => q (some i) H' s⟩
    revert h
    show Post c m' σ H e (((asInt (evX c.cl true a e)).bind fun i => R.ok (some i)).bind k) Q → Post c m' σ H e ((asInt (evX c.cl true a e)).bind fun i => k (some i)) Q
    cases asInt (evX c.cl true a e) <;> exact id
theorem rule_sl (o : XOk cc X c) {lo hi : Option Expr} {p2 : Pos} (ha : PE X x (tX c .look a)) (hl : PO X lo (tXO c b)) (hh : PO X hi (tXO c d)) : PEm X c (.Subscript x (.Slice lo hi none p2) pos) (.sl a b d) true := by
  have h := sl_D (tb := c.tb) (X := X)
  rw [← o.K] at h
  refine PEm.ofFresh rfl (pe_weak (pe_slice h ha hl hh) fun σ H Q ⟨e, he, q⟩ => ?_)
  have q' : Post c .fresh σ H e ((evX c.cl true a e).bind fun x => (optI b (evX c.cl true b e)).bind fun l => (optI d (evX c.cl true d e)).bind fun h => dSl x l h) Q := q
  refine ⟨e, he, q'.step fun d1 v1 H1 s1 r1 q1 => ?_⟩
  refine optI_step (he.same s1) q1 fun l H2 s2 q2 => optI_step ((he.same s1).same s2) q2 fun h H3 s3 q3 => ?_
  exact ⟨AV c.Xs e σ, d1, (((he.same s1).same s2).same s3).av, (r1.look.evo (Evo.same s2) s2).evo (Evo.same s3) s3, PostM.of Same.refl (dSl_ne _ _ _) q3⟩
theorem pa_nilD : PA X [] (tXL c .look .nil) ∧ PA X [] (tXL c .share .nil) :=
  ⟨pa_weak pa_nil fun σ H Q ⟨e, he, q⟩ => q [] H Same.refl .nil, pa_weak pa_nil fun σ H Q ⟨e, he, q⟩ => q [] H Same.refl (show RepL c.tb c.K H (AV c.Xs e σ) [] [] from .nil)⟩
theorem star_of (h : isStar x = false) (es : List Expr) (env : Env) : starEach (x :: es) env = (false, eval x env) :: starEach es env := by
  cases x <;> first | rfl | cases h
theorem pa_consD {es : List Expr} (hs : isStar x = false) : (PE X x (tX c .look a) → PA X es (tXL c .look b) → PA X (x :: es) (tXL c .look (.cons a b))) ∧ (PE X x (tX c .share a) → PA X es (tXL c .share b) → PA X (x :: es) (tXL c .share (.cons a b))) := by
  refine ⟨fun ha hb => pa_weak (pa_cons ha hb (star_of hs _ _)) fun σ H Q ⟨e, he, q⟩ => ?_, fun ha hb => pa_weak (pa_cons ha hb (star_of hs _ _)) fun σ H Q ⟨e, he, q⟩ => ?_⟩
  · have q' : PostL c .look σ H e ((evX c.cl true a e).bind fun x => (evL c.cl true b e).bind fun xs => .ok (x :: xs)) Q := q
    exact ⟨e, he, Post.stepL q' fun d v H1 s1 r1 q1 => ⟨e, he.same s1, PostL.stepL q1 fun ds vs H2 s2 r2 q2 => q2 _ H2 Same.refl (Paired.cons (r1.look.evo (Evo.same s2) s2) r2)⟩⟩
  · have q' : PostL c .share σ H e ((evX c.cl false a e).bind fun x => (evL c.cl false b e).bind fun xs => .ok (x :: xs)) Q := q
    exact ⟨e, he, Post.stepL q' fun d v H1 s1 r1 q1 => ⟨e, he.same s1, PostL.stepL q1 fun ds vs H2 s2 r2 q2 => q2 _ H2 Same.refl (RepL.cons (Rep.evo (Evo.same s2) r1) r2)⟩⟩
theorem rule_tup (o : XOk cc X c) {es : List Expr} {k : Nat} (hl : ∀ ds e, evL c.cl false a e = .ok ds → ds.length < 1000) (ha : PA X es (tXL c .share a)) : PEm X c (.Tuple es k pos) (.tup a) true := by
  refine PEm.ofFresh rfl (pe_weak (pe_tup ha) fun σ H Q ⟨e, he, q⟩ => ⟨e, he, ?_⟩)
  have q' : Post c .fresh σ H e ((evL c.cl false a e).bind fun ds => .ok (.tup ds)) Q := q
  refine PostL.stepE q' fun ds vs H1 z s1 r1 q1 => ?_
  have r1' : RepL c.tb c.K H1 (AV c.Xs e σ) ds vs := r1
  refine ⟨?_, fun p np => q1 _ _ (same_upd np) (new_tup np (he.same s1).av r1')⟩
  have := hl ds e z
  rw [r1'.length, sizeLine_eq]
  omega
theorem rule_lst (o : XOk cc X c) {es : List Expr} (hl : ∀ ds e, evL c.cl false a e = .ok ds → ds.length < 1000) (ha : PA X es (tXL c .share a)) : PEm X c (.List es pos) (.lst a) true := by
  refine PEm.ofFresh rfl (pe_weak (pe_lst ha) fun σ H Q ⟨e, he, q⟩ => ⟨e, he, ?_⟩)
  have q' : Post c .fresh σ H e ((evL c.cl false a e).bind fun ds => .ok (.lst ds)) Q := q
  refine PostL.stepE q' fun ds vs H1 z s1 r1 q1 => ?_
  have r1' : RepL c.tb c.K H1 (AV c.Xs e σ) ds vs := r1
  refine ⟨?_, fun p np => q1 _ _ (same_upd np) (new_lst np r1')⟩
  have := hl ds e z
  rw [r1'.length, sizeLine_eq]
  omega
end
end VE
namespace VE
open PySem PySem.Spec PyProof.Rows L2
def noStars (es : List Expr) : Bool := es.all fun x => !isStar x
theorem noStars_cons {x : Expr} {es : List Expr} (h : noStars (x :: es) = true) : isStar x = false ∧ noStars es = true := by
  obtain ⟨h1, h2⟩ := and2 (show ((!isStar x) && noStars es) = true from h)
  exact ⟨bang h1, h2⟩
theorem stars_false : ∀ {es : List Expr} {env : Env}, noStars es = true → ∀ p ∈ starEach es env, p.1 = false
  | [], _, _, p, hp => by simp [starEach] at hp
  | x :: es, env, h, p, hp => by
    obtain ⟨h1, h2⟩ := noStars_cons h
    rw [star_of h1] at hp
    rcases List.mem_cons.mp hp with e | e
    · rw [e]
    · exact stars_false h2 p e
theorem back_any {es : List Expr} {env : Env} {pos : Pos} (h : noStars es = true) : (backTo pos (starEach es env)).any (·.1) = false := by
  rw [List.any_eq_false]
  intro p hp
  unfold backTo at hp
  obtain ⟨q, hq, e⟩ := List.mem_map.mp hp
  rw [← e]
  show ¬ q.1 = true
  rw [stars_false h q hq]
  exact Bool.false_ne_true
theorem few_ok {es : List Expr} {env : Env} {pos : Pos} (h : noStars es = true) (hf : few es = true) :
    ((backTo pos (starEach es env)).all (fun x => !x.1) && (backToKw pos (keywordEach [] env)).all (fun x => x.1.isSome) && decide (es.length + ([] : List Keyword).length + (if ([] : List Keyword).isEmpty then 0 else 1) < 30)) = true := by
  have h1 : (backTo pos (starEach es env)).all (fun x => !x.1) = true := by
    rw [List.all_eq_true]
    intro p hp
    unfold backTo at hp
    obtain ⟨q, hq, e⟩ := List.mem_map.mp hp
    rw [← e]
    show (!q.1) = true
    rw [stars_false h q hq]; rfl
  rw [h1]
  show (true && true && decide (es.length + 0 + 0 < 30)) = true
  have : es.length < 25 := of_decide_eq_true hf
  rw [decide_eq_true (by omega : es.length + 0 + 0 < 30)]; rfl
theorem base_ns {id m : Str} {p pos : Pos} {env : Env} (h : (id != Str.ofString "super") = true) : attributeBase (.Call (.Name id p) [] [] pos) m env (eval (.Call (.Name id p) [] [] pos) env) = eval (.Call (.Name id p) [] [] pos) env := by
  generalize eval (.Call (.Name id p) [] [] pos) env = W
  unfold attributeBase
  exact if_pos (by rw [h]; rfl)
theorem base_of {o : Expr} {m : Str} {env : Env} (h : isCall o = false) : attributeBase o m env (eval o env) = eval o env := by
  cases o with
  | Call f as kws p => cases f with
    | Name id q => cases as with
      | nil => cases kws with
        | nil => exact base_ns (by
            have h : (id == ("super" : Str)) = false := h
            show (!(id == ("super" : Str))) = true
            rw [h]
            rfl)
        | cons _ _ => rfl
      | cons _ _ => rfl
    | _ => rfl
  | _ => rfl
section
variable {cc : CC} {X : Cx} {c : Fx} {a b d : T} {x y z : Expr} {pos : Pos} {es : List Expr}
theorem pe_callSD0 {CX : CXT} {k : Nat} {f : Addr} {fd : FuncData} {ps : List Str} {sp : Sp} {dvs : List V} {ds : List Value} {E : L2.St → XK} {x : Str} {p : Pos}
    (F : FnOk X.prog X.w X.K X.mg X.base CX k f fd ps sp) (hr : Room k X.A) (hg : Gl X x) (hm : X.mg x = some (.ref f)) (hk : PySem.W.keepIn X.K (.ref f) = true) (hb : Binds X.K fd ps ds) (hd : Vals dvs ds) (hx : ∀ σ, PassesAt CX X σ (E σ))
    (hdb : (x == ("__debug__" : Str)) = false) : PE X (.Call (.Name x p) [] [] pos) (tCallSD sp dvs E tNil) := by
  refine ⟨fun pins s σ H Q I h => ?_⟩
  refine wpAny_Call_Name_kw (ld_glob I hg hm ?_ hdb)
  exact PySem.W.callWith_K0 I.kIn hk (run_fnSD (us := []) F hr hb hd (hx σ) I .nil h)
theorem pl_len {ds : List D} {vs : List V} {tb : Tb} {K : PySem.W.Frag} {H : Hp} {A : Addr → Prop} (r : RepL tb K H A ds vs) : vs.length = ds.length := r.length
theorem call_post {fr : Bool} {n f : Nat} {sp : Sp} {dvs : List V} {m : Md} (hm : m = if fr then .fresh else .share)
    (hs : ∀ vs H Q E, spV c.tb c.K fr n (c.cl.fn f) vs H Q E → sp (vs ++ dvs) H Q E) (hn : ∀ ds e, evL c.cl false a e = .ok ds → ds.length = n) {σ : L2.St} {H : Hp} {Q : VK} (h : tX c m (.call f a) σ H Q) :
    tCallSD sp dvs (WE c.W) (tXL c .share a) σ H Q := by
  obtain ⟨e, he, q⟩ := h
  have q' : Post c m σ H e ((evL c.cl false a e).bind fun ds => c.cl.fn f ds) Q := by cases m <;> first | exact q | (cases fr <;> cases hm)
  refine ⟨e, he, PostL.stepE q' fun ds vs H1 z s1 r1 q1 => hs _ _ _ _ ⟨AV c.Xs e σ, ds, hn ds e z, (he.same s1).av, r1, ?_⟩⟩
  cases zz : c.cl.fn f ds with
  | ok d2 => rw [zz] at q1; rw [hm] at q1; exact fun v H2 s2 r2 => q1 v H2 s2 r2
  | exc k => rw [zz] at q1; exact fun H2 s2 => q1 H2 s2
  | bad => rw [zz] at q1; exact q1
theorem mk_call {fr : Bool} {ex : Expr} {t : T} (nv : isV t = false) (h : PE X ex (tX c (if fr then .fresh else .share) t)) : PEm X c ex t fr := by
  cases fr with
  | false => exact PEm.ofShare nv h
  | true => exact PEm.ofFresh nv h
theorem rule_call (o : XOk cc X c) (hh : cc.hot = false) {f : Nat} {F0 : FI} {p : Pos} (hf : cc.G.fns[f]? = some F0) (hgl : F0.glob = true) (h1 : F0.lo ≤ es.length) (h2 : es.length ≤ F0.hi) (hg : glB cc.sc F0.nm = true) (hd : dbg F0.nm = false)
    (h0 : es = [] → a = .nil) (hs : noStars es = true) (hn : ∀ ds e, evL c.cl false a e = .ok ds → ds.length = es.length) (ha : PA X es (tXL c .share a)) : PEm X c (.Call (.Name F0.nm p) es [] pos) (.call f a) F0.fr := by
  obtain ⟨fa, fd, ps, sp, dvs, dv, k, hr, gm, hk, F, hb, hdv, hsp⟩ := o.fn hh f F0 es.length hf hgl h1 h2
  refine mk_call rfl ?_
  cases es with
  | nil =>
    refine pe_weak (pe_callSD0 F hr (o.glo hg) gm hk hb hdv (fun σ => passAt o.tk σ) (dbg_no hd).1) fun σ H Q q => ?_
    obtain ⟨e, he, q2⟩ := call_post rfl hsp hn q
    have ea := h0 rfl
    subst ea
    exact q2 [] H Same.refl (show RepL c.tb c.K H (AV c.Xs e σ) [] [] from .nil)
  | cons e0 er =>
    obtain ⟨n1, n2⟩ := noStars_cons hs
    exact pe_weak (pe_callSD F hr (o.glo hg) gm hk hb hdv (fun σ => passAt o.tk σ) ha (dbg_no hd).1 (star_of n1 _ _) (back_any n2)) fun σ H Q q => call_post rfl hsp hn q
theorem dBi_ne (b : Bi) (ds : List D) (n : Nat) : dBi b ds ≠ .exc n := by
  unfold dBi
  split <;> first | exact ok_ne | exact bad_ne | exact ite_ne ok_ne bad_ne | skip
  all_goals (intro h; rcases bind_ne h with z | ⟨x, _, z⟩; exact rOpt_ne z; exact ok_ne z)
theorem bn_ok : ∀ b, biOk b = true → biName b ∈ bnames := by intro b; cases b <;> decide
theorem bi_fn (o : XOk cc X c) (hh : cc.hot = false) {b : Bi} (hb : biOk b = true) {e0 : Expr} {er : List Expr} {p : Pos} {t : TA} (hg : glB cc.sc (biName b) = true) (hs : noStars (e0 :: er) = true) (ha : PA X (e0 :: er) t) :
    PE X (.Call (.Name (biName b) p) (e0 :: er) [] pos) (tCB (rDL .fresh c.tb c.K (dBi b)) t) := by
  have hc := call_D (tb := c.tb) (o.calm hh) b hb
  rw [← o.K] at hc
  have hm := o.bn _ (bn_ok b hb)
  obtain ⟨n1, n2⟩ := noStars_cons hs
  cases b with
  | lrev => cases hb
  | isqrt => cases hb
  | len => exact pe_callB hc (o.glo hg) hm (by decide +kernel) ha (by decide) (by decide) (star_of n1 _ _) (back_any n2)
  | abs => exact pe_callB hc (o.glo hg) hm (by decide +kernel) ha (by decide) (by decide) (star_of n1 _ _) (back_any n2)
  | int => exact pe_callTy hc (o.glo hg) hm (by decide +kernel) ha (by decide) (by decide) (star_of n1 _ _) (back_any n2)
  | min => exact pe_callB hc (o.glo hg) hm (by decide +kernel) ha (by decide) (by decide) (star_of n1 _ _) (back_any n2)
  | max => exact pe_callB hc (o.glo hg) hm (by decide +kernel) ha (by decide) (by decide) (star_of n1 _ _) (back_any n2)
  | sum => exact pe_callB hc (o.glo hg) hm (by decide +kernel) ha (by decide) (by decide) (star_of n1 _ _) (back_any n2)
  | list => exact pe_callTy hc (o.glo hg) hm (by decide +kernel) ha (by decide) (by decide) (star_of n1 _ _) (back_any n2)
  | tuple => exact pe_callTy hc (o.glo hg) hm (by decide +kernel) ha (by decide) (by decide) (star_of n1 _ _) (back_any n2)
  | ord => exact pe_callB hc (o.glo hg) hm (by decide +kernel) ha (by decide) (by decide) (star_of n1 _ _) (back_any n2)
  | str => exact pe_callTy hc (o.glo hg) hm (by decide +kernel) ha (by decide) (by decide) (star_of n1 _ _) (back_any n2)
  | all => exact pe_callB hc (o.glo hg) hm (by decide +kernel) ha (by decide) (by decide) (star_of n1 _ _) (back_any n2)
theorem rule_bi (o : XOk cc X c) (hh : cc.hot = false) {b : Bi} (hb : biOk b = true) {e0 : Expr} {er : List Expr} {p : Pos} (hg : glB cc.sc (biName b) = true) (hs : noStars (e0 :: er) = true) (ha : PA X (e0 :: er) (tXL c .look a)) :
    PEm X c (.Call (.Name (biName b) p) (e0 :: er) [] pos) (.bi b a) true := by
  refine PEm.ofFresh rfl (pe_weak (bi_fn o hh hb hg hs ha) fun σ H Q ⟨e, he, q⟩ => ?_)
  have q' : Post c .fresh σ H e ((evL c.cl true a e).bind fun ds => dBi b ds) Q := q
  exact ⟨e, he, PostL.step q' fun ds vs H1 s1 r1 q1 => ⟨AV c.Xs e σ, ds, (he.same s1).av, r1, PostM.of Same.refl (dBi_ne b ds) q1⟩⟩
theorem rule_lrev (o : XOk cc X c) (hh : cc.hot = false) {e0 : Expr} {p p2 pos2 : Pos} (hg : glB cc.sc "list" = true) (hg2 : glB cc.sc "reversed" = true) (hs : isStar e0 = false) (ha : PE X e0 (tX c .look a)) :
    PEm X c (.Call (.Name "list" p) [.Call (.Name "reversed" p2) [e0] [] pos2] [] pos) (.lrev a) true := by
  have h := pe_lstRev (p := p) (p2 := p2) (pos := pos) (pos2 := pos2) (o.calm hh) (o.glo hg) (o.bn _ (by decide)) (o.glo hg2) (o.bn _ (by decide)) ha (star_of hs _ _) rfl
  rw [← o.K] at h
  refine PEm.ofFresh rfl (pe_weak h fun σ H Q ⟨e, he, q⟩ => ?_)
  have q2 : Post c .fresh σ H e ((evX c.cl true a e).bind fun x => dBi .lrev [x]) Q := q
  refine ⟨e, he, q2.step fun d v H1 s1 r1 q1 => ?_⟩
  cases d with
  | lst ds =>
    obtain ⟨p, vs, ep, h1, r⟩ := r1.look.lst
    exact ⟨p, vs, ep, SqL.of h1, fun q nq => q1 _ _ (same_upd nq) (new_lst nq r.reverse)⟩
  | frz ds =>
    obtain ⟨p, vs, ep, h1, r⟩ := r1.look.frz
    exact ⟨p, vs, ep, sqL_of h1, fun q nq => q1 _ _ (same_upd nq) (new_lst nq r.reverse)⟩
  | _ => exact q1.elim
theorem dBm_ne (m : Bm) (d : D) (ds : List D) (n : Nat) : dBm m d ds ≠ .exc n := by
  unfold dBm
  split <;> first | exact ok_ne | exact bad_ne | exact ite_ne ok_ne bad_ne | (split <;> first | exact ok_ne | exact bad_ne) | skip
  all_goals (intro h; rcases bind_ne h with z | ⟨x, _, z⟩; exact rOpt_ne z; first | exact ite_ne ok_ne bad_ne z | exact rOpt_ne z)
theorem bm_str {m : Bm} {d : D} (hb : m ≠ .bits) (hl : m ≠ .lindex) (h : rcv m d = true) : ∃ s, d = .str s := by
  cases d <;> first | exact ⟨_, rfl⟩ | (cases m <;> first | exact absurd rfl hb | exact absurd rfl hl | cases h)
def bmId : Bm → String
  | .find => "str.find" | .join => "str.join" | .split => "str.split" | .partition => "str.partition" | .upper => "str.upper" | .index => "str.index" | _ => ""
theorem mt_D {tb : Tb} {m : Bm} (hm : bmExp m = true) (hb : m ≠ .bits) (hl : m ≠ .lindex) : MtR X (bmId m) (rDM tb X.K (dBm m)) := by
  cases m <;> first | exact absurd rfl hb | exact absurd rfl hl | cases hm | skip
  · exact mt_findD
  · exact mt_joinD
  · exact mt_splitD
  · exact mt_partitionD
  · exact mt_upperD
  · exact mt_indexD
theorem ne_bad {m : Md} {σ : L2.St} {H : Hp} {e : Ev} {r : R D} {Q : VK} (h : Post c m σ H e r Q) : r ≠ .bad := fun z => by rw [z] at h; exact h
theorem rcv_step {m m' : Bm} {σ : L2.St} {H : Hp} {e : Ev} {r : R D} {k : R D} {Q : VK} {md : Md} {d : D} (h : Post c md σ H e (if rcv m d then k else .bad) Q) : rcv m d = true ∧ Post c md σ H e k Q := by
  cases z : rcv m d with
  | true => rw [z] at h; exact ⟨rfl, h⟩
  | false => rw [z] at h; exact h.elim
theorem rule_bits (o : XOk cc X c) {ap : Pos} (hl : (ap.endLine == pos.line) = true) (hx : isCall x = false) (ha : PE X x (tX c .look a)) : PEm X c (.Call (.Attribute x "bit_length" ap) [] [] pos) (.bm .bits a .nil) true := by
  refine PEm.ofFresh rfl (pe_weak (pe_bits ha (base_of hx) hl) fun σ H Q ⟨e, he, q⟩ => ?_)
  have q' : Post c .fresh σ H e ((evX c.cl true a e).bind fun x => if rcv .bits x then (evL c.cl true .nil e).bind fun ds => dBm .bits x ds else .bad) Q := q
  refine ⟨e, he, q'.step fun d v H1 s1 r1 q1 => ?_⟩
  cases d with
  | int i => exact ⟨i, r1.look.int, q1 _ H1 Same.refl rfl⟩
  | _ => exact q1.elim
theorem rule_upper (o : XOk cc X c) {ap : Pos} (hl : (ap.endLine == pos.line) = true) (hx : isCall x = false) (ha : PE X x (tX c .look a)) : PEm X c (.Call (.Attribute x "upper" ap) [] [] pos) (.bm .upper a .nil) true := by
  have hr := mt_D (X := X) (tb := c.tb) (m := .upper) rfl (by decide) (by decide)
  rw [← o.K] at hr
  refine PEm.ofFresh rfl (pe_weak (pe_bm0 PySem.F.plainAttrs_str PySem.F.slot_str_upper PySem.F.type_str_upper hr ha (base_of hx) hl) fun σ H Q ⟨e, he, q⟩ => ?_)
  have q' : Post c .fresh σ H e ((evX c.cl true a e).bind fun x => if rcv .upper x then (evL c.cl true .nil e).bind fun ds => dBm .upper x ds else .bad) Q := q
  refine ⟨e, he, q'.step fun d v H1 s1 r1 q1 => ?_⟩
  cases d with
  | str s => exact ⟨by rw [r1.look.str]; rfl, AV c.Xs e σ, _, [], (he.same s1).av, r1.look, .nil, PostM.of Same.refl (dBm_ne _ _ _) q1⟩
  | _ => exact q1.elim
theorem rule_bm (o : XOk cc X c) {m : Bm} (hm : bmExp m = true) (hli : m ≠ .lindex) (hb : bmZero m = false) {ap : Pos} {e0 : Expr} {er : List Expr} (hl : (ap.endLine == pos.line) = true) (hx : isCall x = false) (hs : noStars (e0 :: er) = true) (hf : few (e0 :: er) = true)
    (ha : PE X x (tX c .look a)) (hA : PA X (e0 :: er) (tXL c .look b)) : PEm X c (.Call (.Attribute x (bmName m) ap) (e0 :: er) [] pos) (.bm m a b) true := by
  have hb' : m ≠ .bits := fun z => by rw [z] at hb; cases hb
  have hr := mt_D (X := X) (tb := c.tb) hm hb' hli
  rw [← o.K] at hr
  refine PEm.ofFresh rfl ?_
  obtain ⟨n1, n2⟩ := noStars_cons hs
  have key : ∀ σ H Q, tX c .fresh (.bm m a b) σ H Q → tBM c.K "str" (rDM c.tb c.K (dBm m)) (tX c .look a) (tXL c .look b) σ H Q := fun σ H Q ⟨e, he, q⟩ => by
    have q' : Post c .fresh σ H e ((evX c.cl true a e).bind fun x => if rcv m x then (evL c.cl true b e).bind fun ds => dBm m x ds else .bad) Q := q
    refine ⟨e, he, q'.step fun d v H1 s1 r1 q1 => ?_⟩
    obtain ⟨z, q2⟩ := rcv_step (m' := m) (r := .bad) q1
    obtain ⟨s, ed⟩ := bm_str hb' hli z
    subst ed
    exact ⟨by rw [r1.look.str]; rfl, e, he.same s1, PostL.step q2 fun ds vs H2 s2 r2 q3 => ⟨AV c.Xs e σ, _, ds, ((he.same s1).same s2).av, r1.look.evo (Evo.same s2) s2, r2, PostM.of Same.refl (dBm_ne _ _ _) q3⟩⟩
  rw [o.K] at key hr
  cases m with
  | find => exact pe_weak (pe_bm PySem.F.plainAttrs_str PySem.F.slot_str_find PySem.F.type_str_find hr ha hA (base_of hx) (few_ok hs hf) hl (star_of n1 _ _) (back_any n2)) key
  | join => exact pe_weak (pe_bm PySem.F.plainAttrs_str PySem.F.slot_str_join PySem.F.type_str_join hr ha hA (base_of hx) (few_ok hs hf) hl (star_of n1 _ _) (back_any n2)) key
  | split => exact pe_weak (pe_bm PySem.F.plainAttrs_str PySem.F.slot_str_split PySem.F.type_str_split hr ha hA (base_of hx) (few_ok hs hf) hl (star_of n1 _ _) (back_any n2)) key
  | partition => exact pe_weak (pe_bm PySem.F.plainAttrs_str PySem.F.slot_str_partition PySem.F.type_str_partition hr ha hA (base_of hx) (few_ok hs hf) hl (star_of n1 _ _) (back_any n2)) key
  | upper => cases hb
  | bits => cases hb
  | index => exact pe_weak (pe_bm PySem.F.plainAttrs_str PySem.F.slot_str_index PySem.F.type_str_index hr ha hA (base_of hx) (few_ok hs hf) hl (star_of n1 _ _) (back_any n2)) key
  | lindex => exact absurd rfl hli
  | _ => cases hm
theorem find_at {l : List Str} {t : Str} {j : Nat} (h : l.findIdx? (fun x => x == t) = some j) : ∃ z, l[j]? = some z ∧ (z == t) = true ∧ ∀ m z', m < j → l[m]? = some z' → (z' == t) = false := by
  obtain ⟨h1, h2, h3⟩ := List.findIdx?_eq_some_iff_getElem.mp h
  refine ⟨l[j], List.getElem?_eq_getElem h1, h2, fun m z' hm hz => ?_⟩
  obtain ⟨h4, h5⟩ := List.getElem?_eq_some_iff.mp hz
  rw [← h5]
  simpa using h3 m hm
theorem rule_lindex (o : XOk cc X c) {ap : Pos} {e0 : Expr} {er : List Expr} (hl : (ap.endLine == pos.line) = true) (hx : isCall x = false) (hs : noStars (e0 :: er) = true) (hf : few (e0 :: er) = true)
    (ha : PE X x (tX c .look a)) (hA : PA X (e0 :: er) (tXL c .look b)) : PEm X c (.Call (.Attribute x "index" ap) (e0 :: er) [] pos) (.bm .lindex a b) true := by
  refine PEm.ofFresh rfl ?_
  obtain ⟨n1, n2⟩ := noStars_cons hs
  have P := pe_bm (cpos := pos) PySem.F.plainAttrs_list PySem.F.slot_list_index PySem.F.type_list_index (mt_index (X := X)) ha hA (base_of hx) (few_ok hs hf) hl (star_of n1 _ _) (back_any n2)
  rw [← o.K] at P
  refine pe_weak P fun σ H Q ⟨e, he, q⟩ => ?_
  have q' : Post c .fresh σ H e ((evX c.cl true a e).bind fun x => if rcv .lindex x then (evL c.cl true b e).bind fun ds => dBm .lindex x ds else .bad) Q := q
  refine ⟨e, he, q'.step fun d v H1 s1 r1 q1 => ?_⟩
  cases d with
  | lst ds =>
    obtain ⟨p, vs, ep, h1, r⟩ := r1.look.lst
    subst ep
    refine ⟨.inl ⟨rfl, vs, SqL.of h1⟩, e, he.same s1, PostL.step q1 fun xs us H2 s2 r2 q2 => ?_⟩
    match xs, q2, r2 with
    | [.str t], q2, r2 =>
      obtain ⟨y, ey, cy⟩ := p1 r2
      subst ey
      have q3 : Post c .fresh σ H2 e ((rOpt (strsOf ds)).bind fun l => rOpt ((l.findIdx? (fun x => x == dS t)).map fun j => D.int ((j : Nat) : Int))) Q := q2
      cases es : strsOf ds with
      | none => rw [es] at q3; exact q3.elim
      | some l =>
        rw [es] at q3
        have q4 : Post c .fresh σ H2 e (rOpt ((l.findIdx? (fun x => x == dS t)).map fun j => D.int ((j : Nat) : Int))) Q := q3
        cases ef : l.findIdx? (fun x => x == dS t) with
        | none => rw [ef] at q4; exact q4.elim
        | some j =>
          rw [ef] at q4
          obtain ⟨k, e1, e2⟩ := strsOf_eq es
          subst e1 e2
          have hv := repL_strs (r.evo (Evo.same s2))
          obtain ⟨z, hz, hzt, hno⟩ := find_at ef
          refine ⟨p, vs, y, j, V.str z, rfl, rfl, SqL.of (s2 p _ h1), by rw [cy.str]; rfl, by rw [hv, List.all_map]; exact List.all_eq_true.mpr fun _ _ => rfl, by rw [hv, List.getElem?_map, hz]; rfl, by rw [cy.str]; exact hzt, fun m z' hm hz' => ?_, ?_⟩
          · rw [hv, List.getElem?_map] at hz'
            cases hq : (k.map dS)[m]? with
            | none => rw [hq] at hz'; cases hz'
            | some w =>
              rw [hq] at hz'
              cases hz'
              rw [cy.str]
              exact hno m w hm hq
          · exact pv_int (X := X) (tb := c.tb) (A := AV c.Xs e σ) (PostM.of Same.refl (by intro n z; cases z) q4)
    | [], q2, _ => exact q2.elim
    | .non :: _, q2, _ => exact q2.elim
    | .bl _ :: _, q2, _ => exact q2.elim
    | .int _ :: _, q2, _ => exact q2.elim
    | .tup _ :: _, q2, _ => exact q2.elim
    | .lst _ :: _, q2, _ => exact q2.elim
    | .frz _ :: _, q2, _ => exact q2.elim
    | .obj _ _ _ :: _, q2, _ => exact q2.elim
    | .dct _ _ :: _, q2, _ => exact q2.elim
    | .str _ :: _ :: _, q2, _ => exact q2.elim
  | _ => exact q1.elim
theorem rule_lrng (o : XOk cc X c) (hh : cc.hot = false) {e0 : Expr} {p p2 pos2 : Pos} (hg : glB cc.sc "list" = true) (hg2 : glB cc.sc "range" = true) (hs : isStar e0 = false) (ha : PE X e0 (tX c .look a)) :
    PEm X c (.Call (.Name "list" p) [.Call (.Name "range" p2) [e0] [] pos2] [] pos) (.rng1 a) true := by
  have h := pe_listRg (p := p) (pos := pos) (o.calm hh) (o.glo hg) (o.bn _ (by decide)) (prg_1 (p := p2) (pos := pos2) (o.glo hg2) (o.bn _ (by decide)) ha (star_of hs _ _)) rfl
  refine PEm.ofFresh rfl (pe_weak h fun σ H Q ⟨e, he, q⟩ => ?_)
  have q2 : Post c .fresh σ H e ((evX c.cl true a e).bind dRng) Q := q
  refine ⟨e, he, q2.step fun d v H1 s1 r1 q1 => ?_⟩
  cases d with
  | int n =>
    have q3 : Post c .fresh σ H1 e (if inG n then .ok (.lst (rngL 0 1 n.toNat)) else .bad) Q := q1
    split at q3
    · rename_i hn
      refine ⟨n, r1.look.int, RgOk.of_le (Int.le_refl _) hn.2 (by decide) hn.1, fun q nq => q3 _ _ (same_upd nq) (new_lst nq ?_)⟩
      have e1 : rngL 0 1 n.toNat = ((List.range n.toNat).map fun (k : Nat) => (k : Int)).map D.int := by
        unfold rngL; rw [List.map_map]; apply List.map_congr_left; intro k _; show D.int _ = D.int _; congr 1; show (0 : Int) + (k : Int) * 1 = (k : Int); omega
      have e2 : rgV 0 n = ((List.range n.toNat).map fun (k : Nat) => (k : Int)).map V.int := by
        unfold rgV; rw [List.map_map, Int.sub_zero]; apply List.map_congr_left; intro k _; show V.int _ = V.int _; congr 1; show (0 : Int) + (k : Int) = (k : Int); omega
      rw [e1, e2]
      exact ints_repL _
    · exact q3.elim
  | _ => exact q1.elim
def tyS : Ty → String
  | .int => "int" | .bool => "bool" | .str => "str" | .list => "list" | .tuple => "tuple" | .non => "" | .cls _ => ""
theorem tyName_boot {t : Ty} (h1 : t ≠ .non) (h2 : ∀ k, t ≠ .cls k) : bootBuiltins (tyName t) = some (.type (tyS t)) := by
  cases t with
  | non => exact absurd rfl h1
  | cls k => exact absurd rfl (h2 k)
  | _ => decide +kernel
theorem tyName_bn {t : Ty} (h1 : t ≠ .non) (h2 : ∀ k, t ≠ .cls k) : tyName t ∈ bnames := by
  cases t with
  | non => exact absurd rfl h1
  | cls k => exact absurd rfl (h2 k)
  | _ => decide
theorem tyName_ne {t : Ty} : tyName t ≠ "__name__" ∧ (tyName t == ("__debug__" : Str)) = false := by
  cases t with
  | cls k => show ("" : Str) ≠ "__name__" ∧ (("" : Str) == ("__debug__" : Str)) = false; decide
  | _ => decide
theorem isi_ok {K : PySem.W.Frag} {H : Hp} {A : Addr → Prop} {d : D} {v : V} {t : Ty} {r : D} (h : dIsi d t = .ok r) (c1 : RepC c.tb K H A d v) : ∃ b u, r = .bl b ∧ TyX K H v u ∧ PySem.W.kitOne K u (.type (tyS t)) = some b := by
  cases d with
  | frz ds => cases h
  | obj k fs ds => cases h
  | dct ks ds =>
    obtain ⟨a, vs, e, h1, _⟩ := c1.dct
    rw [e]
    have ty : TyX K H (.ref a) (.type "dict") := by
      rcases h1 with ⟨kvs, ⟨z, _⟩, _⟩ | ⟨_, x, _, _, es, n, z, _⟩
      · exact .base (.dK z)
      · exact .kDict z rfl
    cases t <;> cases h <;> exact ⟨_, _, rfl, ty, kit_ty (by decide +kernel)⟩
  | non => rw [c1.non]; cases t <;> cases h <;> exact ⟨_, _, rfl, .base .non, kit_ty (by decide +kernel)⟩
  | bl b => rw [c1.bl]; cases t <;> cases h <;> exact ⟨_, _, rfl, .base (.bl b), kit_ty (by decide +kernel)⟩
  | int b => rw [c1.int]; cases t <;> cases h <;> exact ⟨_, _, rfl, .base (.int b), kit_ty (by decide +kernel)⟩
  | str b => rw [c1.str]; cases t <;> cases h <;> exact ⟨_, _, rfl, .base (.str _), kit_ty (by decide +kernel)⟩
  | lst ds =>
    obtain ⟨a, vs, e, h1, _⟩ := c1.lst
    rw [e]
    cases t <;> cases h <;> exact ⟨_, _, rfl, .base (.lst h1), kit_ty (by decide +kernel)⟩
  | tup ds =>
    obtain ⟨a, vs, e, h1, _⟩ := c1.tup
    rw [e]
    have ty : TyX K H (.ref a) (.type "tuple") := by
      rcases h1 with ⟨z, _⟩ | ⟨o, its, n, z1, z2, _⟩
      · exact .base (.tup z)
      · exact .kTuple z1 z2
    cases t <;> cases h <;> exact ⟨_, _, rfl, ty, kit_ty (by decide +kernel)⟩
theorem dIsi_ne (d : D) (t : Ty) (n : Nat) : dIsi d t ≠ .exc n := by
  unfold dIsi
  split <;> first | exact ok_ne | exact bad_ne
theorem dIsi_ty {d : D} {t : Ty} (h : dIsi d t ≠ .bad) : t ≠ .non ∧ ∀ k, t ≠ .cls k :=
  ⟨fun z => h (by subst z; cases d <;> rfl), fun k z => h (by subst z; cases d <;> rfl)⟩
theorem rule_isi (o : XOk cc X c) {t : Ty} (h1 : t ≠ .non) (h2 : ∀ k, t ≠ .cls k) {p p2 : Pos} (hg : glB cc.sc "isinstance" = true) (hg2 : glB cc.sc (tyName t) = true) (hs : isStar x = false) (ha : PE X x (tX c .look a)) :
    PEm X c (.Call (.Name "isinstance" p) [x, .Name (tyName t) p2] [] pos) (.isi a t) true := by
  have hT : PE X (.Name (tyName t) p2) (tC (.ty (tyS t))) := pe_bltn (o.glo hg2) (o.bn _ (tyName_bn h1 h2)) (tyName_boot h1 h2) rfl tyName_ne.1 tyName_ne.2
  have hc : PE X (.Call (.Name "isinstance" p) [x, .Name (tyName t) p2] [] pos) (tCB (rIsi X.K) (tCons (tX c .look a) (tCons (tC (.ty (tyS t))) tNil))) :=
    pe_callB call_isi (o.glo hg) (o.bn _ (by decide)) boot_isinstance (pa_cons ha (pa_cons hT pa_nil) (star_of hs _ _)) (by decide) (by decide) (star_of hs _ _) rfl
  rw [← o.K] at hc
  refine PEm.ofFresh rfl (pe_weak hc fun σ H Q ⟨e, he, q⟩ => ?_)
  have q' : Post c .fresh σ H e ((evX c.cl true a e).bind fun x => dIsi x t) Q := q
  refine ⟨e, he, q'.step fun d v H1 s1 r1 q1 => ?_⟩
  cases z : dIsi d t with
  | bad => rw [z] at q1; exact q1.elim
  | exc k => exact absurd z (dIsi_ne _ _ _)
  | ok r =>
    rw [z] at q1
    obtain ⟨b, u, er, ty, kk⟩ := isi_ok z r1.look
    subst er
    exact ⟨v, .ty (tyS t), u, .type (tyS t), b, rfl, .ty _, ty, kk, q1 _ H1 Same.refl rfl⟩
theorem name_cls (o : XOk cc X c) {t : Nat} {z : Str} {p : Pos} (h : clsB cc t z = true) : ∃ v, PE X (.Name z p) (tC v) ∧ ClsV v (clsV c.tb c.K t) ∧ (t ∈ cc.G.exs ∨ t = 1000) := by
  obtain ⟨h1, h2⟩ := and2 (show (glB cc.sc z && !dbg z && ((decide (t ∈ cc.G.exs) && decide (cc.G.tb.cls[t]? = some z)) || (decide (t = 1000) && decide (z = "ValueError")))) = true from h)
  obtain ⟨hg, hd⟩ := and2 h1
  rcases Bool.or_eq_true_iff.mp h2 with q | q
  · obtain ⟨q1, q2⟩ := and2 q
    have q1 := of_decide_eq_true q1
    refine ⟨.ref (cAd c.tb c.K t), pe_glob (o.glo hg) (o.cls t z q1 (of_decide_eq_true q2)) rfl (dbg_no (bang hd)).1, ?_, .inl q1⟩
    unfold clsV
    rw [if_neg (o.big t q1)]
    exact .own _
  · obtain ⟨q1, q2⟩ := and2 q
    have q1 := of_decide_eq_true q1
    have q2 := of_decide_eq_true q2
    subst q1 q2
    exact ⟨.ty "ValueError", pe_bltn (o.glo hg) (o.bn _ (by decide)) (by decide +kernel) rfl (by decide) (by decide), .ty _, .inr rfl⟩
theorem rule_ise (o : XOk cc X c) (hh : cc.hot = true) {i t : Nat} {y z : Str} {p py pz : Pos} (hg : glB cc.sc "isinstance" = true) (hi : cc.N[i]? = some y) (hv : visB cc.sc y = true) (hd : dbg y = false) (hc : clsB cc t z = true) :
    PEm X c (.Call (.Name "isinstance" p) [.Name y py, .Name z pz] [] pos) (.ise i t) true := by
  obtain ⟨v, hT, cv, ht⟩ := name_cls (p := pz) o hc
  have hy := pe_var (X := X) (pos := py) (o.slot hi) (o.vis hv) (dbg_no hd).1 (dbg_no hd).2
  refine PEm.ofFresh rfl ⟨fun pins s σ H Q I ⟨e, he, q⟩ => ?_⟩
  have q' : Post c .fresh σ H e (match e[i]? with
    | some (.exn k) => .ok (.bl (c.cl.su k t))
    | _ => .bad) Q := q
  cases ze : e[i]? with
  | none => rw [ze] at q'; exact q'.elim
  | some sl =>
    rw [ze] at q'
    cases sl with
    | emp => exact q'.elim
    | val _ _ => exact q'.elim
    | exn k =>
      obtain ⟨a, h1, h2⟩ := he.exn i k ze
      obtain ⟨hk, hC, _⟩ := o.ise hh a k h2
      exact (pe_callB hC (o.glo hg) (o.bn _ (by decide)) boot_isinstance (pa_cons hy (pa_cons hT pa_nil)) (by decide) (by decide)).run pins s σ H Q I
        ⟨_, h1, v, clsV c.tb c.K t, c.cl.su k t, rfl, fun u ru => cv.eq ru, o.kit k t hk ht, q' _ H Same.refl rfl⟩
theorem names_cls (o : XOk cc X c) : ∀ {ts : List Nat} {es : List Expr}, mCls cc ts es = true → ∃ vs, PA X es (fun _ H Q => Q vs H) ∧ Paired ClsV vs (ts.map (clsV c.tb c.K)) ∧ (∀ t ∈ ts, t ∈ cc.G.exs ∨ t = 1000) ∧ vs.length = ts.length
  | [], [], _ => ⟨[], pa_nil, .nil, by simp, rfl⟩
  | t :: ts, e :: es, h => by
    cases e with
    | Name z p =>
      obtain ⟨h1, h2⟩ := and2 (show (clsB cc t z && mCls cc ts es) = true from h)
      obtain ⟨v, q1, q2, q3⟩ := name_cls (p := p) o h1
      obtain ⟨vs, r1, r2, r3, r4⟩ := names_cls o h2
      refine ⟨v :: vs, pa_weak (pa_cons q1 r1) fun σ H Q q => q, .cons q2 r2, fun u hu => ?_, by simp [r4]⟩
      rcases List.mem_cons.mp hu with z | z
      · rw [z]; exact q3
      · exact r3 u z
    | _ => cases h
  | [], _ :: _, h => by cases h
  | _ :: _, [], h => by cases h
theorem kit_any (o : XOk cc X c) {k : Nat} (hk : k ∈ cc.G.exs) : ∀ {ts : List Nat}, (∀ t ∈ ts, t ∈ cc.G.exs ∨ t = 1000) → PySem.W.kitAny X.K (.ref (cAd c.tb c.K k)) (ts.map (clsV c.tb c.K)) = some (ts.any fun t => c.cl.su k t)
  | [], _ => kitAny_nil
  | t :: ts, h => by
    refine kitAny_cons (o.kit k t hk (h t (by simp))) (fun z => ?_) fun z => ?_
    · rw [kit_any o hk fun u hu => h u (by simp [hu])]
      show _ = some (c.cl.su k t || ts.any _)
      rw [z]; rfl
    · show (c.cl.su k t || ts.any _) = true
      rw [z]; rfl
theorem rule_iseT (o : XOk cc X c) (hh : cc.hot = true) {i : Nat} {ts : List Nat} {y : Str} {es : List Expr} {kk : Nat} {p py pz : Pos} (hg : glB cc.sc "isinstance" = true) (hi : cc.N[i]? = some y) (hv : visB cc.sc y = true) (hd : dbg y = false) (hl : ts.length < 1000) (hc : mCls cc ts es = true) :
    PEm X c (.Call (.Name "isinstance" p) [.Name y py, .Tuple es kk pz] [] pos) (.iseT i ts) true := by
  obtain ⟨vs, hT, cv, ht, hlen⟩ := names_cls o hc
  have hy := pe_var (X := X) (pos := py) (o.slot hi) (o.vis hv) (dbg_no hd).1 (dbg_no hd).2
  refine PEm.ofFresh rfl ⟨fun pins s σ H Q I ⟨e, he, q⟩ => ?_⟩
  have q' : Post c .fresh σ H e (match e[i]? with
    | some (.exn k) => .ok (.bl (ts.any fun t => c.cl.su k t))
    | _ => .bad) Q := q
  cases ze : e[i]? with
  | none => rw [ze] at q'; exact q'.elim
  | some sl =>
    rw [ze] at q'
    cases sl with
    | emp => exact q'.elim
    | val _ _ => exact q'.elim
    | exn k =>
      obtain ⟨a, h1, h2⟩ := he.exn i k ze
      obtain ⟨hk, _, hC⟩ := o.ise hh a k h2
      refine (pe_callB hC (o.glo hg) (o.bn _ (by decide)) boot_isinstance (pa_cons hy (pa_cons (pe_tup hT) pa_nil)) (by decide) (by decide)).run pins s σ H Q I
        ⟨_, h1, ?_, fun tp np => ⟨tp, vs, _, _, rfl, upd_same, cv, kit_any o hk ht, q' _ _ (same_upd np) rfl⟩⟩
      rw [hlen, sizeLine_eq]; omega
end
end VE
namespace VE
open PySem PySem.Spec PyProof.Rows L2
theorem base_of0 {o : Expr} {m : Str} {env : Env} (h : isCall0 o = false) : attributeBase o m env (eval o env) = eval o env := base_of (show isCall o = false from h)
section
variable {tb : Tb} {K : PySem.W.Frag} {H : Hp} {A : Addr → Prop}
theorem fNm_out {f : Nat} (h : ¬ f < tb.fld.length) : fNm tb f = Str.empty := by
  unfold fNm
  rw [List.getD_eq_getElem?_getD, List.getElem?_eq_none (by omega)]; rfl
theorem fNm_in {f : Nat} (h : f < tb.fld.length) : fNm tb f = tb.fld[f] := by
  unfold fNm
  rw [List.getD_eq_getElem?_getD, List.getElem?_eq_getElem h]; rfl
theorem fNm_inj (nd : tb.fld.Nodup ∧ Str.empty ∉ tb.fld) {f g : Nat} (hf : f < tb.fld.length) (h : fNm tb g = fNm tb f) : g = f := by
  by_cases hg : g < tb.fld.length
  · rw [fNm_in hf, fNm_in hg] at h
    have hp := List.pairwise_iff_getElem.mp nd.1
    rcases Nat.lt_trichotomy f g with z | z | z
    · exact absurd h.symm (hp f g hf hg z)
    · exact z.symm
    · exact absurd h (hp g f hg hf z)
  · rw [fNm_out hg, fNm_in hf] at h
    exact absurd (h ▸ List.getElem_mem hf) nd.2
theorem lookF_rep (nd : tb.fld.Nodup ∧ Str.empty ∉ tb.fld) {f : Nat} (hf : f < tb.fld.length) : ∀ {fs : List Nat} {ds : List D} {gs : List (Str × V)} {d : D}, lookF f fs ds = .ok d → gs.map (·.1) = fs.map (fNm tb) → RepL tb K H A ds (gs.map (·.2)) →
    ∃ v, gs.lookup (fNm tb f) = some v ∧ Rep tb K H A d v
  | [], _, _, _, h, _, _ => by cases h
  | _ :: _, [], _, _, h, _, _ => by cases h
  | g :: fs, d0 :: ds, [], d, h, e, r => by cases e
  | g :: fs, d0 :: ds, (x, v) :: gs, d, h, e, r => by
    obtain ⟨v', r', ev, r1, r2⟩ := (show ∃ v0 r0, v :: gs.map (·.2) = v0 :: r0 ∧ Rep tb K H A d0 v0 ∧ RepL tb K H A ds r0 from r)
    cases ev
    have e1 : x = fNm tb g ∧ gs.map (·.1) = fs.map (fNm tb) := by
      have := e
      simp only [List.map_cons, List.cons.injEq] at this
      exact this
    obtain ⟨e1, e2⟩ := e1
    have h' : (if g = f then R.ok d0 else lookF f fs ds) = .ok d := h
    by_cases hg : g = f
    · rw [if_pos hg] at h'
      cases h'
      refine ⟨v, ?_, r1⟩
      rw [e1, hg]
      exact List.lookup_cons_self
    · rw [if_neg hg] at h'
      obtain ⟨w, q1, q2⟩ := lookF_rep nd hf h' e2 r2
      refine ⟨w, ?_, q2⟩
      have ne : (fNm tb f == x) = false := by
        rw [beq_eq_false_iff_ne, e1]
        exact fun z => hg (fNm_inj nd hf z.symm)
      rw [List.lookup_cons, ne]
      exact q1
theorem lookF_ne {f n : Nat} : ∀ {fs : List Nat} {ds : List D}, lookF f fs ds ≠ .exc n
  | [], _, h => by cases h
  | _ :: _, [], h => by cases h
  | g :: fs, d :: ds, h => by
    have h' : (if g = f then R.ok d else lookF f fs ds) = .exc n := h
    split at h'
    · cases h'
    · exact lookF_ne h'
theorem no_field {x : Str} {gs : List (Str × V)} {fs : List Nat} (hx : x ≠ Str.empty ∧ x ∉ tb.fld) (e : gs.map (·.1) = fs.map (fNm tb)) : gs.lookup x = none := by
  rw [List.lookup_eq_none_iff]
  intro p hp
  rw [bne_iff_ne]
  intro z
  have hm : p.1 ∈ gs.map (·.1) := List.mem_map.mpr ⟨p, hp, rfl⟩
  rw [e] at hm
  obtain ⟨g, _, eg⟩ := List.mem_map.mp hm
  by_cases hg : g < tb.fld.length
  · exact hx.2 (by rw [z, ← eg, fNm_in hg]; exact List.getElem_mem hg)
  · exact hx.1 (by rw [z, ← eg, fNm_out hg])
end
section
variable {cc : CC} {X : Cx} {c : Fx} {a b d : T} {x y z : Expr} {pos : Pos} {es : List Expr}
theorem dFld_ne {fok : Nat → Nat → Bool} {f n : Nat} {d : D} : dFld fok f d ≠ .exc n := by
  cases d <;> first | exact bad_ne | exact ite_ne lookF_ne bad_ne
theorem rule_fld (o : XOk cc X c) {f : Nat} {nm : Str} (hn : cc.G.tb.fld[f]? = some nm) (hx : isCall0 x = false) (ha : PE X x (tX c .look a)) : PEm X c (.Attribute x nm pos) (.fld f a) false := by
  have en : fNm c.tb f = nm := by
    unfold fNm
    rw [o.tb, List.getD_eq_getElem?_getD, hn]; rfl
  refine PEm.ofShare rfl (pe_weak (pe_fld ha (base_of0 hx)) fun σ H Q ⟨e, he, q⟩ => ?_)
  have q' : Post c .share σ H e ((evX c.cl true a e).bind fun x => dFld c.cl.fok f x) Q := q
  refine ⟨e, he, q'.step fun d v H1 s1 r1 q1 => ?_⟩
  cases d with
  | obj k fs ds =>
    have q2 : Post c .share σ H1 e (if c.cl.fok k f then lookF f fs ds else .bad) Q := q1
    cases zk : c.cl.fok k f with
    | false => rw [zk] at q2; exact q2.elim
    | true =>
      rw [zk] at q2
      have q3 : Post c .share σ H1 e (lookF f fs ds) Q := q2
      obtain ⟨f1, f2, f3⟩ := o.fok k f zk
      obtain ⟨p, dx, gs, ev, h1, h2, h3⟩ := r1.look.obj
      cases zl : lookF f fs ds with
      | bad => rw [zl] at q3; exact q3.elim
      | exc n => exact absurd zl lookF_ne
      | ok d2 =>
        rw [zl] at q3
        obtain ⟨w, w1, w2⟩ := lookF_rep o.fnd f3 zl h2 h3
        rw [← en]
        exact ⟨p, _, dx, gs, w, ev, h1, f1, f2, w1, q3 w H1 Same.refl w2⟩
  | _ => exact q1.elim
structure ArgsOk (X : Cx) (c : Fx) (a : T) (es : List Expr) : Prop where
  sh : PA X es (tXL c .share a)
  ns : noStars es = true
  len : ∀ (cl : Pr) (w : Bool) (e : Ev) (ds : List D), evL cl w a e = .ok ds → ds.length = es.length
  nil : es = [] → a = .nil
theorem ArgsOk.nilQ (h : ArgsOk X c a es) : es = [] → ∀ σ H Q, tXL c .share a σ H Q → Q [] H := fun e σ H Q ⟨ev, he, q⟩ => by
  have := h.nil e
  subst this
  exact q [] H Same.refl (show RepL c.tb c.K H (AV c.Xs ev σ) [] [] from .nil)
theorem ArgsOk.st (h : ArgsOk X c a es) : ∀ e0 er, es = e0 :: er → starEach (e0 :: er) X.env = (false, eval e0 X.env) :: starEach er X.env ∧ (backTo pos (starEach er X.env)).any (·.1) = false := fun e0 er e => by
  have := h.ns
  subst e
  obtain ⟨n1, n2⟩ := noStars_cons this
  exact ⟨star_of n1 _ _, back_any n2⟩
theorem Post.ne {m : Md} {σ : L2.St} {H : Hp} {e : Ev} {r : R D} {Q : VK} (h : Post c m σ H e r Q) : r ≠ .bad := fun z => by rw [z] at h; exact h
theorem share_post {fr : Bool} {σ : L2.St} {H : Hp} {e : Ev} {r : R D} {Q : VK} (he : EnvOk c H σ e) (h : Post c .share σ H e r Q) : PostF c.tb c.K fr (AV c.Xs e σ) H r Q (WE c.W σ) := by
  cases r with
  | ok d =>
    intro v H' s rr
    refine h v H' s ?_
    cases fr with
    | true => exact RepF.rep rr he.av
    | false => exact rr
  | exc k => exact fun H' s => h H' s
  | bad => exact h
theorem rule_meth (o : XOk cc X c) (hh : cc.hot = false) {m : Nat} {nm : Str} {ap : Pos} (hn : cc.G.tb.mth[m]? = some nm) (hx : isCall0 x = false) (hl : (ap.endLine == pos.line) = true) (hf : few es = true) (ha : PE X x (tX c .share a)) (hA : ArgsOk X c b es) :
    PEm X c (.Call (.Attribute x nm ap) es [] pos) (.meth m a b) false := by
  have en : mtN c.tb m = nm := by
    unfold mtN
    rw [o.tb, List.getD_eq_getElem?_getD, hn]; rfl
  refine PEm.ofShare rfl (pe_weak (pe_methA (CX := L2.CX X.prog X.w) (E := WE c.W) ha hA.sh (fun σ => passAt o.tk σ) (base_of0 hx) (few_ok hA.ns hf) hl hA.nilQ hA.st) fun σ H Q ⟨e, he, q⟩ => ?_)
  have q' : Post c .share σ H e ((evX c.cl false a e).bind fun x => (objC x).bind fun k => (rOpt (pmt (c.cl.mt k m))).bind fun f => (evL c.cl false b e).bind fun ds => c.cl.fn f (x :: ds)) Q := q
  refine ⟨e, he, q'.step fun d v H1 s1 r1 q1 => ?_⟩
  cases d with
  | obj k fs ds0 =>
    have q2 : Post c .share σ H1 e ((rOpt (pmt (c.cl.mt k m))).bind fun f => (evL c.cl false b e).bind fun ds => c.cl.fn f (.obj k fs ds0 :: ds)) Q := q1
    cases zm : c.cl.mt k m with
    | none => rw [zm] at q2; exact q2.elim
    | some p => obtain ⟨f, mu⟩ := p; cases mu with
      | true => rw [zm] at q2; exact q2.elim
      | false =>
        rw [zm] at q2
        have q3 : Post c .share σ H1 e ((evL c.cl false b e).bind fun ds => c.cl.fn f (.obj k fs ds0 :: ds)) Q := q2
        obtain ⟨hc, fr, fa, fd, ps, sp, kk, n, hm, hr, F, hb, _, hlen, hsp⟩ := o.mt hh k m f false zm
        have r1' : Rep c.tb c.K H1 (AV c.Xs e σ) (.obj k fs ds0) v := r1
        obtain ⟨p, dx, gs, ev, ⟨h1, h1n⟩, h2, h3⟩ := id r1'
        have he1 := he.same s1
        rw [en] at hm
        refine ⟨p, _, dx, gs, fa, fd, ps, sp, [], [], kk, ev, h1, hc, hm, F, hr, hb, .nil, ?_, e, he1, PostL.stepE q3 fun ds vs H2 z s2 r2 q4 => ?_⟩
        · rw [← en]
          exact no_field (o.mok k m (by rw [zm]; exact fun z => nomatch z)) h2
        · have r2' : RepL c.tb c.K H2 (AV c.Xs e σ) ds vs := r2
          rw [List.append_nil]
          refine hsp _ _ _ _ ⟨AV c.Xs e σ, .obj k fs ds0 :: ds, hlen _ (Post.ne q4), (he1.same s2).av, RepL.cons (r1'.evo (Evo.same s2)) r2', share_post (he1.same s2) q4⟩
  | _ => exact q1.elim
theorem selfOf_bad {r : R D} {m : Md} {σ : L2.St} {H : Hp} {e : Ev} {Q : VK} (h : Post c m σ H e (selfOf r) Q) : (∃ s, r = .ok (.tup [.non, s]) ∧ Post c m σ H e (.ok s) Q) ∨ ∃ k, r = .exc k ∧ Post c m σ H e (.exc k) Q := by
  unfold selfOf at h
  split at h
  · exact .inl ⟨_, rfl, h⟩
  · exact .inr ⟨_, rfl, h⟩
  · exact h.elim
theorem cAd_at (o : XOk cc X c) {k : Nat} : cAd c.tb X.K k = cAd c.tb c.K k := by rw [o.K]
theorem make_post {A : Addr → Prop} {fr : Bool} {σ : L2.St} {H : Hp} {e : Ev} {r : R D} {Q : VK} {C p dx : Addr} (eA : A = AV c.Xs e σ) (hp : H p = none) (hdx : H dx = none) (hne : dx ≠ p) (h : Post c .fresh σ H e (selfOf r) Q) :
    PostMu c.tb c.K fr A p (upd (upd H dx (.own p)) p (.ins C dx [])) r (fun v H2 => v = .non ∧ Q (.ref p) H2) (WE c.W σ) := by
  subst eA
  have same : ∀ {H' : Hp} {B : Addr → Prop}, Evo (fun b => b = p) (upd (upd H dx (.own p)) p (.ins C dx [])) B H' → Same H H' := fun {H' B} ev b o hb => by
    refine ev.keep b o ?_ (ne_of_none hb hp)
    rw [upd_ne (ne_of_none hb hp), upd_ne (ne_of_none hb hdx)]
    exact hb
  rcases selfOf_bad h with ⟨s, e1, q⟩ | ⟨k, e1, q⟩
  · subst e1
    intro v H' ev ro rv
    have rv' : v = .non := by
      cases fr with
      | true => exact rv
      | false => exact rv
    replace ro := RepO.evo' (Evo.less fun b z => .inl z) ro fun _ z => z
    refine ⟨rv', q (.ref p) H' (same ev) ?_⟩
    have obj : (∃ a, V.ref p = .ref a ∧ H a = none ∧ RepO c.tb c.K H' (fun b => AV c.Xs e σ b ∨ b = a) a s) := ⟨p, rfl, hp, ro⟩
    show RepF c.tb c.K H H' (AV c.Xs e σ) s (.ref p)
    cases s with
    | lst _ => exact obj
    | obj _ _ _ => exact obj
    | _ => exact ro.elim
  · subst e1
    intro H' ev
    exact q H' (same ev)
theorem rule_mk (o : XOk cc X c) (hh : cc.hot = false) {k f : Nat} {nm : Str} {F0 : FI} {p : Pos} (hg : glB cc.sc nm = true) (hd : dbg nm = false) (hk : cc.G.cs.lookup k = some f) (hF : cc.G.fns[f]? = some F0) (hn : cc.G.tb.cls[k]? = some nm) (hlo : F0.lo = es.length + 1) (hA : ArgsOk X c b es) :
    PEm X c (.Call (.Name nm p) es [] pos) (.mk k b) true := by
  obtain ⟨hi, fa, fd, ps, sp, dvs, dv, kk, M, hr, gm, F, hb, hdv, hsp⟩ := o.ini hh k f nm F0 hk hF hn
  refine PEm.ofFresh rfl (pe_weak (pe_makeA (CX := L2.CX X.prog X.w) (E := WE c.W) M F hr (o.glo hg) gm hb hdv (fun σ => passAt o.tk σ) hA.sh (dbg_no hd).1 hA.nilQ hA.st) fun σ H Q ⟨e, he, q⟩ => ?_)
  have q' : Post c .fresh σ H e ((evL c.cl false b e).bind fun ds => (rOpt (c.cl.ini k)).bind fun f => selfOf (c.cl.fn f (.obj k [] [] :: ds))) Q := q
  rw [hi] at q'
  refine ⟨e, he, PostL.stepE q' fun ds vs H1 z s1 r1 q1 => fun p dx hp hdx hne => ?_⟩
  have r1' : RepL c.tb c.K H1 (AV c.Xs e σ) ds vs := r1
  have he1 := he.same s1
  have hA' : ∀ b, AV c.Xs e σ b → b ≠ p ∧ b ≠ dx := fun b z => ⟨fun y => he1.av b z (by rw [y]; exact hp), fun y => he1.av b z (by rw [y]; exact hdx)⟩
  have kept : ∀ b u, H1 b = some u → (upd (upd H1 dx (.own p)) p (.ins (cAd c.tb c.K k) dx [])) b = some u := fun b u hb => by rw [upd_ne (ne_of_none hb hp), upd_ne (ne_of_none hb hdx)]; exact hb
  refine hsp (.ref p :: vs) _ _ _ ⟨AV c.Xs e σ, p, .obj k [] [], ds, vs, rfl, by rw [hlo, hA.len _ _ _ _ z], fun b z => ?_, fun z => (hA' p z).1 rfl, ⟨dx, [], upd_same, rfl, .nil⟩, r1'.evo ⟨fun b u hb _ => kept b u hb, fun b z => z.imp id fun y => by rw [y]; exact hp⟩, make_post rfl hp hdx hne q1⟩
  rw [upd_ne (hA' b z).1, upd_ne (hA' b z).2]
  exact he1.av b z
theorem pk_weak {kws : List Keyword} {t t' : TA} (h : PK X kws t) (w : ∀ σ H Q, t' σ H Q → t σ H Q) : PK X kws t' := ⟨fun pos pins s σ H Q I q => h.run pos pins s σ H Q I (w σ H Q q)⟩
theorem pk_nilD : PK X [] (tXL c .share .nil) := pk_weak pk_nil fun σ H Q ⟨e, he, q⟩ => q [] H Same.refl (show RepL c.tb c.K H (AV c.Xs e σ) [] [] from .nil)
theorem pk_consD {kw : Keyword} {kws : List Keyword} (ha : PE X kw.value (tX c .share a)) (hb : PK X kws (tXL c .share b)) : PK X (kw :: kws) (tXL c .share (.cons a b)) := by
  obtain ⟨k1, k2, k3⟩ := kw
  refine pk_weak (pk_cons ha hb) fun σ H Q ⟨e, he, q⟩ => ?_
  have q' : PostL c .share σ H e ((evX c.cl false a e).bind fun x => (evL c.cl false b e).bind fun xs => .ok (x :: xs)) Q := q
  exact ⟨e, he, Post.stepL q' fun d v H1 s1 r1 q1 => ⟨e, he.same s1, PostL.stepL q1 fun ds vs H2 s2 r2 q2 => q2 _ H2 Same.refl (RepL.cons (Rep.evo (Evo.same s2) r1) r2)⟩⟩
theorem kw_names0 {kws : List Keyword} {ks : List Str} {env : Env} (h3 : (kws.all fun k => (kwNm k).isSome) = true) (h5 : ks.map some = kws.map kwNm) :
    (backToKw pos (keywordEach kws env)).all (·.1.isSome) = true ∧ (backToKw pos (keywordEach kws env)).filterMap (·.1) = ks ∧ (backToKw pos (keywordEach kws env)).any (·.1.isNone) = false ∧ kws.length = ks.length := by
  induction kws generalizing ks with
  | nil =>
    cases ks with
    | nil => exact ⟨rfl, rfl, rfl, rfl⟩
    | cons _ _ => cases h5
  | cons k kws ih =>
    obtain ⟨k1, k2, k3⟩ := k
    obtain ⟨h6, h7⟩ := and2 (show ((kwNm ⟨k1, k2, k3⟩).isSome && kws.all fun k => (kwNm k).isSome) = true from h3)
    cases ks with
    | nil => cases h5
    | cons x ks =>
      cases k1 with
      | none => cases h6
      | some y =>
        have e1 : some x :: ks.map some = some y :: kws.map kwNm := h5
        simp only [List.cons.injEq, Option.some.injEq] at e1
        obtain ⟨q1, q2, q3, q4⟩ := ih h7 e1.2
        refine ⟨?_, ?_, ?_, by rw [List.length_cons, List.length_cons, q4]⟩
        · show (true && (backToKw pos (keywordEach kws env)).all (·.1.isSome)) = true
          rw [q1]; rfl
        · show y :: (backToKw pos (keywordEach kws env)).filterMap (·.1) = x :: ks
          rw [q2, e1.1]
        · show (false || (backToKw pos (keywordEach kws env)).any (·.1.isNone)) = false
          rw [q3]; rfl
theorem kw_names {pn : List Str} {kn : List Nat} {kws : List Keyword} {ks : List Str} {env : Env} (h : kwN pn kn kws = true) (h2 : kn.map (fun i => pn[i]?) = ks.map some) :
    (backToKw pos (keywordEach kws env)).all (·.1.isSome) = true ∧ (backToKw pos (keywordEach kws env)).filterMap (·.1) = ks ∧ (backToKw pos (keywordEach kws env)).any (·.1.isNone) = false ∧ kws.length = ks.length := by
  obtain ⟨h, h5⟩ := and2 h
  obtain ⟨h, h4⟩ := and2 h
  obtain ⟨h1, h3⟩ := and2 h
  have h6 := of_decide_eq_true h5
  rw [h2] at h6
  exact kw_names0 h3 h6
theorem rule_callk (o : XOk cc X c) (hh : cc.hot = false) {f : Nat} {kn : List Nat} {F0 : FI} {p : Pos} {e0 : Expr} {er : List Expr} {kws : List Keyword} (hg : glB cc.sc F0.nm = true) (hd : dbg F0.nm = false) (hF : cc.G.fns[f]? = some F0) (hgl : F0.glob = true) (hk : (f, kn) ∈ cc.G.kws)
    (hlo : F0.lo = (e0 :: er).length) (hkn : kwN F0.pn kn kws = true) (hA : ArgsOk X c a (e0 :: er)) (hB : PK X kws (tXL c .share b)) (hBl : ∀ (cl : Pr) (w : Bool) (e : Ev) (ds : List D), evL cl w b e = .ok ds → ds.length = kws.length) :
    PEm X c (.Call (.Name F0.nm p) (e0 :: er) kws pos) (.callk f a kn b) F0.fr := by
  obtain ⟨fa, fd, ps, ks, sp, k, g, gV, hr, gm, hkp, F, hb, hks, hsp⟩ := o.kwc hh f F0 kn hF hgl hk
  obtain ⟨k1, k2, k3, k4⟩ := kw_names (pos := pos) (env := X.env) hkn hks
  obtain ⟨n1, n2⟩ := noStars_cons hA.ns
  have hpl : ((backTo pos (starEach (e0 :: er) X.env)).any (·.1) || (backToKw pos (keywordEach kws X.env)).any (·.1.isNone)) = false := by rw [k3, back_any hA.ns]; rfl
  refine mk_call rfl (pe_weak (pe_callKA (CX := L2.CX X.prog X.w) (E := WE c.W) F hr (o.glo hg) gm hkp hb (fun σ => passAt o.tk σ) hA.sh hB k1 k2 (dbg_no hd).1 (star_of n1 _ _) hpl) fun σ H Q ⟨e, he, q⟩ => ?_)
  have key : ∀ {m : Md}, m = (if F0.fr then .fresh else .share) → Post c m σ H e ((evL c.cl false a e).bind fun ds => (evL c.cl false b e).bind fun zs => (rOpt (c.cl.kwf f kn ds zs)).bind fun l => c.cl.fn f l) Q → tCallKA F0.lo ks.length sp gV (WE c.W) (tXL c .share a) (tXL c .share b) σ H Q := fun {m} hm q' => by
    refine ⟨e, he, PostL.stepE q' fun ds vs H1 z s1 r1 q1 => ⟨e, he.same s1, PostL.stepE q1 fun zs ws H2 z2 s2 r2 q2 => ?_⟩⟩
    have r1' : RepL c.tb c.K H1 (AV c.Xs e σ) ds vs := r1
    have r2' : RepL c.tb c.K H2 (AV c.Xs e σ) zs ws := r2
    refine ⟨by rw [r1'.length, hA.len _ _ _ _ z, hlo], by rw [r2'.length, hBl _ _ _ _ z2, k4], ?_⟩
    cases zk : c.cl.kwf f kn ds zs with
    | none => rw [zk] at q2; exact q2.elim
    | some l =>
      rw [zk] at q2
      have q3 : Post c m σ H2 e (c.cl.fn f l) Q := q2
      refine hsp (AV c.Xs e σ) ds zs l vs ws H2 Q _ ((he.same s1).same s2).av (by rw [hA.len _ _ _ _ z, hlo]) (r1'.evo (Evo.same s2)) r2' zk ?_
      revert q3
      rw [hm]
      cases c.cl.fn f l with
      | ok d2 => exact fun q v H2 s2 r2 => q v H2 s2 r2
      | exc k => exact fun q H2 s2 => q H2 s2
      | bad => exact id
  cases hfr : F0.fr with
  | true => rw [hfr] at q; exact key (m := .fresh) (by rw [hfr]; rfl) q
  | false => rw [hfr] at q; exact key (m := .share) (by rw [hfr]; rfl) q
theorem rule_mkk (o : XOk cc X c) (hh : cc.hot = false) {k f : Nat} {kn : List Nat} {nm : Str} {F0 : FI} {p : Pos} {e0 : Expr} {er : List Expr} {kws : List Keyword} (hg : glB cc.sc nm = true) (hd : dbg nm = false) (hk : cc.G.cs.lookup k = some f) (hF : cc.G.fns[f]? = some F0) (hn : cc.G.tb.cls[k]? = some nm) (hkm : (f, kn) ∈ cc.G.kws)
    (hlo : F0.lo = (e0 :: er).length + 1) (hkn : kwN F0.pn kn kws = true) (hA : ArgsOk X c a (e0 :: er)) (hB : PK X kws (tXL c .share b)) (hBl : ∀ (cl : Pr) (w : Bool) (e : Ev) (ds : List D), evL cl w b e = .ok ds → ds.length = kws.length) :
    PEm X c (.Call (.Name nm p) (e0 :: er) kws pos) (.mkk k a kn b) true := by
  obtain ⟨hi, _⟩ := o.ini hh k f nm F0 hk hF hn
  obtain ⟨fa, fd, ps, ks, sp, kk, g, gV, M, hr, gm, F, hb, hks, hsp⟩ := o.inik hh k f nm F0 kn hk hF hn hkm
  obtain ⟨k1, k2, k3, k4⟩ := kw_names (pos := pos) (env := X.env) hkn hks
  obtain ⟨n1, n2⟩ := noStars_cons hA.ns
  have hpl : ((backTo pos (starEach (e0 :: er) X.env)).any (·.1) || (backToKw pos (keywordEach kws X.env)).any (·.1.isNone)) = false := by rw [k3, back_any hA.ns]; rfl
  have hb' : KBn X.K fd ps ((e0 :: er).length + 1) ks g gV := by rw [← hlo]; exact hb
  refine PEm.ofFresh rfl (pe_weak (pe_makeKA (CX := L2.CX X.prog X.w) (E := WE c.W) M F hr (o.glo hg) gm hb' (fun σ => passAt o.tk σ) hA.sh hB k1 k2 (dbg_no hd).1 (star_of n1 _ _) hpl) fun σ H Q ⟨e, he, q⟩ => ?_)
  have q' : Post c .fresh σ H e ((evL c.cl false a e).bind fun ds => (evL c.cl false b e).bind fun zs => (rOpt (c.cl.ini k)).bind fun f => (rOpt (c.cl.kwf f kn (.obj k [] [] :: ds) zs)).bind fun l => selfOf (c.cl.fn f l)) Q := q
  rw [hi] at q'
  refine ⟨e, he, PostL.stepE q' fun ds vs H1 z s1 r1 q1 => ⟨e, he.same s1, PostL.stepE q1 fun zs ws H2 z2 s2 r2 q2 => ?_⟩⟩
  have r1' : RepL c.tb c.K H1 (AV c.Xs e σ) ds vs := r1
  have r2' : RepL c.tb c.K H2 (AV c.Xs e σ) zs ws := r2
  refine ⟨by rw [r1'.length, hA.len _ _ _ _ z], by rw [r2'.length, hBl _ _ _ _ z2, k4], fun p dx hp hdx hne => ?_⟩
  have q3 : Post c .fresh σ H2 e ((rOpt (c.cl.kwf f kn (.obj k [] [] :: ds) zs)).bind fun l => selfOf (c.cl.fn f l)) Q := q2
  cases zk : c.cl.kwf f kn (.obj k [] [] :: ds) zs with
  | none => rw [zk] at q3; exact q3.elim
  | some l =>
    rw [zk] at q3
    have he2 := (he.same s1).same s2
    have hA' : ∀ b, AV c.Xs e σ b → b ≠ p ∧ b ≠ dx := fun b z => ⟨fun y => he2.av b z (by rw [y]; exact hp), fun y => he2.av b z (by rw [y]; exact hdx)⟩
    have kept : ∀ b u, H2 b = some u → (upd (upd H2 dx (.own p)) p (.ins (cAd c.tb c.K k) dx [])) b = some u := fun b u hb => by rw [upd_ne (ne_of_none hb hp), upd_ne (ne_of_none hb hdx)]; exact hb
    have ev : Evo (AV c.Xs e σ) H2 (fun b => AV c.Xs e σ b ∨ b = p) (upd (upd H2 dx (.own p)) p (.ins (cAd c.tb c.K k) dx [])) := ⟨fun b u hb _ => kept b u hb, fun b z => z.imp id fun y => by rw [y]; exact hp⟩
    refine hsp (AV c.Xs e σ) p (.obj k [] []) ds zs l vs ws _ _ _ (fun b z => ?_) (fun z => (hA' p z).1 rfl) ⟨dx, [], upd_same, rfl, .nil⟩ (by rw [hA.len _ _ _ _ z, hlo]) ((r1'.evo (Evo.same s2)).evo ev) (r2'.evo ev) zk (make_post rfl hp hdx hne q3)
    rw [upd_ne (hA' b z).1, upd_ne (hA' b z).2]
    exact he2.av b z
end
end VE
namespace VE
open PySem PySem.Spec PyProof.Rows L2
section
variable {prog : Program} {w : World} {A : Around} {R : Result → Shared → Prop} {I S : Addr} {fp wr : List Addr} {n : Nat} {P : Nat → Value → Prop} {St : Nat → Heap → Prop} {d : Value} {bt : Nat → Nat → Bool}
def mxC (I S : Addr) (d : Value) : Code := .builtin "max.loop" ⟨[.ref I, .none, .ref S], [("default", d)]⟩
theorem mxN : (toString "max" ++ toString ".loop" : String) = "max.loop" := by decide
theorem mxQ : (mxC I S d).quiet = true := plainId_quiet PySem.F.plain_max_loop _
def mxR (S : Addr) (wr : List Addr) (P : Nat → Value → Prop) (k : Nat) (R : Result → Shared → Prop) (s : Shared) : Prop := ∀ v h' tk, P k v → (∀ b o, b ∉ wr → b ≠ S → s.heap.get? b = some o → h'.get? b = some o) → R (.ok (.ret v)) { s with heap := h', toks := tk }
theorem mx_go (W : Walks prog w A.in1 I fp wr n P St) (hg : CmpOf prog w A.in1 .Gt P bt) (nS : S ∉ fp) : ∀ (r j : Nat) (s : Shared) (u : Value) (c : Nat), n = r + (j + 1) → St (j + 1) s.heap → P (argBest bt j) u →
    s.heap.get? S = some { cls := .type "list", dict := none, data := .seq #[u, u] c, slots := #[] } → mxR S wr P (argBest bt (n - 1)) R s → codeAny (model prog w) A (mxC I S d) R s := by
  have nW : S ∉ wr := fun z => nS (W.sub _ z)
  intro r
  induction r with
  | zero =>
    intro j s u c hn st pu gS q
    have en : j + 1 = n := by omega
    refine codeAny_builtin PySem.F.entry_max_loop ?_; rw [Around.under_plainId PySem.F.plain_max_loop _]
    show wpAny _ A.in1 (seqItems? (.ref S) >>= _) _ _ s; refine wpAny_bind (wpAny_seqItems gS rfl ?_)
    show wpAny _ A.in1 (tryCatch (pyNext (.ref I)) _ >>= _) _ _ s; refine wpAny_bind (wpAny_tryCatch (W.done s _ _ (en ▸ st) fun h' tk hk' => ?_))
    show wpAny _ A.in1 (updateSeq S (fun _ => #[]) >>= _) _ _ _; refine wpAny_bind (wpAny_updateSeq (hk' S _ nW gS) rfl (wpAny_bind (wpAny_letGo (wpAny_pure ?_))))
    exact q u _ tk (by rw [← en]; exact pu) fun b o z1 z2 e => (Heap.get?_update_other _ _ (Ne.symm z2)).trans (hk' b o z1 e)
  | succ r ih =>
    intro j s u c hn st pu gS q
    refine codeAny_builtin PySem.F.entry_max_loop ?_; rw [Around.under_plainId PySem.F.plain_max_loop _]
    show wpAny _ A.in1 (seqItems? (.ref S) >>= _) _ _ s; refine wpAny_bind (wpAny_seqItems gS rfl ?_)
    show wpAny _ A.in1 (tryCatch (pyNext (.ref I)) _ >>= _) _ _ s; refine wpAny_bind (wpAny_tryCatch (W.item (j + 1) s _ _ (by omega) st fun v h' tk pv st' hk' => ?_))
    have gS' := hk' S _ nW gS
    show wpAny _ A.in1 (tryCatch (holding [v, v] (richCompare .Gt v u >>= _)) _ >>= _) _ _ _
    refine wpAny_bind (wpAny_tryCatch (wpAny_holding (wpAny_bind (hg (j + 1) (argBest bt j) v u _ _ _ pv pu ?_))))
    refine wpAny_bind (wpAny_holding (wpAny_truthy_bool (wpAny_bind (wpAny_letGo (wpAny_pure ?_)))))
    by_cases hb : bt (j + 1) (argBest bt j) = true
    · rw [hb, if_pos rfl]
      refine wpAny_bind (wpAny_updateSeq gS' rfl (wpAny_bind (wpAny_letGo ?_))); rw [mxN]
      refine wpAny_pure ⟨mxQ (I := I) (S := S) (d := d), ih (j + 1) _ v _ (by omega) (W.frame _ _ _ st' fun b z o e => ?_) (by unfold argBest; rw [if_pos hb]; exact pv) (Heap.get?_update_self _ gS' rfl) fun y h2 tk2 py k2 => ?_⟩
      · exact (Heap.get?_update_other _ _ fun z2 : S = b => nS (z2 ▸ z)).trans e
      · exact q y h2 tk2 py fun b o z1 z2 e => k2 b o z1 z2 ((Heap.get?_update_other _ _ (Ne.symm z2)).trans (hk' b o z1 e))
    · rw [if_neg hb]
      refine wpAny_bind (wpAny_letGo ?_); rw [mxN]
      refine wpAny_pure ⟨mxQ (I := I) (S := S) (d := d), ih (j + 1) _ u c (by omega) st' (by unfold argBest; rw [if_neg hb]; exact pu) gS' fun y h2 tk2 py k2 => ?_⟩
      exact q y h2 tk2 py fun b o z1 z2 e => k2 b o z1 z2 (hk' b o z1 e)
theorem mx_at (W : Walks prog w A.in1 I fp wr n P St) (hg : CmpOf prog w A.in1 .Gt P bt) (nS : S ∉ fp) {s : Shared} {c : Nat} (st : St 0 s.heap) (gS : s.heap.get? S = some { cls := .type "list", dict := none, data := .seq #[] c, slots := #[] })
    (q : 0 < n → mxR S wr P (argBest bt (n - 1)) R s) (q0 : n = 0 → ∀ h' tk, (∀ b o, b ∉ wr → s.heap.get? b = some o → h'.get? b = some o) → R (.ok (.ret d)) { s with heap := h', toks := tk }) : codeAny (model prog w) A (mxC I S d) R s := by
  have nW : S ∉ wr := fun z => nS (W.sub _ z)
  refine codeAny_builtin PySem.F.entry_max_loop ?_; rw [Around.under_plainId PySem.F.plain_max_loop _]
  show wpAny _ A.in1 (seqItems? (.ref S) >>= _) _ _ s; refine wpAny_bind (wpAny_seqItems gS rfl ?_)
  show wpAny _ A.in1 (tryCatch (pyNext (.ref I)) _ >>= _) _ _ s
  rcases Nat.eq_zero_or_pos n with e | hn
  · refine wpAny_bind (wpAny_tryCatch (W.done s _ _ (e ▸ st) fun h' tk hk' => ?_))
    show wpAny _ A.in1 (rule _ >>= _) _ _ _
    refine wpAny_bind (wpAny_rule (wpAny_pure ?_))
    exact q0 e h' tk hk'
  · refine wpAny_bind (wpAny_tryCatch (W.item 0 s _ _ hn st fun v h' tk pv st' hk' => ?_))
    have gS' := hk' S _ nW gS
    show wpAny _ A.in1 (updateSeq S (fun _ => #[v, v]) >>= _) _ _ _; refine wpAny_bind (wpAny_updateSeq gS' rfl ?_); rw [mxN]
    refine wpAny_pure ⟨mxQ (I := I) (S := S) (d := d), mx_go W hg nS (n - 1) 0 _ v _ (by omega) (W.frame _ _ _ st' fun b z o e => ?_) pv (Heap.get?_update_self _ gS' rfl) fun y h2 tk2 py k2 => ?_⟩
    · exact (Heap.get?_update_other _ _ fun z2 : S = b => nS (z2 ▸ z)).trans e
    · exact q hn y h2 tk2 py fun b o z1 z2 e => k2 b o z1 z2 ((Heap.get?_update_other _ _ (Ne.symm z2)).trans (hk' b o z1 e))
end
section
variable {prog : Program} {w : World} {A : Around} {E : Value → Shared → Prop} {s : Shared}
theorem mx_args (a b : Value) : argsOk "max" ⟨[a], [("default", b)]⟩ := by unfold argsOk; kernel_rfl
theorem mx_call {l : Addr} {xs : Array (Int × Tok)} {d : Value} {Q : Value → Shared → Prop} (hh : A.handled = none) (hl : s.heap.IsList l (intItems xs))
    (h : ∀ v h' tk, 0 < xs.size → (intItems xs)[argBest (fun i j => decide (numAt xs i > numAt xs j)) (xs.size - 1)]? = some v → (∀ b o, s.heap.get? b = some o → h'.get? b = some o) → Q v { s with heap := h', toks := tk })
    (h0 : xs.size = 0 → ∀ h' tk, (∀ b o, s.heap.get? b = some o → h'.get? b = some o) → Q d { s with heap := h', toks := tk }) :
    wpAny (model prog w) A (call (.builtin "max") [.ref l] [("default", d)]) Q E s := by
  refine wpAny_call (codeAny_call_builtin PySem.F.plain_max PySem.F.entry_max ?_)
  have ck : ∀ {QQ : Unit → Shared → Prop} {EE : Value → Shared → Prop}, QQ () s → wpAny (model prog w) A.in1 (checkBuiltinCall "max" ⟨[.ref l], [("default", d)]⟩) QQ EE s := fun {QQ EE} q => by
    simp only [checkBuiltinCall, PySem.F.kind_max]
    cases hs : Manifest.signature? "max" with
    | none => exact wpAny_pure q
    | some sig =>
      have ha := mx_args (.ref l) d
      simp only [argsOk, hs] at ha
      show wpAny _ A.in1 (Bind.checkArgs "max" sig _) _ _ s
      rw [show Bind.checkArgs "max" sig ⟨[.ref l], [("default", d)]⟩ = pure () from ha]
      exact wpAny_pure q
  refine ck ?_
  show wpAny _ A.in1 (Builtin.Builtins.bindParams "max" ["key", "default"] 0 ⟨[], [("default", d)]⟩ >>= _) _ _ s
  refine wpAny_bind (wpAny_of_eq (show Builtin.Builtins.bindParams "max" ["key", "default"] 0 ⟨[], [("default", d)]⟩ = pure [none, some d] from rfl) (wpAny_bind (wpAny_pure ?_)))
  refine wpAny_bind (iter_intList hl fun s2 e st hfp hne => ?_)
  subst e
  refine wpAny_bind (wpAny_newObj_type ?_)
  rw [mxN]
  refine wpAny_pure ⟨mxQ (d := d), mx_at (Walks.list (A := A.in1) hh _ l hne (intItems xs)) (CmpOf.ints_gt (numAt xs) fun _ _ => intItems_at) (fun z => Nat.lt_irrefl _ (hfp _ z)) ?_ (Heap.get?_push_size _ rfl) (fun hn => ?_) fun hn => ?_⟩
  · exact (Walks.list (A := A.in1) (prog := prog) (w := w) hh _ l hne (intItems xs)).frame _ _ _ st fun b _ o e => Heap.get?_push_of_some _ e
  · have en : (intItems xs).size = xs.size := by simp [intItems]
    intro v h' tk pv k
    refine h v h' tk (by rw [← en]; exact hn) (by simpa [en] using pv) fun b o e => k b o ?_ ?_ (Heap.get?_push_of_some _ (Heap.get?_push_of_some _ e))
    · intro z
      have z' : b = s.heap.objs.size := by simpa using z
      exact Nat.lt_irrefl _ (z' ▸ Heap.lt_size e)
    · intro z
      have lt := Heap.lt_size e
      have z' : b = (s.heap.push { cls := .type "list_iterator", data := .fields #[.ref l, .int 0 0] }).objs.size := z
      rw [Heap.size_push] at z'
      exact Nat.lt_irrefl _ (Nat.lt_of_succ_lt (z' ▸ lt))
  · intro h' tk k
    have en : (intItems xs).size = xs.size := by simp [intItems]
    refine h0 (by rw [← en]; exact hn) h' tk fun b o e => k b o ?_ (Heap.get?_push_of_some _ (Heap.get?_push_of_some _ e))
    intro z
    have z' : b = s.heap.objs.size := by simpa using z
    exact Nat.lt_irrefl _ (z' ▸ Heap.lt_size e)
end
end VE
namespace VE
open PySem PySem.Spec PyProof.Rows L2
def Lat (w : Bool) (A0 : Addr → Prop) (H1 : Hp) (A2 : Addr → Prop) (H2 : Hp) : Prop := Evo A0 H1 A2 H2 ∧ (w = true → Same H1 H2)
def ItOk (tb : Tb) (K : PySem.W.Frag) (w : Bool) (A0 : Addr → Prop) (H1 : Hp) (J : It) (ds : List D) : Prop :=
  (∀ (A2 : Addr → Prop) (H2 : Hp) (i : Nat) (d : D), (∀ a, A2 a → H2 a ≠ none) → Lat w A0 H1 A2 H2 → ds[i]? = some d → J.go i H2 ∧ ∀ x H', J.yld i H2 x H' → Same H2 H' ∧ Rep tb K H' A2 d x) ∧
  ∀ (A2 : Addr → Prop) (H2 : Hp), Lat w A0 H1 A2 H2 → J.stop ds.length H2
def PostI (c : Fx) (w : Bool) (σ : L2.St) (H : Hp) (e : Ev) (r : R (List D)) (Q : It → Hp → Prop) : Prop := match r with
  | .ok ds => ∀ J H', Same H H' → ItOk c.tb c.K w (AV c.Xs e σ) H' J ds → Q J H'
  | .exc k => ∀ H', Same H H' → c.W (.ref (cAd c.tb c.K k)) none σ H'
  | .bad => False
def tXI (c : Fx) (w : Bool) (t : T) : TI := fun σ H R => ∃ e, EnvOk c H σ e ∧ PostI c w σ H e (evI c.cl w t e) R
theorem PostI.later {c : Fx} {w : Bool} {σ : L2.St} {H H1 : Hp} {e : Ev} {r : R (List D)} {Q : It → Hp → Prop} (s : Same H H1) (h : PostI c w σ H e r Q) : PostI c w σ H1 e r Q := by
  cases r with
  | ok d => exact fun J H' s' r => h J H' (s.trans s') r
  | exc k => exact fun H' s' => h H' (s.trans s')
  | bad => exact h
def wMd : Bool → Md
  | true => .look
  | false => .share
theorem lk_w (w : Bool) : lk (wMd w) = w := by cases w <;> rfl
theorem Post.stepI {c : Fx} {m : Md} {w : Bool} {σ : L2.St} {H : Hp} {e : Ev} {r : R D} {k : D → R (List D)} {Q : It → Hp → Prop} (h : PostI c w σ H e (r.bind k) Q) {Q' : VK}
    (q : ∀ d v H', Same H H' → RepM c.tb c.K m H H' (AV c.Xs e σ) d v → PostI c w σ H' e (k d) Q → Q' v H') : Post c m σ H e r Q' := by
  cases r with
  | ok d => exact fun v H' s r => q d v H' s r (PostI.later s h)
  | exc c => exact h
  | bad => exact h
section
variable {tb : Tb} {K : PySem.W.Frag} {w : Bool} {A0 : Addr → Prop} {H1 : Hp} {ds es : List D} {vs us : List V} {a b : Addr} {d : D} {v : V}
theorem srcL (h : RepM tb K (wMd w) H1 H1 A0 (.lst ds) v) : ∃ a vs, v = .ref a ∧ RepL tb K H1 A0 ds vs ∧ ∀ A2 H2, Lat w A0 H1 A2 H2 → SqL K H2 a vs := by
  cases w with
  | true =>
    obtain ⟨a, vs, e, h1, r⟩ := RepC.lst (show RepC tb K H1 A0 (.lst ds) v from h)
    exact ⟨a, vs, e, r, fun A2 H2 l => SqL.of (l.2 rfl a _ h1)⟩
  | false =>
    obtain ⟨a, vs, e, ⟨h1, n⟩, r⟩ := (show Rep tb K H1 A0 (.lst ds) v from h)
    exact ⟨a, vs, e, r, fun A2 H2 l => SqL.of (l.1.keep a _ h1 n)⟩
theorem srcF (h : RepM tb K (wMd w) H1 H1 A0 (.frz ds) v) : ∃ a vs, v = .ref a ∧ RepL tb K H1 A0 ds vs ∧ ∀ A2 H2, Lat w A0 H1 A2 H2 → SqL K H2 a vs := by
  obtain ⟨a, vs, e, h1, r⟩ := (show ∃ a vs, v = .ref a ∧ ((∃ o, H1 a = some (.frz o (.lst vs)) ∧ ¬ A0 a) ∨ KLst K a vs) ∧ RepL tb K H1 A0 ds vs by
    cases w with
    | true => exact RepC.frz (show RepC tb K H1 A0 (.frz ds) v from h)
    | false => exact h)
  refine ⟨a, vs, e, r, fun A2 H2 l => ?_⟩
  rcases h1 with ⟨o, h1, n⟩ | h1
  · exact .inl (.inr ⟨o, l.1.keep a _ h1 n⟩)
  · exact .inr h1
theorem srcT (h : RepM tb K (wMd w) H1 H1 A0 (.tup ds) v) : ∃ a vs, v = .ref a ∧ RepL tb K H1 A0 ds vs ∧ ∀ A2 H2, Lat w A0 H1 A2 H2 → SqT K H2 a vs := by
  obtain ⟨a, vs, e, h1, r⟩ := (show ∃ a vs, v = .ref a ∧ ((H1 a = some (.tup vs) ∧ ¬ A0 a) ∨ KTup K a vs) ∧ RepL tb K H1 A0 ds vs by
    cases w with
    | true => exact RepC.tup (show RepC tb K H1 A0 (.tup ds) v from h)
    | false => exact h)
  refine ⟨a, vs, e, r, fun A2 H2 l => ?_⟩
  rcases h1 with ⟨h1, n⟩ | h1
  · exact .inl (.inl (l.1.keep a _ h1 n))
  · exact .inr h1
theorem repM_now {m : Md} {H0 : Hp} (hm : m ≠ .fresh) (h : RepM tb K m H0 H1 A0 d v) : RepM tb K m H1 H1 A0 d v := by
  cases m with
  | look => exact h
  | share => exact h
  | fresh => exact absurd rfl hm
theorem wMd_ne : wMd w ≠ .fresh := by cases w <;> exact fun h => nomatch h
theorem it_get (r : RepL tb K H1 A0 ds vs) {A2 : Addr → Prop} {H2 : Hp} (l : Lat w A0 H1 A2 H2) {i : Nat} (e : ds[i]? = some d) : ∃ x, vs[i]? = some x ∧ Rep tb K H2 A2 d x := by
  obtain ⟨x, h1, h2⟩ := r.get e
  exact ⟨x, h1, h2.evo l.1⟩
theorem it_list (r : RepL tb K H1 A0 ds vs) (h : ∀ A2 H2, Lat w A0 H1 A2 H2 → SqL K H2 a vs) : ItOk tb K w A0 H1 (Itl K a) ds := by
  refine ⟨fun A2 H2 i d _ l e => ?_, fun A2 H2 l => ⟨vs, h _ _ l, by rw [r.length]; exact Nat.le_refl _⟩⟩
  obtain ⟨x, h1, h2⟩ := it_get r l e
  refine ⟨⟨vs, x, h _ _ l, h1⟩, fun y H' ⟨e1, e2⟩ => ?_⟩
  subst e1
  have := e2 vs (h _ _ l)
  rw [h1] at this
  cases this
  exact ⟨Same.refl, h2⟩
theorem it_tup (r : RepL tb K H1 A0 ds vs) (h : ∀ A2 H2, Lat w A0 H1 A2 H2 → SqT K H2 a vs) : ItOk tb K w A0 H1 (Itt K a) ds := by
  refine ⟨fun A2 H2 i d _ l e => ?_, fun A2 H2 l => ⟨vs, h _ _ l, by rw [r.length]; exact Nat.le_refl _⟩⟩
  obtain ⟨x, h1, h2⟩ := it_get r l e
  refine ⟨⟨vs, x, h _ _ l, h1⟩, fun y H' ⟨e1, e2⟩ => ?_⟩
  subst e1
  have := e2 vs (h _ _ l)
  rw [h1] at this
  cases this
  exact ⟨Same.refl, h2⟩
theorem it_str (s : List Nat) : ItOk tb K w A0 H1 (Its (dS s)) (s.map fun c => .str [c]) := by
  have sz : (dS s).cps.size = s.length := by show s.toArray.size = _; simp
  refine ⟨fun A2 H2 i d _ l e => ?_, fun A2 H2 l => by show (dS s).cps.size ≤ _; rw [sz, List.length_map]; exact Nat.le_refl _⟩
  rw [List.getElem?_map] at e
  cases z : s[i]? with
  | none => rw [z] at e; cases e
  | some c =>
    rw [z] at e
    cases e
    have hi : i < s.length := (List.getElem?_eq_some_iff.mp z).1
    refine ⟨by show i < (dS s).cps.size; rw [sz]; exact hi, fun y H' ⟨e1, c', e2, e3⟩ => ?_⟩
    subst e1
    have e4 : s[i]? = some c' := by have := e2; show _ = _; rw [← this]; show s[i]? = (s.toArray)[i]?; simp
    rw [z] at e4
    cases e4
    subst e3
    exact ⟨Same.refl, rfl⟩
theorem rng_get {lo k : Int} {n i : Nat} (e : (rngL lo k n)[i]? = some d) : i < n ∧ d = .int (lo + (i : Int) * k) := by
  unfold rngL at e
  rw [List.getElem?_map] at e
  cases z : (List.range n)[i]? with
  | none => rw [z] at e; cases e
  | some j =>
    rw [z] at e
    obtain ⟨h1, h2⟩ := List.getElem?_eq_some_iff.mp z
    rw [List.getElem_range] at h2
    subst h2
    rw [List.length_range] at h1
    cases e
    exact ⟨h1, rfl⟩
theorem rng_len (lo k : Int) (n : Nat) : (rngL lo k n).length = n := by unfold rngL; simp
theorem it_rng (lo : Int) (n : Nat) : ItOk tb K w A0 H1 (Itr lo n) (rngL lo 1 n) := by
  refine ⟨fun A2 H2 i d _ l e => ?_, fun A2 H2 l => by rw [rng_len]; exact Nat.le_refl _⟩
  obtain ⟨h1, h2⟩ := rng_get e
  refine ⟨h1, fun y H' ⟨e1, e2⟩ => ?_⟩
  subst e1 e2 h2
  refine ⟨Same.refl, ?_⟩
  show V.int (lo + i) = .int (lo + (i : Int) * 1)
  rw [Int.mul_one]
theorem it_rngC (lo k : Int) (n : Nat) : ItOk tb K w A0 H1 (Itc lo k n) (rngL lo k n) := by
  refine ⟨fun A2 H2 i d _ l e => ?_, fun A2 H2 l => by rw [rng_len]; exact Nat.le_refl _⟩
  obtain ⟨h1, h2⟩ := rng_get e
  refine ⟨h1, fun y H' ⟨e1, e2⟩ => ?_⟩
  subst e1 e2 h2
  exact ⟨Same.refl, rfl⟩
theorem rev_get {α : Type} {xs : List α} {i : Nat} {x : α} (e : xs.reverse[i]? = some x) : i < xs.length ∧ xs[xs.length - 1 - i]? = some x := by
  obtain ⟨h1, h2⟩ := List.getElem?_eq_some_iff.mp e
  rw [List.length_reverse] at h1
  refine ⟨h1, ?_⟩
  rw [List.getElem_reverse] at h2
  rw [List.getElem?_eq_some_iff]
  exact ⟨by omega, h2⟩
theorem it_rev (r : RepL tb K H1 A0 ds vs) (h : ∀ A2 H2, Lat w A0 H1 A2 H2 → SqL K H2 a vs) : ItOk tb K w A0 H1 (Itv K a vs.length) ds.reverse := by
  refine ⟨fun A2 H2 i d _ l e => ?_, fun A2 H2 l => by rw [List.length_reverse, ← r.length]; exact Nat.le_refl _⟩
  obtain ⟨hi, e'⟩ := rev_get e
  obtain ⟨x, h1, h2⟩ := it_get r l e'
  rw [← r.length] at hi h1
  refine ⟨⟨hi, vs, x, h _ _ l, h1⟩, fun y H' ⟨e1, e2⟩ => ?_⟩
  subst e1
  have := e2 vs (h _ _ l)
  rw [h1] at this
  cases this
  exact ⟨Same.refl, h2⟩
theorem it_revT (r : RepL tb K H1 A0 ds vs) (h : ∀ A2 H2, Lat w A0 H1 A2 H2 → SqT K H2 a vs) : ItOk tb K w A0 H1 (RT.ItvT K a vs.length) ds.reverse := by
  refine ⟨fun A2 H2 i d _ l e => ?_, fun A2 H2 l => by rw [List.length_reverse, ← r.length]; exact Nat.le_refl _⟩
  obtain ⟨hi, e'⟩ := rev_get e
  obtain ⟨x, h1, h2⟩ := it_get r l e'
  rw [← r.length] at hi h1
  refine ⟨⟨hi, vs, x, h _ _ l, h1⟩, fun y H' ⟨e1, e2⟩ => ?_⟩
  subst e1
  have := e2 vs (h _ _ l)
  rw [h1] at this
  cases this
  exact ⟨Same.refl, h2⟩
theorem zip_get {α β : Type} {xs : List α} {ys : List β} {i : Nat} {p : α × β} (e : (xs.zip ys)[i]? = some p) : xs[i]? = some p.1 ∧ ys[i]? = some p.2 := by
  rw [List.getElem?_zip_eq_some] at e
  exact e
theorem it_zip {J : It} {Sq : Hp → Addr → List V → Prop} (hJ : J = ⟨fun i H => ∃ (xs ys : List V) (x y : V), Sq H a xs ∧ Sq H b ys ∧ xs[i]? = some x ∧ ys[i]? = some y,
    fun i H v H' => ∃ T x y, v = .ref T ∧ H T = none ∧ H' = upd H T (.tup [x, y]) ∧ (∀ xs, Sq H a xs → xs[i]? = some x) ∧ ∀ ys, Sq H b ys → ys[i]? = some y,
    fun i H => ∃ xs ys : List V, Sq H a xs ∧ Sq H b ys ∧ (xs.length ≤ i ∨ ys.length ≤ i)⟩)
    (r : RepL tb K H1 A0 ds vs) (h : ∀ A2 H2, Lat w A0 H1 A2 H2 → Sq H2 a vs) (r' : RepL tb K H1 A0 es us) (h' : ∀ A2 H2, Lat w A0 H1 A2 H2 → Sq H2 b us) : ItOk tb K w A0 H1 J ((ds.zip es).map fun p => .tup [p.1, p.2]) := by
  subst hJ
  refine ⟨fun A2 H2 i d ha l e => ?_, fun A2 H2 l => ⟨vs, us, h _ _ l, h' _ _ l, ?_⟩⟩
  · rw [List.getElem?_map] at e
    cases z : (ds.zip es)[i]? with
    | none => rw [z] at e; cases e
    | some p =>
      rw [z] at e
      cases e
      obtain ⟨z1, z2⟩ := zip_get z
      obtain ⟨x, h1, h2⟩ := it_get r l z1
      obtain ⟨y, h3, h4⟩ := it_get r' l z2
      refine ⟨⟨vs, us, x, y, h _ _ l, h' _ _ l, h1, h3⟩, fun v H' ⟨t, x', y', e1, e2, e3, e4, e5⟩ => ?_⟩
      have q1 := e4 vs (h _ _ l)
      have q2 := e5 us (h' _ _ l)
      rw [h1] at q1
      rw [h3] at q2
      cases q1
      cases q2
      subst e1 e3
      exact ⟨same_upd e2, new_tup e2 ha (RepL.cons h2 (RepL.cons h4 .nil))⟩
  · rw [List.length_map, List.length_zip, r.length, r'.length]
    omega
theorem it_enum (r : RepL tb K H1 A0 ds vs) (h : ∀ A2 H2, Lat w A0 H1 A2 H2 → SqL K H2 a vs) : ItOk tb K w A0 H1 (Ite K a) (ds.zipIdx.map fun p => .tup [.int (p.2 : Nat), p.1]) := by
  refine ⟨fun A2 H2 i d ha l e => ?_, fun A2 H2 l => ⟨vs, h _ _ l, by rw [List.length_map, List.length_zipIdx, r.length]; exact Nat.le_refl _⟩⟩
  rw [List.getElem?_map, List.getElem?_zipIdx] at e
  cases z : ds[i]? with
  | none => rw [z] at e; cases e
  | some p =>
    rw [z] at e
    cases e
    obtain ⟨x, h1, h2⟩ := it_get r l z
    refine ⟨⟨vs, x, h _ _ l, h1⟩, fun v H' ⟨t, x', e1, e2, e3, e4⟩ => ?_⟩
    have q1 := e4 vs (h _ _ l)
    rw [h1] at q1
    cases q1
    subst e1 e3
    refine ⟨same_upd e2, new_tup e2 ha (RepL.cons ?_ (RepL.cons h2 .nil))⟩
    show V.int ((i : Nat) : Int) = .int ((0 + i : Nat) : Int)
    rw [Nat.zero_add]
end
end VE
namespace VE
open PySem PySem.Spec PyProof.Rows L2
section
variable {cc : CC} {X : Cx} {c : Fx} {a b d : T} {x y z tg : Expr} {pos : Pos} {es : List Expr} {w : Bool}
theorem tx_w {σ : L2.St} {H : Hp} {e : Ev} {Q : VK} (he : EnvOk c H σ e) (h : Post c (wMd w) σ H e (evX c.cl w a e) Q) : tX c (wMd w) a σ H Q := ⟨e, he, by rw [lk_w]; exact h⟩
theorem tx_ok {σ : L2.St} {H : Hp} {e : Ev} {Q : VK} {dv : D} (he : EnvOk c H σ e) (zz : evX c.cl w a e = .ok dv) (h : ∀ v H', Same H H' → RepM c.tb c.K (wMd w) H H' (AV c.Xs e σ) dv v → Q v H') : tX c (wMd w) a σ H Q := tx_w he (by rw [zz]; exact h)
theorem rule_itr (o : XOk cc X c) (ha : PE X x (tX c (wMd w) a)) : PI X tg x (tXI c w (.itr a)) := by
  have h1 := pi_list (tg := tg) ha
  have h2 := pi_tup (tg := tg) ha
  rw [← o.K] at h1 h2
  refine pi_weak (pi_or (pi_or h1 h2) (pi_str ha)) fun σ H R ⟨e, he, q⟩ => ?_
  have q' : PostI c w σ H e ((evX c.cl w a e).bind itemsOf) R := q
  cases zz : evX c.cl w a e with
  | bad => rw [zz] at q'; exact q'.elim
  | exc k => rw [zz] at q'; exact .inl (.inl (tx_w he (by rw [zz]; exact q')))
  | ok d0 =>
    rw [zz] at q'
    cases d0 with
    | lst ds =>
      refine .inl (.inl (tx_ok he zz fun v H1 s1 r1 => ?_))
      obtain ⟨p, vs, e1, r, hs⟩ := srcL (repM_now wMd_ne r1)
      exact ⟨p, e1, ⟨vs, hs _ _ ⟨Evo.refl, fun _ => Same.refl⟩⟩, q' _ H1 s1 (it_list r hs)⟩
    | frz ds =>
      refine .inl (.inl (tx_ok he zz fun v H1 s1 r1 => ?_))
      obtain ⟨p, vs, e1, r, hs⟩ := srcF (repM_now wMd_ne r1)
      exact ⟨p, e1, ⟨vs, hs _ _ ⟨Evo.refl, fun _ => Same.refl⟩⟩, q' _ H1 s1 (it_list r hs)⟩
    | tup ds =>
      refine .inl (.inr (tx_ok he zz fun v H1 s1 r1 => ?_))
      obtain ⟨p, vs, e1, r, hs⟩ := srcT (repM_now wMd_ne r1)
      exact ⟨p, e1, ⟨vs, hs _ _ ⟨Evo.refl, fun _ => Same.refl⟩⟩, q' _ H1 s1 (it_tup r hs)⟩
    | str s =>
      refine .inr (tx_ok he zz fun v H1 s1 r1 => ?_)
      have ev : v = .str (dS s) := by
        cases w with
        | true => exact RepC.str r1
        | false => exact r1
      exact ⟨dS s, ev, q' _ H1 s1 (it_str s)⟩
    | _ => exact q'.elim
theorem stepInt {m' : Md} {σ : L2.St} {H : Hp} {e : Ev} {r : R D} {k : Int → R (List D)} {Q : It → Hp → Prop} (h : PostI c w σ H e ((asInt r).bind k) Q) {Q' : VK}
    (q : ∀ i H', Same H H' → PostI c w σ H' e (k i) Q → Q' (.int i) H') : Post c .look σ H e r Q' := by
  cases r with
  | ok d => cases d with
    | int i => exact fun v H' s r => by rw [r.look.int]; exact q i H' s (PostI.later s h)
    | _ => exact h.elim
  | exc k => exact h
  | bad => exact h
theorem iteI {p : Prop} [Decidable p] {σ : L2.St} {H : Hp} {e : Ev} {r : R (List D)} {Q : It → Hp → Prop} (h : PostI c w σ H e (if p then r else .bad) Q) : p ∧ PostI c w σ H e r Q := by
  by_cases hp : p
  · rw [if_pos hp] at h; exact ⟨hp, h⟩
  · rw [if_neg hp] at h; exact h.elim
theorem rule_rng1 (o : XOk cc X c) {p : Pos} (hg : glB cc.sc "range" = true) (hs : isStar x = false) (ha : PE X x (tX c .look a)) : PI X tg (.Call (.Name "range" p) [x] [] pos) (tXI c w (.rng1 a)) := by
  refine pi_weak (pi_range1 (o.glo hg) (o.bn _ (by decide)) (pa_cons ha pa_nil (star_of hs _ _)) (star_of hs _ _)) fun σ H R ⟨e, he, q⟩ => ?_
  have q' : PostI c w σ H e ((asInt (evX c.cl true a e)).bind fun j => if inR j then .ok (rngL 0 1 j.toNat) else .bad) R := q
  refine ⟨e, he, stepInt (m' := .look) q' fun i H1 s1 q1 => ?_⟩
  obtain ⟨hi, q2⟩ := iteI q1
  exact ⟨i, rfl, hi.1, hi.2, q2 _ H1 Same.refl (it_rng 0 _)⟩
theorem star2 (hs : isStar x = false) (hs2 : isStar y = false) (env : Env) : starEach [x, y] env = [(false, eval x env), (false, eval y env)] := by rw [star_of hs, star_of hs2]; rfl
theorem rule_rng2 (o : XOk cc X c) {p : Pos} (hg : glB cc.sc "range" = true) (hs : isStar x = false) (hs2 : isStar y = false) (ha : PE X x (tX c .look a)) (hb : PE X y (tX c .look b)) : PI X tg (.Call (.Name "range" p) [x, y] [] pos) (tXI c w (.rng2 a b)) := by
  refine pi_weak (pi_range2 (o.glo hg) (o.bn _ (by decide)) (pa_cons ha (pa_cons hb pa_nil (star_of hs2 _ _)) (star_of hs _ _)) (star2 hs hs2 _) (star_of hs2 _ _)) fun σ H R ⟨e, he, q⟩ => ?_
  have q' : PostI c w σ H e ((asInt (evX c.cl true a e)).bind fun i => (asInt (evX c.cl true b e)).bind fun j => if inR i ∧ inR j then .ok (rngL i 1 (j - i).toNat) else .bad) R := q
  refine ⟨e, he, stepInt (m' := .look) q' fun i H1 s1 q1 => ⟨e, he.same s1, stepInt (m' := .look) q1 fun j H2 s2 q2 => ?_⟩⟩
  obtain ⟨⟨hi, hj⟩, q3⟩ := iteI q2
  exact ⟨i, j, rfl, ⟨hi.1, hi.2, hj.1, hj.2⟩, q3 _ H2 Same.refl (it_rng i _)⟩
theorem rule_rng3 (o : XOk cc X c) {p : Pos} (hg : glB cc.sc "range" = true) (hs : isStar x = false) (hs2 : isStar y = false) (hs3 : isStar z = false) (ha : PE X x (tX c .look a)) (hb : PE X y (tX c .look b)) (hd : PE X z (tX c .look d)) :
    PI X tg (.Call (.Name "range" p) [x, y, z] [] pos) (tXI c w (.rng3 a b d)) := by
  have hpl : (backTo pos (starEach [y, z] X.env)).any (·.1) = false := by rw [star2 hs2 hs3]; rfl
  refine pi_weak (pi_range3 (o.glo hg) (o.bn _ (by decide)) (pa_cons ha (pa_cons hb (pa_cons hd pa_nil (star_of hs3 _ _)) (star_of hs2 _ _)) (star_of hs _ _)) (star_of hs _ _) hpl) fun σ H R ⟨e, he, q⟩ => ?_
  have q' : PostI c w σ H e ((asInt (evX c.cl true a e)).bind fun i => (asInt (evX c.cl true b e)).bind fun j => (asInt (evX c.cl true d e)).bind fun k =>
      if inR i ∧ inR j ∧ k ≠ 0 ∧ k.natAbs < 1073741824 ∧ Builtin.Range.small i j k = true then .ok (rngL i k (Builtin.Range.rangeSize i j k).toNat) else .bad) R := q
  refine ⟨e, he, stepInt (m' := .look) q' fun i H1 s1 q1 => ⟨e, he.same s1, stepInt (m' := .look) q1 fun j H2 s2 q2 => ⟨e, (he.same s1).same s2, stepInt (m' := .look) q2 fun k H3 s3 q3 => ?_⟩⟩⟩
  obtain ⟨⟨h1, h2, h3, h4, h5⟩, q4⟩ := iteI q3
  refine ⟨i, j, k, (Builtin.Range.rangeSize i j k).toNat, rfl, ⟨h3, h4, h5, ?_⟩, q4 _ H3 Same.refl (it_rngC i k _)⟩
  have : 0 ≤ Builtin.Range.rangeSize i j k := by
    unfold Builtin.Range.rangeSize
    split
    · split
      · have := Int.ediv_nonneg (a := j - i - 1) (b := k) (by omega) (by omega)
        omega
      · omega
    · split
      · have := Int.ediv_nonneg (a := i - j - 1) (b := -k) (by omega) (by omega)
        omega
      · omega
  omega
theorem rule_zip (o : XOk cc X c) {p tpos : Pos} {elts : List Expr} {kk : Nat} (hg : glB cc.sc "zip" = true) (hs : isStar x = false) (hs2 : isStar y = false) (ha : PE X x (tX c (wMd w) a)) (hb : PE X y (tX c (wMd w) b)) :
    PI X (.Tuple elts kk tpos) (.Call (.Name "zip" p) [x, y] [] pos) (tXI c w (.zip a b)) := by
  have hpl : (backTo pos (starEach [y] X.env)).any (·.1) = false := by rw [star_of hs2]; rfl
  have h := RZ.pi_zipA (p := p) (pos := pos) (tpos := tpos) (elts := elts) (kk := kk) (o.glo hg) (o.bn _ (by decide)) (pa_cons ha (pa_cons hb pa_nil (star_of hs2 _ _)) (star_of hs _ _)) (star_of hs _ _) hpl
  rw [← o.K] at h
  refine pi_weak h fun σ H R ⟨e, he, q⟩ => ?_
  have q' : PostI c w σ H e ((evX c.cl w a e).bind fun x => (evX c.cl w b e).bind fun y => zipD x y) R := q
  refine tx_w he (Post.stepI q' fun d1 v1 H1 s1 r1 q1 => tx_w (he.same s1) (Post.stepI q1 fun d2 v2 H2 s2 r2 q2 => ?_))
  have r1' : RepM c.tb c.K (wMd w) H2 H2 (AV c.Xs e σ) d1 v1 := by
    cases w with
    | true => exact RepC.evo (Evo.same s2) s2 r1
    | false => exact Rep.evo (Evo.same s2) r1
  have r2' := repM_now (wMd_ne (w := w)) r2
  cases d1 with
  | lst ds => cases d2 with
    | lst fs =>
      obtain ⟨p1, vs, e1, r, hs⟩ := srcL r1'
      obtain ⟨p2, us, e2, r', hs'⟩ := srcL r2'
      have l : ∀ {A : Addr → Prop} {H : Hp}, Lat w A H A H := ⟨Evo.refl, fun _ => Same.refl⟩
      exact ⟨p1, p2, vs, us, by rw [e1, e2], .inl ⟨hs _ _ l, hs' _ _ l, q2 _ H2 Same.refl (it_zip (Sq := SqL c.K) rfl r hs r' hs')⟩⟩
    | _ => exact q2.elim
  | tup ds => cases d2 with
    | tup fs =>
      obtain ⟨p1, vs, e1, r, hs⟩ := srcT r1'
      obtain ⟨p2, us, e2, r', hs'⟩ := srcT r2'
      have l : ∀ {A : Addr → Prop} {H : Hp}, Lat w A H A H := ⟨Evo.refl, fun _ => Same.refl⟩
      exact ⟨p1, p2, vs, us, by rw [e1, e2], .inr ⟨hs _ _ l, hs' _ _ l, q2 _ H2 Same.refl (it_zip (Sq := SqT c.K) rfl r hs r' hs')⟩⟩
    | _ => exact q2.elim
  | _ => exact q2.elim
theorem rule_enum (o : XOk cc X c) {p tpos : Pos} {elts : List Expr} {kk : Nat} (hg : glB cc.sc "enumerate" = true) (hs : isStar x = false) (ha : PE X x (tX c (wMd w) a)) :
    PI X (.Tuple elts kk tpos) (.Call (.Name "enumerate" p) [x] [] pos) (tXI c w (.enum a)) := by
  have h := pi_enum (p := p) (pos := pos) (tpos := tpos) (elts := elts) (kk := kk) (o.glo hg) (o.bn _ (by decide)) (pa_cons ha pa_nil (star_of hs _ _)) (star_of hs _ _)
  rw [← o.K] at h
  refine pi_weak h fun σ H R ⟨e, he, q⟩ => ?_
  have q' : PostI c w σ H e ((evX c.cl w a e).bind fun x => (match x with
    | .lst ds => .ok ((ds.zipIdx).map fun p => .tup [.int (p.2 : Nat), p.1])
    | _ => .bad)) R := q
  refine tx_w he (Post.stepI q' fun d1 v1 H1 s1 r1 q1 => ?_)
  cases d1 with
  | lst ds =>
    obtain ⟨p1, vs, e1, r, hs⟩ := srcL (repM_now wMd_ne r1)
    exact ⟨p1, vs, by rw [e1], hs _ _ ⟨Evo.refl, fun _ => Same.refl⟩, q1 _ H1 Same.refl (it_enum r hs)⟩
  | _ => exact q1.elim
theorem rule_rev (o : XOk cc X c) {p : Pos} (hg : glB cc.sc "reversed" = true) (hs : isStar x = false) (ha : PE X x (tX c (wMd w) a)) :
    PI X tg (.Call (.Name "reversed" p) [x] [] pos) (tXI c w (.rev a)) := by
  have h := RT.pi_revA (tg := tg) (p := p) (pos := pos) (o.glo hg) (o.bn _ (by decide)) ha (star_of hs _ _)
  rw [← o.K] at h
  refine pi_weak h fun σ H R ⟨e, he, q⟩ => ?_
  have q' : PostI c w σ H e ((evX c.cl w a e).bind fun x => (seqOf x).bind fun ds => .ok ds.reverse) R := q
  refine tx_w he (Post.stepI q' fun d1 v1 H1 s1 r1 q1 => ?_)
  cases d1 with
  | lst ds =>
    obtain ⟨p1, vs, e1, r, hs⟩ := srcL (repM_now wMd_ne r1)
    exact ⟨p1, vs, e1, .inl ⟨hs _ _ ⟨Evo.refl, fun _ => Same.refl⟩, q1 _ H1 Same.refl (it_rev r hs)⟩⟩
  | tup ds =>
    obtain ⟨p1, vs, e1, r, hs⟩ := srcT (repM_now wMd_ne r1)
    exact ⟨p1, vs, e1, .inr ⟨hs _ _ ⟨Evo.refl, fun _ => Same.refl⟩, q1 _ H1 Same.refl (it_revT r hs)⟩⟩
  | _ => exact q1.elim
end
end VE
namespace VE
open PySem PySem.Spec PyProof.Rows L2
section
variable {c : Fx} {H H0 : Hp} {σ : L2.St} {e : Ev}
theorem set_get {α : Type} {l : List α} {i j : Nat} {x y : α} (h : (l.set i x)[j]? = some y) : (j = i ∧ y = x) ∨ (j ≠ i ∧ l[j]? = some y) := by
  by_cases hj : i = j
  · subst hj
    by_cases hl : i < l.length
    · rw [List.getElem?_set_self hl] at h
      exact .inl ⟨rfl, (Option.some.inj h).symm⟩
    · rw [List.getElem?_eq_none (by simpa using hl)] at h
      cases h
  · rw [List.getElem?_set_ne hj] at h
    exact .inr ⟨fun z => hj z.symm, h⟩
theorem own_sub {i : Nat} {s : Sl} {x : Option V} (hs : ∀ d, s ≠ .val d true) {a : Addr} (h : Own (e.set i s) (σ.set i x) a) : Own e σ a := by
  obtain ⟨j, d, h1, h2⟩ := h
  rcases set_get h1 with ⟨_, z⟩ | ⟨n, z⟩
  · exact absurd z.symm (hs d)
  · rcases set_get h2 with ⟨z2, _⟩ | ⟨_, z2⟩
    · exact absurd z2 n
    · exact ⟨j, d, z, z2⟩
theorem av_sub {i : Nat} {s : Sl} {x : Option V} (hs : ∀ d, s ≠ .val d true) {a : Addr} (h : AV c.Xs (e.set i s) (σ.set i x) a) : AV c.Xs e σ a := h.imp id (own_sub hs)
theorem get_lt {α : Type} {l : List α} {i : Nat} {x : α} (h : l[i]? = some x) : i < l.length := (List.getElem?_eq_some_iff.mp h).1
def SlOk (c : Fx) (H : Hp) (A : Addr → Prop) (s : Sl) (x : Option V) : Prop := match s with
  | .emp => True
  | .val d false => ∃ v, x = some v ∧ Rep c.tb c.K H A d v
  | .val _ true => False
  | .exn k => ∃ a, x = some (.ref a) ∧ c.EX a k
theorem EnvOk.put (he : EnvOk c H σ e) {i : Nat} {s : Sl} {x : Option V} (h : SlOk c H (AV c.Xs e σ) s x) : EnvOk c H (σ.set i x) (e.set i s) := by
  have hs : ∀ d, s ≠ .val d true := fun d z => by subst z; exact h
  have hl := he.len
  have at_i : ∀ {y : Sl}, (e.set i s)[i]? = some y → i < e.length := fun {y} z => by
    have := get_lt z
    rwa [List.length_set] at this
  refine ⟨by rw [List.length_set, List.length_set, hl], fun j d q => ?_, fun j d q => ?_, fun j k d d' a q1 q2 r1 r2 => ?_, he.xs, fun j k q => ?_, fun a d sa q => ?_⟩
  · rcases set_get q with ⟨rfl, z⟩ | ⟨n, z⟩
    · subst z
      obtain ⟨v, ex, r⟩ := h
      refine ⟨v, ?_, r.evo (Evo.less fun b => av_sub hs)⟩
      rw [List.getElem?_set_self (by rw [hl]; exact at_i q), ex]
    · obtain ⟨v, h1, h2⟩ := he.val j d z
      exact ⟨v, by rw [List.getElem?_set_ne (Ne.symm n)]; exact h1, h2.evo (Evo.less fun b => av_sub hs)⟩
  · rcases set_get q with ⟨rfl, z⟩ | ⟨n, z⟩
    · exact absurd z.symm (hs d)
    · obtain ⟨a, h1, h2, h3⟩ := he.own j d z
      exact ⟨a, by rw [List.getElem?_set_ne (Ne.symm n)]; exact h1, h2, h3.evo' (Evo.less fun b => av_sub hs) fun _ z => z⟩
  · rcases set_get q1 with ⟨rfl, z⟩ | ⟨n, z⟩
    · exact absurd z.symm (hs d)
    · rcases set_get q2 with ⟨rfl, z'⟩ | ⟨n', z'⟩
      · exact absurd z'.symm (hs d')
      · rw [List.getElem?_set_ne (Ne.symm n)] at r1
        rw [List.getElem?_set_ne (Ne.symm n')] at r2
        exact he.inj j k d d' a z z' r1 r2
  · rcases set_get q with ⟨rfl, z⟩ | ⟨n, z⟩
    · subst z
      obtain ⟨a, ex, r⟩ := h
      exact ⟨a, by rw [List.getElem?_set_self (by rw [hl]; exact at_i q), ex], r⟩
    · obtain ⟨a, h1, h2⟩ := he.exn j k z
      exact ⟨a, by rw [List.getElem?_set_ne (Ne.symm n)]; exact h1, h2⟩
  · rcases set_get q with ⟨_, z⟩ | ⟨n, z⟩
    · exact absurd z.symm (hs d)
    · rw [List.getElem?_set_ne (Ne.symm n)]
      exact he.slf a d sa z
theorem sl_no {H : Hp} {A : Addr → Prop} {s : Sl} {x : Option V} (h : SlOk c H A s x) : ∀ d, s ≠ .val d true := fun d z => by subst z; exact h
theorem wipe_in {σ : L2.St} {i : Nat} : ∀ {vs : List Nat}, i ∈ vs → i < σ.length → (wipe σ vs)[i]? = some none
  | [], h, _ => by cases h
  | v :: vs, h, hl => by
    unfold wipe
    by_cases hv : v = i
    · subst hv
      rw [List.getElem?_set_self (by rw [wipe_length]; exact hl)]
    · rw [List.getElem?_set_ne hv]
      exact wipe_in ((List.mem_cons.mp h).resolve_left fun z => hv z.symm) hl
theorem wipe_set {σ : L2.St} {i : Nat} {x : Option V} {vs : List Nat} (h : i ∈ vs) : wipe (σ.set i x) vs = wipe σ vs := by
  apply List.ext_getElem?
  intro j
  by_cases hj : j ∈ vs
  · by_cases hl : j < σ.length
    · rw [wipe_in hj hl, wipe_in hj (by rw [List.length_set]; exact hl)]
    · rw [List.getElem?_eq_none (by rw [wipe_length, List.length_set]; omega), List.getElem?_eq_none (by rw [wipe_length]; omega)]
  · rw [wipe_out hj, wipe_out hj, List.getElem?_set_ne (fun z => hj (by rw [← z]; exact h))]
theorem EnvOk.wipe (he : EnvOk c H σ e) : ∀ (vs : List Nat), EnvOk c H (L2.wipe σ vs) (wipeE vs e) ∧ ∀ a, Own (wipeE vs e) (L2.wipe σ vs) a → Own e σ a
  | [] => ⟨he, fun _ z => z⟩
  | v :: vs => by
    obtain ⟨h1, h2⟩ := EnvOk.wipe he vs
    exact ⟨h1.put (s := .emp) trivial, fun a z => h2 a (own_sub (s := .emp) (fun _ z => nomatch z) z)⟩
theorem own_put {i : Nat} {s : Sl} {x : Option V} (h : notOwn e i = true) {a : Addr} (q : Own e σ a) : Own (e.set i s) (σ.set i x) a := by
  obtain ⟨j, d, h1, h2⟩ := q
  have n : i ≠ j := fun z => by
    subst z
    unfold notOwn at h
    rw [h1] at h
    cases h
  exact ⟨j, d, by rw [List.getElem?_set_ne n]; exact h1, by rw [List.getElem?_set_ne n]; exact h2⟩
theorem notOwn_put {i j : Nat} {s : Sl} (hs : ∀ d, s ≠ .val d true) (h : notOwn e j = true) : notOwn (e.set i s) j = true := by
  unfold notOwn at h ⊢
  cases z : (e.set i s)[j]? with
  | none => rfl
  | some y =>
    rcases set_get z with ⟨_, q⟩ | ⟨_, q⟩
    · subst q
      cases y with
      | val d b => cases b with
        | true => exact absurd rfl (hs d)
        | false => rfl
      | _ => rfl
    · rw [q] at h
      exact h
theorem notOwn_wipe {vs : List Nat} {j : Nat} (h : notOwn e j = true) : notOwn (wipeE vs e) j = true := by
  induction vs with
  | nil => exact h
  | cons v vs ih => exact notOwn_put (s := .emp) (fun _ z => nomatch z) ih
theorem own_wipe : ∀ {vs : List Nat}, (∀ i ∈ vs, notOwn e i = true) → ∀ a, Own e σ a → Own (wipeE vs e) (L2.wipe σ vs) a
  | [], _, _, q => q
  | v :: vs, h, a, q => own_put (notOwn_wipe (h v (by simp))) (own_wipe (fun i hi => h i (by simp [hi])) a q)
structure Bnd (c : Fx) (H : Hp) (tg : List Nat) (e : Ev) (σ : L2.St) (e1 : Ev) (σ1 : L2.St) : Prop where
  env : EnvOk c H σ1 e1
  own : ∀ a, Own e1 σ1 a → Own e σ a
  keep : (∀ i ∈ tg, notOwn e i = true) → ∀ a, Own e σ a → Own e1 σ1 a
  wip : ∀ vs, (∀ i ∈ tg, i ∈ vs) → L2.wipe σ1 vs = L2.wipe σ vs
theorem Bnd.put (he : EnvOk c H σ e) {i : Nat} {d : D} {v : V} (r : Rep c.tb c.K H (AV c.Xs e σ) d v) : Bnd c H [i] e σ (e.set i (.val d false)) (σ.set i (some v)) :=
  ⟨he.put ⟨v, rfl, r⟩, fun a z => own_sub (s := .val d false) (fun d z => nomatch z) z, fun h a q => own_put (h i (by simp)) q, fun vs h => wipe_set (h i (by simp))⟩
def gNames : List Nat → TGs
  | [] => gNil
  | i :: r => gCons (gName i) (gNames r)
theorem names_ok : ∀ {tg : List Nat} {ds : List D} {vs : List V} {σ : L2.St} {e e1 : Ev} {Q : L2.St → Hp → Prop}, EnvOk c H σ e → RepL c.tb c.K H (AV c.Xs e σ) ds vs → setAll tg ds e = .ok e1 → (∀ σ1, Bnd c H tg e σ e1 σ1 → Q σ1 H) → gNames tg vs σ H Q
  | [], [], vs, σ, e, e1, Q, he, r, h, k => by
    cases (show vs = [] from r)
    cases h
    exact ⟨rfl, k σ ⟨he, fun _ z => z, fun _ _ q => q, fun _ _ => rfl⟩⟩
  | i :: is, d :: ds, vs, σ, e, e1, Q, he, r, h, k => by
    obtain ⟨v, vr, ev, r1, r2⟩ := (show ∃ v r, vs = v :: r ∧ Rep c.tb c.K H (AV c.Xs e σ) d v ∧ RepL c.tb c.K H (AV c.Xs e σ) ds r from r)
    subst ev
    have b := Bnd.put he (i := i) r1
    refine ⟨v, vr, rfl, names_ok b.env (r2.evo (Evo.less fun a z => z.imp id (b.own a))) h fun σ1 b1 => k σ1 ⟨b1.env, fun a z => b.own a (b1.own a z), fun hv a q => b1.keep (fun j hj => notOwn_put (s := .val d false) (fun _ z => nomatch z) (hv j (by simp [hj]))) a (b.keep (fun j hj => hv j (by simpa using .inl (by simpa using hj))) a q), fun vs hv => ?_⟩⟩
    rw [b1.wip vs fun j hj => hv j (by simp [hj]), b.wip vs fun j hj => hv j (by simpa using .inl (by simpa using hj))]
  | [], _ :: _, _, _, _, _, _, _, _, h, _ => by cases h
  | _ :: _, [], _, _, _, _, _, _, _, h, _ => by cases h
def gAny (K : PySem.W.Frag) (m : Nat) (g : TGs) : TG := fun v σ H Q => gTup K m g v σ H Q ∨ gLst K m g v σ H Q
def gNest (K : PySem.W.Frag) (n : Nat) (r : List Nat) : TGs := gCons (gAny K (r.take n).length (gNames (r.take n))) (gNames (r.drop n))
def gT (K : PySem.W.Frag) (tg : List Nat) (tup : Bool) : TG := fun v σ H Q => if tup then (match nestT tg with
  | none => gAny K tg.length (gNames tg) v σ H Q
  | some p => gAny K ((p.2.drop p.1).length + 1) (gNest K p.1 p.2) v σ H Q) else ∃ i, tg = [i] ∧ gName i v σ H Q
theorem setAll_own : ∀ {tg : List Nat} {ds : List D} {e e1 : Ev} {j : Nat}, setAll tg ds e = .ok e1 → notOwn e j = true → notOwn e1 j = true
  | [], [], _, _, _, h, n => by cases h; exact n
  | i :: is, d :: ds, e, e1, j, h, n => setAll_own (tg := is) (ds := ds) h (notOwn_put (s := .val d false) (fun _ z => nomatch z) n)
  | [], _ :: _, _, _, _, h, _ => by cases h
  | _ :: _, [], _, _, _, h, _ => by cases h
theorem nest_at {tg : List Nat} {p : Nat × List Nat} (h : nestT tg = some p) : ∃ i, tg = i :: p.2 := by
  cases tg with
  | nil => cases h
  | cons i r =>
    have h : (if 1000 ≤ i then some (i - 1000, r) else none) = some p := h
    split at h
    · have e := Option.some.inj h
      exact ⟨i, by rw [← e]⟩
    · cases h
theorem setAll_len : ∀ {tg : List Nat} {ds : List D} {e e1 : Ev}, setAll tg ds e = .ok e1 → ds.length = tg.length
  | [], [], _, _, _ => rfl
  | i :: is, d :: ds, e, e1, h => by
    have := setAll_len (tg := is) (ds := ds) (e := e.set i (.val d false)) (e1 := e1) h
    simp [this]
  | [], _ :: _, _, _, h => by cases h
  | _ :: _, [], _, _, h => by cases h
theorem gT_ok {tg : List Nat} {tup : Bool} {d : D} {v : V} {e1 : Ev} {Q : L2.St → Hp → Prop} (he : EnvOk c H σ e) (r : Rep c.tb c.K H (AV c.Xs e σ) d v) (h : bindT tg tup d e = .ok e1) (k : ∀ σ1, Bnd c H tg e σ e1 σ1 → Q σ1 H) : gT c.K tg tup v σ H Q := by
  unfold gT
  cases tup with
  | false =>
    rw [if_neg Bool.false_ne_true]
    have h' : setAll tg [d] e = .ok e1 := h
    have hl := setAll_len h'
    match tg, hl with
    | [i], _ =>
      cases h'
      exact ⟨i, rfl, k _ (Bnd.put he r)⟩
  | true =>
    rw [if_pos rfl]
    unfold bindT at h
    rw [if_pos rfl] at h
    cases zn : nestT tg with
    | none =>
      rw [zn] at h
      have h' : ((seqOf d).bind fun ds => setAll tg ds e) = .ok e1 := h
      cases d with
      | lst ds =>
        obtain ⟨a, vs, ev, ⟨h1, _⟩, r2⟩ := (show Rep c.tb c.K H (AV c.Xs e σ) (.lst ds) v from r)
        exact .inr ⟨a, vs, ev, SqL.of h1, by rw [r2.length, setAll_len (show setAll tg ds e = .ok e1 from h')], names_ok he r2 h' k⟩
      | tup ds =>
        obtain ⟨a, vs, ev, h1, r2⟩ := (show ∃ a vs, v = .ref a ∧ ((H a = some (.tup vs) ∧ ¬ AV c.Xs e σ a) ∨ KTup c.K a vs) ∧ RepL c.tb c.K H (AV c.Xs e σ) ds vs from r)
        exact .inl ⟨a, vs, ev, sqT_of h1, by rw [r2.length, setAll_len (show setAll tg ds e = .ok e1 from h')], names_ok he r2 h' k⟩
      | _ => cases h'
    | some p =>
      rw [zn] at h
      obtain ⟨i0, etg⟩ := nest_at zn
      have h' : ((seqOf d).bind fun ds => setNest p.1 p.2 e ds) = .ok e1 := h
      have go : ∀ (ds : List D) (vs : List V), RepL c.tb c.K H (AV c.Xs e σ) ds vs → setNest p.1 p.2 e ds = .ok e1 → vs.length = (p.2.drop p.1).length + 1 ∧ gNest c.K p.1 p.2 vs σ H Q := by
        intro ds vs r2 h2
        cases ds with
        | nil => cases h2
        | cons d1 ds =>
          obtain ⟨v1, vr, ev, r1, r3⟩ := (show ∃ v r, vs = v :: r ∧ Rep c.tb c.K H (AV c.Xs e σ) d1 v ∧ RepL c.tb c.K H (AV c.Xs e σ) ds r from r2)
          subst ev
          have h3 : ((seqOf d1).bind fun xs => (setAll (p.2.take p.1) xs e).bind fun e2 => setAll (p.2.drop p.1) ds e2) = .ok e1 := h2
          have fin : ∀ (xs : List D), ((setAll (p.2.take p.1) xs e).bind fun e2 => setAll (p.2.drop p.1) ds e2) = .ok e1 → xs.length = (p.2.take p.1).length ∧ (v1 :: vr).length = (p.2.drop p.1).length + 1 ∧ ∀ ws, RepL c.tb c.K H (AV c.Xs e σ) xs ws → gNames (p.2.take p.1) ws σ H fun σ1 H1 => gNames (p.2.drop p.1) vr σ1 H1 Q := by
            intro xs h4
            cases z4 : setAll (p.2.take p.1) xs e with
            | bad => rw [z4] at h4; cases h4
            | exc n => rw [z4] at h4; cases h4
            | ok e2 =>
              rw [z4] at h4
              have h5 : setAll (p.2.drop p.1) ds e2 = .ok e1 := h4
              refine ⟨setAll_len z4, by rw [List.length_cons, r3.length, setAll_len h5], fun ws rw' => names_ok he rw' z4 fun σ1 B1 => ?_⟩
              refine names_ok B1.env (r3.evo (Evo.less fun a z => z.imp id (B1.own a))) h5 fun σ2 B2 => k σ2 ?_
              have t1 : ∀ i ∈ p.2.take p.1, i ∈ tg := fun i hi => by rw [etg]; exact List.mem_cons_of_mem _ (List.mem_of_mem_take hi)
              have t2 : ∀ i ∈ p.2.drop p.1, i ∈ tg := fun i hi => by rw [etg]; exact List.mem_cons_of_mem _ (List.mem_of_mem_drop hi)
              exact ⟨B2.env, fun a z => B1.own a (B2.own a z), fun hv a q => B2.keep (fun j hj => setAll_own z4 (hv j (t2 j hj))) a (B1.keep (fun j hj => hv j (t1 j hj)) a q), fun vs hv => by
                rw [B2.wip vs fun j hj => hv j (t2 j hj), B1.wip vs fun j hj => hv j (t1 j hj)]⟩
          cases d1 with
          | lst xs =>
            obtain ⟨a, ws, ev, ⟨g1, _⟩, g2⟩ := (show Rep c.tb c.K H (AV c.Xs e σ) (.lst xs) v1 from r1)
            obtain ⟨f1, f2, f3⟩ := fin xs h3
            exact ⟨f2, v1, vr, rfl, .inr ⟨a, ws, ev, SqL.of g1, by rw [g2.length, f1], f3 ws g2⟩⟩
          | tup xs =>
            obtain ⟨a, ws, ev, g1, g2⟩ := (show ∃ a vs, v1 = .ref a ∧ ((H a = some (.tup vs) ∧ ¬ AV c.Xs e σ a) ∨ KTup c.K a vs) ∧ RepL c.tb c.K H (AV c.Xs e σ) xs vs from r1)
            obtain ⟨f1, f2, f3⟩ := fin xs h3
            exact ⟨f2, v1, vr, rfl, .inl ⟨a, ws, ev, sqT_of g1, by rw [g2.length, f1], f3 ws g2⟩⟩
          | _ => cases h3
      cases d with
      | lst ds =>
        obtain ⟨a, vs, ev, ⟨g1, _⟩, g2⟩ := (show Rep c.tb c.K H (AV c.Xs e σ) (.lst ds) v from r)
        obtain ⟨f1, f2⟩ := go ds vs g2 h'
        exact .inr ⟨a, vs, ev, SqL.of g1, f1, f2⟩
      | tup ds =>
        obtain ⟨a, vs, ev, g1, g2⟩ := (show ∃ a vs, v = .ref a ∧ ((H a = some (.tup vs) ∧ ¬ AV c.Xs e σ a) ∨ KTup c.K a vs) ∧ RepL c.tb c.K H (AV c.Xs e σ) ds vs from r)
        obtain ⟨f1, f2⟩ := go ds vs g2 h'
        exact .inl ⟨a, vs, ev, sqT_of g1, f1, f2⟩
      | _ => cases h'
theorem gAny_tup {tg : List Nat} {ds : List VE.D} {v : V} {e1 : Ev} {Q : L2.St → Hp → Prop} (he : EnvOk c H σ e) (r : Rep c.tb c.K H (AV c.Xs e σ) (.tup ds) v) (h' : setAll tg ds e = .ok e1) (k : ∀ σ1, Bnd c H tg e σ e1 σ1 → Q σ1 H) : gAny c.K tg.length (gNames tg) v σ H Q := by
  obtain ⟨a, vs, ev, h1, r2⟩ := (show ∃ a vs, v = .ref a ∧ ((H a = some (.tup vs) ∧ ¬ AV c.Xs e σ a) ∨ KTup c.K a vs) ∧ RepL c.tb c.K H (AV c.Xs e σ) ds vs from r)
  exact .inl ⟨a, vs, ev, sqT_of h1, by rw [r2.length, setAll_len h'], names_ok he r2 h' k⟩
theorem setAll_ne' : ∀ {is : List Nat} {ds : List VE.D} {e : Ev} {n : Nat}, setAll is ds e ≠ .exc n
  | [], [], _, _, h => by cases h
  | i :: is, d :: ds, e, n, h => setAll_ne' (is := is) (ds := ds) (e := e.set i (.val d false)) (n := n) h
  | [], _ :: _, _, _, h => by cases h
  | _ :: _, [], _, _, h => by cases h
theorem seqOf_ne {d : VE.D} {n : Nat} : seqOf d ≠ .exc n := by cases d <;> exact fun h => nomatch h
theorem bindT_ne {tg : List Nat} {tup : Bool} {d : VE.D} {e : Ev} {n : Nat} : bindT tg tup d e ≠ .exc n := by
  intro h
  unfold bindT at h
  cases tup with
  | false =>
    rw [if_neg Bool.false_ne_true] at h
    exact setAll_ne' h
  | true =>
    rw [if_pos rfl] at h
    cases z : nestT tg with
    | none =>
      rw [z] at h
      rcases bind_ne h with y | ⟨l, _, y⟩
      · exact seqOf_ne y
      · exact setAll_ne' y
    | some p =>
      rw [z] at h
      rcases bind_ne h with y | ⟨l, _, y⟩
      · exact seqOf_ne y
      · cases l with
        | nil => cases y
        | cons d1 ds =>
          rcases bind_ne (show ((seqOf d1).bind fun xs => (setAll (p.2.take p.1) xs e).bind fun e1 => setAll (p.2.drop p.1) ds e1) = .exc n from y) with w | ⟨l, _, w⟩
          · exact seqOf_ne w
          · rcases bind_ne w with w | ⟨l, _, w⟩
            · exact setAll_ne' w
            · exact setAll_ne' w
end
section
variable {cc : CC} {X : Cx} {c : Fx} {cel : Bool}
theorem pg_or {tg : Expr} {g g' : TG} (h : PG X tg g) (h' : PG X tg g') : PG X tg (fun v σ H Q => g v σ H Q ∨ g' v σ H Q) := ⟨fun pins s σ H v u Q I r q => q.elim (h.run pins s σ H v u Q I r) (h'.run pins s σ H v u Q I r)⟩
theorem pg_weak {tg : Expr} {g g' : TG} (h : PG X tg g) (w : ∀ v σ H Q, g' v σ H Q → g v σ H Q) : PG X tg g' := ⟨fun pins s σ H v u Q I r q => h.run pins s σ H v u Q I r (w v σ H Q q)⟩
structure NOk (N : List Str) (sc : Scope) (cel : Bool) (X : Cx) : Prop where
  hN : X.N = N
  nd : N.Nodup
  sc : X.env.scope = sc
  fn : cel = true → ∀ x, X.fn x = true
theorem sto_of {sc : Scope} {x : Str} (h : stoB cel sc x = true) : sc.names.lookup x = some .local ∨ (cel = true ∧ sc.names.lookup x = some .cell) := by
  unfold stoB at h
  split at h
  · exact .inl (by assumption)
  · exact .inr ⟨h, by assumption⟩
  · cases h
theorem NOk.pg {N : List Str} {sc : Scope} (o : NOk N sc cel X) {i : Nat} {ex : Expr} (h : mNm cel N sc i ex = true) : PG X ex (gName i) := by
  cases ex with
  | Name x p =>
    obtain ⟨h1, h2⟩ := and2 (show (decide (N[i]? = some x) && stoB cel sc x) = true from h)
    have hi : X.N[i]? = some x := by rw [o.hN]; exact of_decide_eq_true h1
    have nd : X.N.Nodup := by rw [o.hN]; exact o.nd
    rcases sto_of h2 with z | ⟨z1, z⟩
    · have z' : X.env.scope.names.lookup x = some .local := by rw [o.sc]; exact z
      exact pg_name nd hi (.inl z') (.inr z')
    · have z' : X.env.scope.names.lookup x = some .cell := by rw [o.sc]; exact z
      exact pg_name nd hi (.inr z') (.inl (o.fn z1 x))
  | _ => cases h
theorem nm_plain {N : List Str} {sc : Scope} {i : Nat} {ex : Expr} (h : mNm cel N sc i ex = true) (es : List Expr) (env : Env) : assignEach (ex :: es) env = (false, assign ex env) :: assignEach es env := by
  cases ex <;> first | rfl | cases h
theorem NOk.pgs {N : List Str} {sc : Scope} (o : NOk N sc cel X) : ∀ {tg : List Nat} {es : List Expr}, mNms cel N sc tg es = true → PGs X es (gNames tg) ∧ (assignEach es X.env).length = tg.length ∧ (assignEach es X.env).findIdx? (·.1) = none
  | [], [], _ => ⟨pgs_nil, rfl, rfl⟩
  | i :: is, e :: es, h => by
    obtain ⟨h1, h2⟩ := and2 (show (mNm cel N sc i e && mNms cel N sc is es) = true from h)
    obtain ⟨q1, q2, q3⟩ := NOk.pgs o h2
    have z := nm_plain h1 es X.env
    refine ⟨pgs_cons (o.pg h1) q1 (by rw [z]; rfl), by rw [z]; simp [q2], ?_⟩
    rw [z, List.findIdx?_cons]
    simp [q3]
  | [], _ :: _, h => by cases h
  | _ :: _, [], h => by cases h
theorem NOk.tg {N : List Str} {sc : Scope} (o : NOk N sc cel X) (hc : X.calm = true) {tg : List Nat} {tup : Bool} {ex : Expr} (h : mTg cel N sc tg tup ex = true) : PG X ex (gT X.K tg tup) := by
  cases tup with
  | false =>
    cases tg with
    | nil => cases h
    | cons i r => cases r with
      | cons _ _ => cases h
      | nil =>
        exact pg_weak (o.pg (show mNm cel N sc i ex = true from h)) fun v σ H Q q => by
          have q' : ∃ j, [i] = [j] ∧ gName j v σ H Q := q
          obtain ⟨j, e, q'⟩ := q'
          cases e
          exact q'
  | true =>
    cases ex with
    | Tuple es k p =>
      have h' : (match nestT tg with
        | none => mNms cel N sc tg es
        | some p => mNst cel N sc p.1 p.2 es) = true := h
      cases zn : nestT tg with
      | none =>
        rw [zn] at h'
        obtain ⟨q1, q2, q3⟩ := o.pgs (show mNms cel N sc tg es = true from h')
        refine pg_weak (pg_or (pg_tup hc q1 q2 q3) (pg_lst hc q1 q2 q3)) fun v σ H Q q => ?_
        unfold gT at q
        rw [if_pos rfl, zn] at q
        exact q
      | some pr =>
        rw [zn] at h'
        cases es with
        | nil => cases h'
        | cons x ys => cases x with
          | Tuple xs k2 p2 =>
            obtain ⟨h1, h2⟩ := and2 (show (mNms cel N sc (pr.2.take pr.1) xs && mNms cel N sc (pr.2.drop pr.1) ys) = true from h')
            obtain ⟨q1, q2, q3⟩ := o.pgs h1
            obtain ⟨w1, w2, w3⟩ := o.pgs h2
            have inner : PG X (.Tuple xs k2 p2) (gAny X.K (pr.2.take pr.1).length (gNames (pr.2.take pr.1))) := pg_or (pg_tup hc q1 q2 q3) (pg_lst hc q1 q2 q3)
            have z : assignEach (.Tuple xs k2 p2 :: ys) X.env = (false, assign (.Tuple xs k2 p2) X.env) :: assignEach ys X.env := by rfl
            have g1 : PGs X (.Tuple xs k2 p2 :: ys) (gNest X.K pr.1 pr.2) := pgs_cons inner w1 (by rw [z]; rfl)
            have g2 : (assignEach (.Tuple xs k2 p2 :: ys) X.env).length = (pr.2.drop pr.1).length + 1 := by rw [z]; simp [w2]
            have g3 : (assignEach (.Tuple xs k2 p2 :: ys) X.env).findIdx? (·.1) = none := by
              rw [z, List.findIdx?_cons]
              simp [w3]
            refine pg_weak (pg_or (pg_tup hc g1 g2 g3) (pg_lst hc g1 g2 g3)) fun v σ H Q q => ?_
            unfold gT at q
            rw [if_pos rfl, zn] at q
            exact q
          | _ => cases h'
    | _ => cases h
theorem XOk.names (o : XOk cc X c) (hf : cel = true → ∀ x, X.fn x = true) : NOk cc.N cc.sc cel X := ⟨o.hN, o.nd, o.sc, hf⟩
end
end VE
namespace VE
open PySem PySem.Spec PyProof.Rows L2
section
variable {cc : CC} {X : Cx} {c : Fx}
theorem takes_no {X : Cx} : Takes X (fun _ _ _ _ => False) := fun _ _ ⟨_, _, _, _, _, _, _, _, _, _, _, _, _, _, _, _, w⟩ => w.elim
def Fx.blk (c : Fx) (D : Addr) : Fx := { c with W := fun _ _ _ _ => False, Xs := fun a => c.Xs a ∨ a = D }
theorem XOk.blk (o : XOk cc X c) (hh : cc.hot = false) {s : Shared} {H : Hp} {scope : Scope} {cl : List (Str × Addr)} {C : Addr} {fp : List Addr} {D : Addr} :
    XOk { cc with sc := relS scope cc.sc } (X.blk s H scope (compEnvC scope cl C X.env) fp) (c.blk D) where
  hN := o.hN
  nd := o.nd
  sc := by show relS scope X.env.scope = relS scope cc.sc; rw [o.sc]
  K := o.K
  tb := o.tb
  tk := takes_no
  un := o.un
  plr := fun _ => let p := o.plr hh; ⟨p.seer, p.tree, p.dp, p.fr⟩
  bn := o.bn
  gl := o.gl
  cls := o.cls
  kit := o.kit
  big := o.big
  ise := fun z => by rw [show cc.hot = true from z] at hh; cases hh
  calm := fun _ => o.calm hh
  fn := fun _ f F n h1 h2 h3 h4 => o.fn hh f F n h1 h2 h3 h4
  me := o.me
  fok := o.fok
  fnd := o.fnd
  dc := o.dc
  isq := o.isq
  mok := o.mok
  ini := fun _ k f x F h1 h2 h3 => o.ini hh k f x F h1 h2 h3
  inik := fun _ k f x F kn h1 h2 h3 h4 => o.inik hh k f x F kn h1 h2 h3 h4
  kwc := fun _ f F kn h1 h2 h3 => o.kwc hh f F kn h1 h2 h3
  mt := fun _ k m f mu h1 => o.mt hh k m f mu h1
theorem own_map {N : List Str} (own : List Nat) : (ownP N own).map (·.2) = own := by
  unfold ownP
  rw [List.map_map]
  exact List.map_id'' (fun _ => rfl) own
theorem EnvOk.blk {D : Addr} {H : Hp} {σ : L2.St} {e : Ev} (he : EnvOk c H σ e) {H0 : Hp} (hD : H0 D = none) (he0 : EnvOk c H0 σ e) (k : ∀ b o, H0 b = some o → H b = some o) (hn : H D ≠ none) : EnvOk (c.blk D) H σ e := by
  have nown : ∀ a, Own e σ a → a ≠ D := fun a ⟨i, d, h1, h2⟩ z => by
    obtain ⟨b, q1, _, q3⟩ := he0.own i d h1
    rw [h2] at q1
    cases q1
    obtain ⟨o, q⟩ := q3.some
    rw [z, hD] at q
    cases q
  have ev : Evo (AV c.Xs e σ) H0 (AV (c.blk D).Xs e σ) H := ⟨fun b o h _ => k b o h, fun b z => by
    rcases z with (z | z) | z
    · exact .inl (.inl z)
    · exact .inr (by rw [z]; exact hD)
    · exact .inl (.inr z)⟩
  refine ⟨he.len, fun i d q => ?_, fun i d q => ?_, he.inj, fun a z => ?_, he.exn, he.slf⟩
  · obtain ⟨v, h1, h2⟩ := he0.val i d q
    exact ⟨v, h1, h2.evo ev⟩
  · obtain ⟨a, h1, h2, h3⟩ := he0.own i d q
    refine ⟨a, h1, fun z => ?_, h3.evo' ev fun o h => k a o h⟩
    rcases z with z | z
    · exact h2 z
    · exact nown a ⟨i, d, q, h1⟩ z
  · rcases z with z | z
    · exact he.xs a z
    · rw [z]; exact hn
theorem lcRun_cons {f : D → R (Option D)} {d : D} {r : List D} {l : List D} (h : lcRun f (d :: r) = .ok l) : ∃ o l', f d = .ok o ∧ lcRun f r = .ok l' ∧ l = consO o l' := by
  have h' : (match f d with
    | .ok o => (lcRun f r).bind fun l => .ok (consO o l)
    | _ => R.bad) = .ok l := h
  cases z : f d with
  | ok o =>
    rw [z] at h'
    cases z2 : lcRun f r with
    | ok l' =>
      rw [z2] at h'
      exact ⟨o, l', rfl, rfl, (R.ok.inj h').symm⟩
    | exc k => rw [z2] at h'; cases h'
    | bad => rw [z2] at h'; cases h'
  | exc k => rw [z] at h'; cases h'
  | bad => rw [z] at h'; cases h'
theorem lcRun_len {f : D → R (Option D)} : ∀ {ds l : List D}, lcRun f ds = .ok l → l.length ≤ ds.length
  | [], l, h => by cases h; exact Nat.le_refl _
  | d :: r, l, h => by
    obtain ⟨o, l', _, h2, rfl⟩ := lcRun_cons h
    have := lcRun_len h2
    cases o with
    | none => exact Nat.le_succ_of_le this
    | some x => exact Nat.succ_le_succ this
theorem lcRun_ne {f : D → R (Option D)} : ∀ {ds : List D} {k : Nat}, lcRun f ds ≠ .exc k
  | [], k, h => by cases h
  | d :: r, k, h => by
    have h' : (match f d with
      | .ok o => (lcRun f r).bind fun l => .ok (consO o l)
      | _ => R.bad) = .exc k := h
    cases z : f d with
    | ok o =>
      rw [z] at h'
      rcases bind_ne h' with q | ⟨x, _, q⟩
      · exact lcRun_ne q
      · cases q
    | exc k => rw [z] at h'; cases h'
    | bad => rw [z] at h'; cases h'
noncomputable def lcF (cl : Pr) (own tg : List Nat) (tup : Bool) (cd a : T) (e : Ev) (d : D) : R (Option D) :=
  (bindT tg tup d (wipeE own e)).bind fun e1 => (optC cd (evX cl true cd e1)).bind fun t => if t then (evX cl false a e1).bind fun x => .ok (some x) else .ok none
def tCond (c : Fx) (cd : T) : TT := if isNo cd then tYes else fun σ H Q => ∃ D, tXT (c.blk D) cd σ H Q
def tEl (c : Fx) (a : T) : TE := fun σ H Q => ∃ D, tX (c.blk D) .share a σ H Q
theorem optC_not {cd : T} {r : R D} (h : isNo cd = false) : optC cd r = tst r := by
  cases cd <;> first | rfl | cases h
theorem tst_ne {r : R D} {b : Bool} (h : tst r = .ok b) : r = .ok (.bl b) := by
  cases r with
  | ok d => cases d with
    | bl k => cases h; rfl
    | _ => cases h
  | exc k => cases h
  | bad => cases h
theorem wipe_wipe {σ : L2.St} {vs : List Nat} : wipe (wipe σ vs) vs = wipe σ vs := by
  apply List.ext_getElem?
  intro j
  by_cases hj : j ∈ vs
  · by_cases hl : j < σ.length
    · rw [wipe_in hj hl, wipe_in hj (by rw [wipe_length]; exact hl)]
    · rw [List.getElem?_eq_none (by rw [wipe_length, wipe_length]; omega), List.getElem?_eq_none (by rw [wipe_length]; omega)]
  · rw [wipe_out hj]
theorem lc_turn {K : PySem.W.Frag} {own tg : List Nat} {tup : Bool} {cd a : T} {σ : L2.St} {H0 H2 H : Hp} {e : Ev} {d : D} {v : V} {acc : List V} {ad : List D} {Nx : Hp → Prop} {o : Option D} {L : Addr}
    (hK : c.K = K) (htg : ∀ i ∈ tg, i ∈ own) (hno : ∀ i ∈ own, notOwn e i = true) (he0 : EnvOk c H0 σ e) (hD : H0 L = none) (k2 : ∀ b o, H0 b = some o → H2 b = some o) (s2 : Same H2 H) (hac : H2 L = some (.lst acc)) (hr : RepL c.tb c.K H2 (AV (c.blk L).Xs e σ) ad acc) (hz : acc.length < sizeLine)
    (rv : Rep c.tb c.K H (AV (c.blk L).Xs e σ) d v) (hf : lcF c.cl own tg tup cd a e d = .ok o)
    (nx : ∀ H' acc', (∀ b o, b ≠ L → H2 b = some o → H' b = some o) → H' L = some (.lst acc') → RepL c.tb c.K H' (AV (c.blk L).Xs e σ) (ad ++ o.toList) acc' → Nx H') :
    gT K tg tup v (wipe σ own) H fun σ2 H3 => wipe σ2 own = wipe σ own ∧ tCond c cd σ2 H3 fun b H4 =>
      if b = true then tEl c a σ2 H4 fun y H5 => ∃ acc, H5 L = some (.lst acc) ∧ acc.length < sizeLine ∧ Nx (upd H5 L (.lst (acc ++ [y]))) else Nx H4 := by
  subst hK
  have heD : EnvOk (c.blk L) H σ e := (he0.same k2).same s2 |>.blk hD he0 (fun b o h => s2 b o (k2 b o h)) (by rw [s2 L _ hac]; exact fun z => nomatch z)
  obtain ⟨hw, ow⟩ := heD.wipe own
  unfold lcF at hf
  cases z : bindT tg tup d (wipeE own e) with
  | exc k => rw [z] at hf; cases hf
  | bad => rw [z] at hf; cases hf
  | ok e1 =>
    rw [z] at hf
    refine gT_ok (c := c.blk L) hw (rv.evo (Evo.less fun b q => q.imp id (ow b))) z fun σ1 B => ⟨(B.wip own htg).trans wipe_wipe, ?_⟩
    have hf' : ((optC cd (evX c.cl true cd e1)).bind fun t => if t then (evX c.cl false a e1).bind fun x => .ok (some x) else .ok none) = .ok o := hf
    have back : ∀ b, AV (c.blk L).Xs e1 σ1 b → AV (c.blk L).Xs e σ b := fun b q => q.imp id fun q => ow b (B.own b q)
    have el : ∀ t, (if t then (evX c.cl false a e1).bind fun x => R.ok (some x) else .ok none) = .ok o → ∀ H4, Same H H4 → (if t = true then tEl c a σ1 H4 fun y H5 => ∃ acc, H5 L = some (.lst acc) ∧ acc.length < sizeLine ∧ Nx (upd H5 L (.lst (acc ++ [y]))) else Nx H4) := fun t ht H4 s4 => by
      have kk : ∀ H5, Same H4 H5 → ∀ b o, H2 b = some o → H5 b = some o := fun H5 s5 b o q => s5 b o (s4 b o (s2 b o q))
      cases t with
      | false =>
        cases ht
        refine nx H4 acc (fun b o _ q => kk H4 Same.refl b o q) (kk H4 Same.refl _ _ hac) ?_
        show RepL _ _ _ _ (ad ++ []) acc
        rw [List.append_nil]
        exact hr.evo (Evo.same (kk H4 Same.refl))
      | true =>
        have ht' : ((evX c.cl false a e1).bind fun x => R.ok (some x)) = .ok o := ht
        cases zz : evX c.cl false a e1 with
        | exc k => rw [zz] at ht'; cases ht'
        | bad => rw [zz] at ht'; cases ht'
        | ok x =>
          rw [zz] at ht'
          cases ht'
          refine ⟨L, e1, B.env.same s4, ?_⟩
          have : evX (c.blk L).cl (lk .share) a e1 = .ok x := zz
          rw [this]
          intro y H5 s5 r5
          refine ⟨acc, kk H5 s5 _ _ hac, hz, nx _ _ (fun b o hb q => by rw [upd_ne hb]; exact kk H5 s5 b o q) upd_same ?_⟩
          have r5' : Rep c.tb c.K H5 (AV (c.blk L).Xs e σ) x y := by
            exact Rep.evo (Evo.less fun b q => q.imp id fun q => B.keep (fun i hi => notOwn_wipe (hno i (htg i hi))) b (own_wipe hno b q)) r5
          refine RepL.evo (A := AV (c.blk L).Xs e σ) (H := H5) ⟨fun b o q n => ?_, fun b z => .inl z⟩ ((RepL.cons r5' .nil).append (hr.evo (Evo.same (kk H5 s5))))
          rw [upd_ne fun q => n (.inl (.inr q))]
          assumption
    cases zn : isNo cd with
    | true =>
      have ec : cd = .no := by cases cd <;> first | rfl | cases zn
      subst ec
      exact el true hf' H Same.refl
    | false =>
      rw [optC_not zn] at hf'
      unfold tCond
      rw [zn]
      cases zt : tst (evX c.cl true cd e1) with
      | exc k => rw [zt] at hf'; cases hf'
      | bad => rw [zt] at hf'; cases hf'
      | ok b =>
        rw [zt] at hf'
        refine ⟨L, e1, B.env, ?_⟩
        have : tst (evX (c.blk L).cl true cd e1) = .ok b := zt
        rw [this]
        intro H4 s4
        exact el b hf' H4 s4
theorem lc_weak (o : XOk cc X c) {own tg : List Nat} {tup : Bool} {it cd a : T} (htg : ∀ i ∈ tg, i ∈ own) (σ : L2.St) (H : Hp) (Q : VK) : tX c .fresh (.lc own tg tup it cd a) σ H Q → tLc (tXI c true it) (gT X.K tg tup) (tCond c cd) (tEl c a) own σ H Q := fun ⟨e, henv, q⟩ => by
  have q' : Post c .fresh σ H e (if !own.all (notOwn e) then .bad else (evI c.cl true it e).bind fun ds => (lcRun (lcF c.cl own tg tup cd a e) ds).bind fun l => if ds.length < SZ then .ok (.lst l) else .bad) Q := q
  cases zo : own.all (notOwn e) with
  | false => rw [zo] at q'; exact q'.elim
  | true =>
    rw [zo] at q'
    have hno : ∀ i ∈ own, notOwn e i = true := List.all_eq_true.mp zo
    have q2 : Post c .fresh σ H e ((evI c.cl true it e).bind fun ds => (lcRun (lcF c.cl own tg tup cd a e) ds).bind fun l => if ds.length < SZ then .ok (.lst l) else .bad) Q := q'
    refine ⟨e, henv, ?_⟩
    cases zi : evI c.cl true it e with
    | bad => rw [zi] at q2; exact q2.elim
    | exc k => rw [zi] at q2; exact q2
    | ok ds =>
      rw [zi] at q2
      have q3 : Post c .fresh σ H e ((lcRun (lcF c.cl own tg tup cd a e) ds).bind fun l => if ds.length < SZ then .ok (.lst l) else .bad) Q := q2
      intro J H1 s1 hJ D0 hD
      cases zl : lcRun (lcF c.cl own tg tup cd a e) ds with
      | bad => rw [zl] at q3; exact q3.elim
      | exc k => exact absurd zl lcRun_ne
      | ok l =>
        rw [zl] at q3
        have q4 : Post c .fresh σ H e (if ds.length < SZ then .ok (.lst l) else .bad) Q := q3
        have hlen : ds.length < SZ := by
          by_cases h : ds.length < SZ
          · exact h
          · rw [if_neg h] at q4; exact q4.elim
        rw [if_pos hlen] at q4
        have he1 := henv.same s1
        have hAD : ¬ AV c.Xs e σ D0 := fun z => he1.av D0 z hD
        let W : Nat → Nat → Hp → Prop := fun i m H2 => m = ds.length - i ∧ i ≤ ds.length ∧ (∀ b o, b ≠ D0 → H1 b = some o → H2 b = some o) ∧ ∃ (acc : List V) (ad rest : List D), H2 D0 = some (.lst acc) ∧ RepL c.tb c.K H2 (AV (c.blk D0).Xs e σ) ad acc ∧ ad.length ≤ i ∧ lcRun (lcF c.cl own tg tup cd a e) (ds.drop i) = .ok rest ∧ ad ++ rest = l
        refine ⟨W, ⟨ds.length, by simp, Nat.zero_le _, fun b o hb h => by rw [upd_ne hb]; exact h, [], [], l, upd_same, .nil, Nat.zero_le _, zl, rfl⟩, ?_⟩
        rintro i m H2 ⟨rfl, hi, kp, acc, ad, rest, hac, hr, hal, hrest, hl⟩
        have kk : ∀ b o, H1 b = some o → H2 b = some o := fun b o h => kp b o (fun z => by rw [z, hD] at h; cases h) h
        have lat : Lat true (AV c.Xs e σ) H1 (AV (c.blk D0).Xs e σ) H2 := ⟨⟨fun b o h _ => kk b o h, fun b z => by
          rcases z with (z | z) | z
          · exact .inl (.inl z)
          · exact .inr (by rw [z]; exact hD)
          · exact .inl (.inr z)⟩, fun _ => kk⟩
        by_cases hlt : i < ds.length
        · right
          have hd : ds[i]? = some ds[i] := by simp [hlt]
          have hav : ∀ b, AV (c.blk D0).Xs e σ b → H2 b ≠ none := (henv.same s1 |>.same kk |>.blk hD he1 kk (by rw [hac]; exact fun z => nomatch z)).av
          obtain ⟨go, yl⟩ := hJ.1 _ H2 i _ hav lat hd
          have hdrop : ds.drop i = ds[i] :: ds.drop (i + 1) := List.drop_eq_getElem_cons hlt
          rw [hdrop] at hrest
          obtain ⟨oo, l', hf, hrun, rfl⟩ := lcRun_cons hrest
          refine ⟨go, fun H' => W (i + 1) (ds.length - (i + 1)) H', fun H' w => ⟨ds.length - (i + 1), by omega, w⟩, fun x H' y => ?_⟩
          obtain ⟨s2, rx⟩ := yl x H' y
          refine lc_turn (H0 := H1) o.K htg hno he1 hD kk s2 hac hr (by rw [hr.length]; rw [sizeLine_eq]; have : SZ = 16777216 := rfl; omega) rx hf fun H3 acc' k3 hac' hr' => ?_
          refine ⟨rfl, hlt, fun b o hb h => k3 b o hb (kp b o hb h), acc', ad ++ oo.toList, l', hac', hr', ?_, hrun, ?_⟩
          · rw [List.length_append]
            cases oo <;> simp <;> omega
          · rw [← hl]
            cases oo <;> simp [consO]
        · left
          have e2 : i = ds.length := by omega
          subst e2
          refine ⟨hJ.2 _ H2 lat, ?_⟩
          rw [List.drop_length] at hrest
          cases hrest
          rw [List.append_nil] at hl
          subst hl
          refine q4 _ H2 (fun b o h => kk b o (s1 b o h)) ⟨D0, rfl, ?_, acc, hac, hr.evo (Evo.less fun b z => ?_)⟩
          · cases z : H D0 with
            | none => rfl
            | some o => rw [s1 D0 o z] at hD; cases hD
          · rcases z with z | z
            · rcases z with z | z
              · exact .inl (.inl z)
              · exact .inr z
            · exact .inl (.inr z)
theorem rule_lc (o : XOk cc X c) (hh : cc.hot = false) {own tg : List Nat} {tup : Bool} {it cd a : T} {te iter elt : Expr} {ifs : List Expr} {scope : Scope} {pos : Pos} (hb : blkC cc.N cc.sc scope (ownP cc.N own) = true) (htg : ∀ i ∈ tg, i ∈ own)
    (hm : mTg false cc.N (relS scope cc.sc) tg tup te = true) (hi : PI X te iter (tXI c true it)) (hs : isStar iter = false) (hset : ∀ x, foldedSetIterable iter X.env x = pure x)
    (hc : ∀ s H C cl fp, PTs (X.blk s H scope (compEnvC scope cl C X.env) fp) ifs (tCond c cd)) (he : ∀ s H C cl fp, PE (X.blk s H scope (compEnvC scope cl C X.env) fp) elt (tEl c a)) :
    PEm X c (.ListComp elt [⟨te, iter, ifs, 0⟩] scope pos) (.lc own tg tup it cd a) true := by
  have hb' : BlkOk X.N X.env.scope scope (ownP cc.N own) := by rw [o.hN, o.sc]; exact blkOk_by hb
  have hN : X.N.Nodup := by rw [o.hN]; exact o.nd
  have hg : ∀ s H C cl fp, PG (X.blk s H scope (compEnvC scope cl C X.env) fp) te (gT X.K tg tup) := fun s H C cl fp =>
    NOk.tg (cel := false) (X := X.blk s H scope (compEnvC scope cl C X.env) fp) ⟨o.hN, o.nd, by show relS scope X.env.scope = _; rw [o.sc], fun z => nomatch z⟩ (o.calm hh) hm
  have hp := pe_lc (pos := pos) (o.calm hh) hN hi hb' hg hc he hset
  rw [own_map] at hp
  exact PEm.ofFresh rfl (pe_weak hp (lc_weak o htg))
theorem rule_setLc (o : XOk cc X c) (hh : cc.hot = false) {own tg : List Nat} {tup : Bool} {it cd a : T} {te iter elt : Expr} {ifs : List Expr} {scope : Scope} {pos py spos : Pos} {y : Str} {i : Nat} (hi0 : cc.N[i]? = some y) (hl : cc.sc.names.lookup y = some .local)
    (hsw : swapsWith (.ListComp elt [⟨te, iter, ifs, 0⟩] scope pos) (some (.Name y py)) spos.line X.env = pure true) (hb : blkC cc.N cc.sc scope (ownP cc.N own) = true) (htg : ∀ i ∈ tg, i ∈ own)
    (hm : mTg false cc.N (relS scope cc.sc) tg tup te = true) (hi : PI X te iter (tXI c true it)) (hset : ∀ x, foldedSetIterable iter X.env x = pure x)
    (hc : ∀ s H C cl fp, PTs (X.blk s H scope (compEnvC scope cl C X.env) fp) ifs (tCond c cd)) (he : ∀ s H C cl fp, PE (X.blk s H scope (compEnvC scope cl C X.env) fp) elt (tEl c a)) :
    PS X (.Assign [.Name y py] (.ListComp elt [⟨te, iter, ifs, 0⟩] scope pos) spos) (tAsg (tX c .fresh (.lc own tg tup it cd a)) (gName i)) := by
  have hb' : BlkOk X.N X.env.scope scope (ownP cc.N own) := by rw [o.hN, o.sc]; exact blkOk_by hb
  have hN : X.N.Nodup := by rw [o.hN]; exact o.nd
  have hg : ∀ s H C cl fp, PG (X.blk s H scope (compEnvC scope cl C X.env) fp) te (gT X.K tg tup) := fun s H C cl fp =>
    NOk.tg (cel := false) (X := X.blk s H scope (compEnvC scope cl C X.env) fp) ⟨o.hN, o.nd, by show relS scope X.env.scope = _; rw [o.sc], fun z => nomatch z⟩ (o.calm hh) hm
  have hp := ps_setLc (i := i) (pos := pos) (o.calm hh) hN (o.slot hi0) (by rw [o.sc]; exact hl) hsw hi hb' hg hc he hset
  rw [own_map] at hp
  exact ps_weak hp fun D σ H q => lc_weak o htg σ H _ q
end
end VE
namespace VE
open PySem PySem.Spec PyProof.Rows L2
section
variable {cc : CC} {X : Cx} {c : Fx} {a : T} {pos : Pos}
def pMaxd (K : PySem.W.Frag) (d : Int) (Q : VK) (x : V) (H1 : Hp) : Prop := ∃ p ns, x = .ref p ∧ SqL K H1 p (ns.map V.int) ∧ ((∃ i r, ns = i :: r ∧ Q (.int (maxOf i r)) H1) ∨ (ns = [] ∧ Q (.int d) H1))
def pMaxs (K : PySem.W.Frag) (d : Int) (Q : VK) (vs : List V) (H1 : Hp) : Prop := match vs with
  | [x] => pMaxd K d Q x H1
  | _ => False
def tMaxd (K : PySem.W.Frag) (d : Int) (t : TE) : TE := fun σ H Q => t σ H (pMaxd K d Q)
theorem pe_maxd {d : Int} {k : Nat} {e0 : Expr} {p pc pk : Pos} {t : TE} (hc : X.calm = true) (hg : Gl X "max") (hm : X.mg "max" = none) (hs : isStar e0 = false) (ha : PE X e0 t) :
    PE X (.Call (.Name "max" p) [e0] [⟨some "default", .Constant (.int d) k pc, pk⟩] pos) (tMaxd X.K d t) := by
  refine ⟨fun pins s σ H Q I h => ?_⟩
  have hb : bootBuiltins "max" = some (.builtin "max") := by decide +kernel
  refine wpAny_Call_Name_kw (ld_blt I hg hm hb ?_ (by decide) (by decide))
  have st := star_of hs [] X.env
  have hpl : (backTo pos (starEach [e0] X.env)).any (·.1) = false := back_any (by show (!isStar e0 && true) = true; rw [hs]; rfl)
  refine callWith_builtin_kwB hpl rfl (PyProof.Rows.evalArgs_kw2 rfl (thn ((pa_cons ha pa_nil st).run pos pins s σ H (pMaxs X.K d Q) I h) fun us s1 ⟨vs, H1, I1, r, q⟩ => ?_) st)
  have key : ∃ x, vs = [x] ∧ pMaxd X.K d Q x H1 := by
    unfold pMaxs at q
    split at q
    · exact ⟨_, rfl, q⟩
    · exact q.elim
  obtain ⟨x, rfl, l, ns, rfl, hsq, q⟩ := key
  refine thn ((pk_cons (nm := some "default") (kpos := pk) (pe_int (i := d) (j := k) (pos := pc)) pk_nil).run pos pins s1 σ H1 (fun zs H2 => zs = [V.int d] ∧ H2 = H1) I1 ⟨rfl, rfl⟩) fun ws s2 ⟨zs, H2, I2, rz, ez, eH⟩ => ?_
  subst ez eH
  have eu := Vals.ref1 r
  subst eu
  obtain ⟨w1, ew, rw1⟩ : ∃ w1, ws = [w1] ∧ L2.RelV (V.int d) w1 := by
    cases rz with
    | cons h1 h2 => cases h2; exact ⟨_, rfl, h1⟩
  subst ew
  obtain ⟨its, rv, hl, _⟩ := I2.list hsq
  obtain ⟨xs, e⟩ := rv.ints.allInts.items
  have hn : numsOf (intItems xs).toList = ns := by rw [← e]; exact rv.ints.numsOf
  rw [nums_intItems] at hn
  have hl' := hl.isList
  rw [e] at hl'
  refine mx_call (I2.ok.hd hc) hl' (fun v h' tk hz hv hk => ?_) (fun hz h' tk hk => ?_)
  · obtain ⟨t, rfl⟩ := intItems_at hv
    obtain ⟨h1, h2⟩ := argBest_gt (numAt xs) (xs.size - 1)
    rcases q with ⟨i, r, en, q⟩ | ⟨en, q⟩
    · refine ⟨.int _, H2, I2.kept hk, ⟨t, rfl⟩, ?_⟩
      have mem : numAt xs (argBest (fun i j => decide (numAt xs i > numAt xs j)) (xs.size - 1)) ∈ ns := by
        rw [← hn, numAt_eq]; exact PySem.getD_mem (by rw [List.length_map, Array.length_toList]; omega)
      have big : ∀ y ∈ ns, y ≤ numAt xs (argBest (fun i j => decide (numAt xs i > numAt xs j)) (xs.size - 1)) := fun y hy => by
        rw [← hn] at hy
        obtain ⟨j, hj, rfl⟩ := PySem.mem_getD hy
        rw [List.length_map, Array.length_toList] at hj
        rw [← numAt_eq]; exact h2 j (by omega)
      obtain ⟨s1', s2'⟩ := maxOf_spec r i
      rw [← en] at s1' s2'
      have := big _ s1'
      have := s2' _ mem
      rw [show numAt xs (argBest (fun i j => decide (numAt xs i > numAt xs j)) (xs.size - 1)) = maxOf i r by omega]
      exact q
    · rw [en] at hn
      have := congrArg List.length hn
      rw [List.length_map, Array.length_toList, List.length_nil] at this
      omega
  · rcases q with ⟨i, r, en, q⟩ | ⟨en, q⟩
    · rw [en] at hn
      have := congrArg List.length hn
      rw [List.length_map, Array.length_toList] at this
      simp at this
      omega
    · exact ⟨.int d, H2, I2.kept hk, rw1, q⟩
theorem dMaxd_ne (d : Int) (x : D) (n : Nat) : dMaxd d x ≠ .exc n := by
  unfold dMaxd
  split <;> first | exact ok_ne | exact bad_ne | skip
  intro h
  rcases bind_ne h with z | ⟨x, _, z⟩
  · exact rOpt_ne z
  · exact ok_ne z
theorem rule_maxd (o : XOk cc X c) (hh : cc.hot = false) {d : Int} {k : Nat} {e0 : Expr} {p pc pk : Pos} (hg : glB cc.sc "max" = true) (hs : isStar e0 = false) (ha : PE X e0 (tX c .look a)) :
    PEm X c (.Call (.Name "max" p) [e0] [⟨some "default", .Constant (.int d) k pc, pk⟩] pos) (.maxd a d) true := by
  have h := pe_maxd (k := k) (p := p) (pc := pc) (pk := pk) (pos := pos) (d := d) (o.calm hh) (o.glo hg) (o.bn _ (by decide)) hs ha
  rw [← o.K] at h
  refine PEm.ofFresh rfl (pe_weak h fun σ H Q ⟨e, he, q⟩ => ?_)
  have q' : Post c .fresh σ H e ((evX c.cl true a e).bind fun x => dMaxd d x) Q := q
  refine ⟨e, he, q'.step fun x v H1 s1 r1 q1 => ?_⟩
  cases x with
  | lst es =>
    obtain ⟨pp, vs, ep, h1, rr⟩ := r1.look.lst
    subst ep
    cases es with
    | nil =>
      have e0' : vs = [] := rr
      subst e0'
      exact ⟨pp, [], rfl, SqL.of h1, .inr ⟨rfl, q1 _ H1 Same.refl rfl⟩⟩
    | cons z zs => cases z with
      | int i =>
        have q2 : Post c .fresh σ H1 e ((rOpt (intsOf zs)).bind fun l => .ok (.int (maxOf i l))) Q := q1
        cases zi : intsOf zs with
        | none => rw [zi] at q2; exact q2.elim
        | some l =>
          rw [zi] at q2
          rw [intsOf_eq zi] at rr
          rw [repL_ints (l := i :: l) rr] at h1
          exact ⟨pp, i :: l, rfl, SqL.of h1, .inl ⟨i, l, rfl, q2 _ H1 Same.refl rfl⟩⟩
      | _ => exact q1.elim
  | _ => exact q1.elim
def rIsq : List V → Hp → VK → Prop := fun xs H Q => ∃ i : Int, xs = [.int i] ∧ 0 ≤ i ∧ i.natAbs.log2 < 13000 ∧ Q (.int (Float64.isqrt i.toNat : Nat)) H
theorem call_isq : CallR X (.builtin "math.isqrt") rIsq := by
  intro pins s σ H xs us Q I r h
  obtain ⟨i, rfl, h0, h1, q⟩ := h
  obtain ⟨u, eu, ru⟩ : ∃ u, us = [u] ∧ L2.RelV (V.int i) u := by
    cases r with
    | cons h1 h2 => cases h2; exact ⟨_, rfl, h1⟩
  subst eu
  obtain ⟨t, rfl⟩ := (show ∃ t, u = Value.int i t from ru)
  have hn : i.toNat = i.natAbs := by omega
  refine call_function_meets PySem.W.MGF.kind_isqrt PySem.W.MGF.plain_isqrt PySem.W.MGF.entry_isqrt (PySem.W.MGF.args_isqrt _) (PySem.W.mg_run_isqrt i t (by omega) (by rw [hn]; omega) (by rw [hn]; omega)).meets ?_
  exact ⟨.int _, H, I.tok _, ⟨_, rfl⟩, q⟩
theorem pe_isq {e0 : Expr} {p : Pos} {t : TA} (hg : Gl X "isqrt") (hm : X.mg "isqrt" = some (.builtin "math.isqrt")) (hs : isStar e0 = false) (ha : PA X [e0] t) : PE X (.Call (.Name "isqrt" p) [e0] [] pos) (tCB rIsq t) := by
  refine ⟨fun pins s σ H Q I h => ?_⟩
  refine wpAny_Call_Name_kw (ld_glob I hg hm ?_ (by decide))
  have hpl : (backTo pos (starEach ([] : List Expr) X.env)).any (·.1) = false := rfl
  exact PyProof.Rows.callWith_builtin1 (thn (ha.run pos pins s σ H _ I h) fun us s1 ⟨vs, H1, I1, r1, q1⟩ => call_isq pins s1 σ H1 vs us Q I1 r1 q1) (star_of hs _ _) hpl
theorem dIsq_ne (x : D) (n : Nat) : dIsq x ≠ .exc n := by
  unfold dIsq
  split <;> first | exact ite_ne ok_ne bad_ne | exact bad_ne
theorem rule_star (o : XOk cc X c) {p : Pos} (ha : PE X x (tX c .share a)) : PA X [.Starred x p] (tXL c .share (.itr a)) := by
  refine pa_weak (StX.pa_star ha pa_nil) fun σ H Q ⟨e, he, q⟩ => ?_
  have q' : PostL c .share σ H e ((evX c.cl false a e).bind starOf) Q := q
  refine ⟨e, he, Post.stepL q' fun d v H1 s1 r1 q1 => ?_⟩
  cases d with
  | lst ds =>
    have q2 : PostL c .share σ H1 e (if ds.length ≤ 800 then R.ok ds else .bad) Q := q1
    split at q2
    · obtain ⟨p, vs, ev, ⟨h1, _⟩, r2⟩ := (show Rep c.tb c.K H1 (AV c.Xs e σ) (.lst ds) v from r1)
      have z := q2 vs H1 Same.refl r2
      exact ⟨p, vs, ev, .inr (SqL.of h1), show Q (vs ++ []) H1 by rw [List.append_nil]; exact z⟩
    · exact q2.elim
  | tup ds =>
    have q2 : PostL c .share σ H1 e (if ds.length ≤ 800 then R.ok ds else .bad) Q := q1
    split at q2
    · obtain ⟨p, vs, ev, h1, r2⟩ := (show ∃ a vs, v = .ref a ∧ ((H1 a = some (.tup vs) ∧ ¬ AV c.Xs e σ a) ∨ KTup c.K a vs) ∧ RepL c.tb c.K H1 (AV c.Xs e σ) ds vs from r1)
      have z := q2 vs H1 Same.refl r2
      exact ⟨p, vs, ev, .inl (by rw [o.K] at h1; exact sqT_of h1), show Q (vs ++ []) H1 by rw [List.append_nil]; exact z⟩
    · exact q2.elim
  | _ => exact q1.elim
def tRp : List (Nat × Nat) → TE → TE
  | [], te => te
  | (y, z) :: r, te => CwR.tReplC (tRp r te) (dS [y]) (dS [z])
def chn : List (Nat × Nat) → V → Hp → VK → Prop
  | [], v, H, Q => Q v H
  | (y, z) :: r, v, H, Q => chn r v H fun u H1 => ∃ x, u = .str x ∧ x.length + (x.length + 1) * (dS [z]).length ≤ 16777216 ∧ Q (.str (Txt.replace x (dS [y]) (dS [z]))) H1
theorem tRp_eq : ∀ (ps : List (Nat × Nat)) (te : TE) (σ : L2.St) (H : Hp) (Q : VK), tRp ps te σ H Q = te σ H fun v H1 => chn ps v H1 Q
  | [], _, _, _, _ => rfl
  | (y, z) :: r, te, σ, H, Q => tRp_eq r te σ H _
theorem chn_ok : ∀ (ps : List (Nat × Nat)) (s : List Nat) (H : Hp) (Q : VK), rplOk ps s = true → Q (.str (dS (rplS ps s))) H → chn ps (.str (dS s)) H Q
  | [], _, _, _, _, q => q
  | (y, z) :: r, s, H, Q, h, q => by
    obtain ⟨h12, h3⟩ := and2 (show (rplOk r s && decide (y ≠ z) && decide ((rplS r s).length ≤ 1000)) = true from h)
    obtain ⟨h1, h2⟩ := and2 h12
    have h3 := of_decide_eq_true h3
    refine chn_ok r s H _ h1 ⟨_, rfl, ?_, ?_⟩
    · rw [dS_len, dS_len]
      show _ + _ * 1 ≤ _
      omega
    · have e : dS (rplS ((y, z) :: r) s) = Txt.replace (dS (rplS r s)) (dS [y]) (dS [z]) := dTx_str _
      rw [e] at q
      exact q
theorem dS_of {x : Str} {l : List Nat} (h : x.cps.toList = l) : x = dS l := by rw [← h, dTx_str]
theorem pet_rp : ∀ {ps : List (Nat × Nat)} {ex o : Expr} {te : TE}, rplB ps ex = some o → PE X o te → PET X ex (tRp ps te)
  | [], ex, o, te, h, ho => by
    cases h
    exact CwR.PET.of ho
  | (y, z) :: r, ex, o, te, h, ho => by
    unfold rplB at h
    split at h
    · rename_i o1 nm ap u _ _ v _ _ p
      split at h
      · rename_i g
        obtain ⟨g, g6⟩ := and2 g
        obtain ⟨g, g5⟩ := and2 g
        obtain ⟨g, g4⟩ := and2 g
        obtain ⟨g, g3⟩ := and2 g
        obtain ⟨g1, g2⟩ := and2 g
        have e1 := of_decide_eq_true g1
        have e2 := dS_of (of_decide_eq_true g2)
        have e3 := dS_of (of_decide_eq_true g3)
        subst e1 e2 e3
        have ih := pet_rp h ho
        exact CwR.pet_replT ih (by
          have : dS [y] ≠ dS [z] := fun z' => of_decide_eq_true g4 (by
            have := congrArg (fun s : Str => s.cps.toList) z'
            simp [dS] at this
            exact this)
          exact beq_eq_false_iff_ne.mpr this) rfl (base_of (bang g6)) g5
      · cases h
    · cases h
theorem rule_rpl (o : XOk cc X c) (hh : cc.hot = false) {lit : List Nat} {ps : List (Nat × Nat)} {u : Str} {j : Nat} {p : Pos} {y e0 : Expr} (hu : u.cps.toList = lit) (hb : rplB ps y = some e0) (ha : PE X e0 (tX c .look a)) : PEm X c (.BinOp (.Constant (.str u) j p) .Add y pos) (.rpl lit ps a) true := by
  have h := op_bin (tb := c.tb) (plr_of (o.plr hh)) .Add
  rw [← o.K] at h
  have P : PE X (.BinOp (.Constant (.str u) j p) .Add y pos) (fun σ H Q => tRp ps (tX c .look a) σ H fun w H1 => rD2 .fresh c.tb c.K (dBin .Add) (.str u) w H1 Q) := by
    refine ⟨fun pins s σ H Q I q => ?_⟩
    refine wpAny_BinOp (Calls.Constant_str ?_)
    refine thn (pet_rp hb ha pins { s with toks := s.toks + 1 } σ H _ (by show 1 ≤ s.toks + 1; omega) (I.tok _) q) fun w s2 ⟨y', H2, I2, r2, q2⟩ => ?_
    exact h pins s2 σ H2 (.str u) y' _ w Q I2 ⟨s.toks, rfl⟩ r2 q2
  refine PEm.ofFresh rfl (pe_weak P fun σ H Q ⟨e, he, q⟩ => ?_)
  have q' : Post c .fresh σ H e ((evX c.cl true a e).bind (dRpl lit ps)) Q := q
  show tRp ps (tX c .look a) σ H _
  rw [tRp_eq]
  refine ⟨e, he, q'.step fun d v H1 s1 r1 q1 => ?_⟩
  cases d with
  | str s =>
    have ev := r1.look.str
    subst ev
    have q2 : Post c .fresh σ H1 e (if (rplOk ps s && decide (lit.length + (rplS ps s).length ≤ SZ)) = true then R.ok (D.str (lit ++ rplS ps s)) else .bad) Q := q1
    split at q2
    · rename_i g
      obtain ⟨g1, g2⟩ := and2 g
      refine chn_ok ps s H1 _ g1 ⟨AV c.Xs e σ, .str lit, .str (rplS ps s), (he.same s1).av, ?_, ?_, ?_⟩
      · exact .inl (show V.str u = V.str (dS lit) by rw [← dS_of hu])
      · exact .inl (show V.str (dS (rplS ps s)) = V.str (dS (rplS ps s)) from rfl)
      · have e3 : dBin .Add (.str lit) (.str (rplS ps s)) = .ok (.str (lit ++ rplS ps s)) := if_pos (of_decide_eq_true g2)
        rw [e3]
        exact PostM.of Same.refl (fun _ z => nomatch z) q2
    · exact q2.elim
  | _ => exact q1.elim
theorem rule_isq (o : XOk cc X c) (hq : cc.G.isq = true) {e0 : Expr} {p : Pos} (hg : glB cc.sc "isqrt" = true) (hs : isStar e0 = false) (ha : PE X e0 (tX c .look a)) : PEm X c (.Call (.Name "isqrt" p) [e0] [] pos) (.isq a) true := by
  have h := pe_isq (p := p) (pos := pos) (o.glo hg) (o.isq hq) hs (pa_cons ha pa_nil (star_of hs _ _))
  refine PEm.ofFresh rfl (pe_weak h fun σ H Q ⟨e, he, q⟩ => ?_)
  have q' : Post c .fresh σ H e ((evX c.cl true a e).bind dIsq) Q := q
  refine ⟨e, he, q'.step fun x v H1 s1 r1 q1 => ?_⟩
  cases x with
  | int i =>
    have q2 : Post c .fresh σ H1 e (if 0 ≤ i ∧ i.natAbs.log2 < 13000 then R.ok (D.int (Float64.isqrt i.toNat : Nat)) else .bad) Q := q1
    split at q2
    · rename_i z
      exact ⟨i, by rw [r1.look.int], z.1, z.2, q2 _ H1 Same.refl rfl⟩
    · exact q2.elim
  | _ => exact q1.elim
def Fx.dpl (c : Fx) (D : Addr) : Fx := { c with Xs := fun a => c.Xs a ∨ a = D }
theorem XOk.dpl (o : XOk cc X c) {D : Addr} : XOk cc X (c.dpl D) where
  hN := o.hN
  nd := o.nd
  sc := o.sc
  K := o.K
  tb := o.tb
  tk := o.tk
  un := o.un
  plr := o.plr
  bn := o.bn
  gl := o.gl
  cls := o.cls
  kit := o.kit
  big := o.big
  ise := o.ise
  calm := o.calm
  fn := fun hh f F n h1 h2 h3 h4 => o.fn hh f F n h1 h2 h3 h4
  me := o.me
  fok := o.fok
  fnd := o.fnd
  dc := o.dc
  isq := o.isq
  mok := o.mok
  ini := fun hh k f x F h1 h2 h3 => o.ini hh k f x F h1 h2 h3
  inik := fun hh k f x F kn h1 h2 h3 h4 => o.inik hh k f x F kn h1 h2 h3 h4
  kwc := fun hh f F kn h1 h2 h3 => o.kwc hh f F kn h1 h2 h3
  mt := fun hh k m f mu h1 => o.mt hh k m f mu h1
theorem EnvOk.dpl {D : Addr} {H : Hp} {σ : L2.St} {e : Ev} (he0 : EnvOk c H σ e) (hD : H D = none) {x : HO} : EnvOk (c.dpl D) (upd H D x) σ e := by
  have k : ∀ b o, H b = some o → upd H D x b = some o := same_upd hD
  have hn : upd H D x D ≠ none := by rw [upd_same]; exact fun z => nomatch z
  have he := he0.same (same_upd (o := x) hD)
  have h := EnvOk.blk (D := D) he hD he0 k hn
  exact ⟨h.len, h.val, h.own, h.inj, h.xs, h.exn, h.slf⟩
def DsT (cc : CC) (X : Cx) (t : T) (pos : Pos) (ks : List (List Nat)) (keys : List (Option Expr)) (es : List Expr) : Prop := ∃ trs, PPs X pos keys es trs ∧ ∀ c, XOk cc X c → ∀ σ H Q, tXL c .share t σ H (fun vs H' => Q ((ks.zip vs).map fun p => (V.str (dS p.1), p.2)) H') → tPairs trs σ H Q
theorem pairs_nil {pos : Pos} {ks : List (List Nat)} {keys : List (Option Expr)} (hl : keys.length = ([] : List Expr).length) : DsT cc X .nil pos ks keys [] := by
  cases keys with
  | cons _ _ => cases hl
  | nil =>
    refine ⟨[], pps_nil, fun c o σ H Q ⟨e, he, q⟩ => ?_⟩
    have h : Q ((ks.zip ([] : List V)).map fun p => (V.str (dS p.1), p.2)) H := q [] H Same.refl (show RepL c.tb c.K H (AV c.Xs e σ) [] [] from .nil)
    rw [List.zip_nil_right] at h
    exact h
theorem pairs_cons {pos : Pos} {ks : List (List Nat)} {keys : List (Option Expr)} {e0 : Expr} {es : List Expr} {r : T} (hk : keysB ks keys = true) (hl : keys.length = (e0 :: es).length) (ha : ∀ c, XOk cc X c → PE X e0 (tX c .share a))
    (ih : ∀ (pos : Pos) (ks : List (List Nat)) (keys : List (Option Expr)), keysB ks keys = true → keys.length = es.length → DsT cc X r pos ks keys es) :
    DsT cc X (.cons a r) pos ks keys (e0 :: es) := by
  cases keys with
  | nil => cases hl
  | cons k0 kr =>
    cases ks with
    | nil => cases hk
    | cons s ks =>
      cases k0 with
      | none => cases hk
      | some k0 =>
        unfold keysB at hk
        split at hk
        · rename_i e1 e2
          cases e2
        · rename_i s' ks' x p1 p2 es' e1 e2
          cases e1
          cases e2
          obtain ⟨h1, h2⟩ := and2 hk
          have ex := of_decide_eq_true h1
          obtain ⟨trs, P, R⟩ := ih pos ks kr h2 (by simpa using hl)
          have hu : PE X e0 (fun σ H Q => ∃ c : {c : Fx // XOk cc X c}, tX c.1 .share a σ H Q) := pe_any fun c : {c : Fx // XOk cc X c} => ha c.1 c.2
          refine ⟨_, pps_cons (pe_str (j := p1)) hu P, fun c o σ H Q ⟨e, he, q⟩ => ?_⟩
          have q' : PostL c .share σ H e ((evX c.cl false a e).bind fun x => (evL c.cl false r e).bind fun xs => .ok (x :: xs)) (fun vs H' => Q (((s :: ks).zip vs).map fun p => (V.str (dS p.1), p.2)) H') := q
          refine ⟨⟨c, o⟩, e, he, Post.stepL q' fun d v H1 s1 r1 q1 => R c o σ H1 _ ⟨e, he.same s1, ?_⟩⟩
          have q1' : PostL c .share σ H1 e ((evL c.cl false r e).bind fun xs => .ok (d :: xs)) (fun vs H' => Q (((s :: ks).zip vs).map fun p => (V.str (dS p.1), p.2)) H') := q1
          refine PostL.stepL q1' fun ds vs H2 s2 r2 q2 => ?_
          have r1' : Rep c.tb c.K H1 (AV c.Xs e σ) d v := r1
          have q3 := q2 (v :: vs) H2 Same.refl (show RepL c.tb c.K H2 (AV c.Xs e σ) (d :: ds) (v :: vs) from RepL.cons (r1'.evo (Evo.same s2)) r2)
          have es : V.str x = V.str (dS s) := by rw [← ex]; simp [dS]
          rw [es]
          exact q3
        · cases hk
theorem putK_all : ∀ (more kvs : List (L2.Key × V)), ((kvs ++ more).map (·.1)).Nodup → mergeK kvs more = kvs ++ more
  | [], kvs, _ => by rw [List.append_nil]; rfl
  | p :: r, kvs, h => by
    have hn : valV kvs p.1 = none := by
      cases z : valV kvs p.1 with
      | none => rfl
      | some v =>
        have := valV_any p.1 kvs
        rw [z] at this
        obtain ⟨q, hq, eq⟩ := List.any_eq_true.mp this
        have eq := of_decide_eq_true eq
        rw [List.map_append, List.map_cons, List.nodup_append] at h
        exact absurd eq (h.2.2 q.1 (List.mem_map_of_mem hq) p.1 (by simp))
    show mergeK (putK kvs p.1 p.2) r = _
    rw [putK_new p.2 hn, putK_all r (kvs ++ [(p.1, p.2)]) (by rw [List.append_assoc]; exact h), List.append_assoc]
    rfl
theorem keysB_len : ∀ (ks : List (List Nat)) (keys : List (Option Expr)), keysB ks keys = true → ks.length = keys.length ∧ keys.all (·.isSome) = true
  | [], [], _ => ⟨rfl, rfl⟩
  | [], _ :: _, h => by cases h
  | _ :: _, [], h => by cases h
  | s :: r, none :: es, h => by cases h
  | s :: r, some e0 :: es, h => by
    unfold keysB at h
    split at h
    · rename_i e1 e2
      cases e2
    · rename_i e1 e2
      cases e1
      cases e2
      obtain ⟨_, q2⟩ := and2 h
      obtain ⟨r1, r2⟩ := keysB_len _ _ q2
      exact ⟨by simp [r1], by simp [r2]⟩
    · cases h
theorem zip_keys : ∀ (ks : List (List Nat)) (vs : List V), ks.length = vs.length → (((ks.map fun s => (Sum.inr (dS s) : L2.Key)).zip vs).map (·.1) = (ks.map fun s => [s]).map kyK) ∧ (((ks.map fun s => (Sum.inr (dS s) : L2.Key)).zip vs).map (·.2) = vs) ∧ ((ks.zip vs).map fun p => (V.str (dS p.1), p.2)) = ((ks.map fun s => (Sum.inr (dS s) : L2.Key)).zip vs).map fun kv => (kV kv.1, kv.2)
  | [], [], _ => ⟨rfl, rfl, rfl⟩
  | [], _ :: _, h => by cases h
  | _ :: _, [], h => by cases h
  | s :: ks, v :: vs, h => by
    obtain ⟨h1, h2, h3⟩ := zip_keys ks vs (by simpa using h)
    refine ⟨?_, ?_, ?_⟩
    · simp only [List.map_cons, List.zip_cons_cons, h1]; rfl
    · simp only [List.map_cons, List.zip_cons_cons, h2]
    · simp only [List.map_cons, List.zip_cons_cons, h3]; rfl
theorem keys_nd : ∀ (ks : List (List Nat)), ks.Nodup → (((ks.map fun s => [s]).map kyK)).Nodup := by
  intro ks h
  rw [List.map_map]
  refine List.Pairwise.map _ (fun a b hab z => hab ?_) h
  have z' : (Sum.inr (⟨a.toArray⟩ : Str) : L2.Key) = Sum.inr ⟨b.toArray⟩ := z
  have := congrArg Str.cps (Sum.inr.inj z')
  simpa using this
theorem rule_dsp0 : PEm X c (.Dict [] [] pos) (.dsp [] .nil) true := by
  refine PEm.ofFresh rfl (pe_weak pe_dnewK fun σ H Q ⟨e, he, q⟩ p hp => ?_)
  have q' : Post c .fresh σ H e (.ok (.dct [] [])) Q := q
  refine q' _ _ (same_upd hp) ?_
  show Rep c.tb c.K _ (AV c.Xs e σ) (.dct [] []) (.ref p)
  exact ⟨p, [], rfl, .inl ⟨[], ⟨upd_same, fun z => he.av p z hp⟩, rfl, rfl, fun k hk => by cases hk⟩, .nil⟩
theorem rule_dsp (o : XOk cc X c) {ks : List (List Nat)} {keys : List (Option Expr)} {vals : List Expr} (hd : dspB ks keys vals = true) (hp : ∀ (pos : Pos) (ks : List (List Nat)) (keys : List (Option Expr)), keysB ks keys = true → keys.length = vals.length → DsT cc X a pos ks keys vals)
    (hlen : ∀ (cl : Pr) (w : Bool) (e : Ev) (ds : List D), evL cl w a e = .ok ds → ds.length = vals.length) : PEm X c (.Dict keys vals pos) (.dsp ks a) true := by
  obtain ⟨hd, h5⟩ := and2 hd
  obtain ⟨hd, h4⟩ := and2 hd
  obtain ⟨hd, h3⟩ := and2 hd
  obtain ⟨h1, h2⟩ := and2 hd
  have h2 := of_decide_eq_true h2
  have h3 := of_decide_eq_true h3
  have h5 := of_decide_eq_true h5
  obtain ⟨trs, P, R⟩ := hp pos ks keys h1 h3
  obtain ⟨k1, k2⟩ := keysB_len ks keys h1
  refine PEm.ofFresh rfl (pe_weak (pe_disp P k2 h3 (fun z => by rw [z] at h4; cases h4) h5) fun σ H Q ⟨e, he, q⟩ p hp => ?_)
  have q' : Post c .fresh σ H e ((evL c.cl false a e).bind fun ds => .ok (.dct (ks.map fun s => [s]) ds)) Q := q
  have s0 : Same H (upd H p (.dK [])) := same_upd hp
  refine R (c.dpl p) o.dpl σ _ _ ⟨e, he.dpl hp, ?_⟩
  show PostL (c.dpl p) .share σ (upd H p (.dK [])) e (evL c.cl false a e) _
  have hl := hlen c.cl false e
  revert q' hl
  cases evL c.cl false a e with
  | exc k => exact fun q' _ H' s => q' H' (s0.trans s)
  | bad => exact fun q' _ => q'
  | ok ds =>
    intro q' hl vs H2 s r
    have r' : RepL c.tb c.K H2 (AV (c.dpl p).Xs e σ) ds vs := r
    have hl1 : ds.length = vs.length := r'.length.symm
    have hl2 := hl ds rfl
    have hz : ks.length = vs.length := by omega
    obtain ⟨z1, z2, z3⟩ := zip_keys ks vs hz
    have nd : (((ks.map fun s => (Sum.inr (dS s) : L2.Key)).zip vs).map (·.1)).Nodup := by rw [z1]; exact keys_nd ks h2
    refine ⟨s p _ upd_same, (ks.map fun s => (Sum.inr (dS s) : L2.Key)).zip vs, z3, ?_, ?_⟩
    · rw [List.length_zip, List.length_map]; omega
    · rw [putK_all _ [] (by simpa using nd), List.nil_append]
      have ne : ∀ b o, H2 b = some o → b ≠ p → upd H2 p (.dK ((ks.map fun s => (Sum.inr (dS s) : L2.Key)).zip vs)) b = some o := fun b o h n => by rw [upd_ne n]; exact h
      refine q' _ _ (fun b x h => ne b x (s b x (s0 b x h)) (ne_of_none h hp)) ?_
      show Rep c.tb c.K _ (AV c.Xs e σ) (.dct (ks.map fun s => [s]) ds) (.ref p)
      refine ⟨p, vs, rfl, .inl ⟨_, ⟨upd_same, fun z => he.av p z hp⟩, z1, z2, ?_⟩, ?_⟩
      · intro k hk
        obtain ⟨s, _, rfl⟩ := List.mem_map.mp hk
        rfl
      · refine r'.evo ⟨fun b o h n => ne b o h fun z => n (.inl (.inr z)), fun b z => .inl ?_⟩
        exact z.imp .inl id
end
end VE
namespace VE
open PySem PySem.Spec PyProof.Rows L2
def frT (G : Pg) : T → Bool
  | .ci _ => true | .cb _ => true | .cn => true | .cs _ => true | .bin _ _ _ => true | .neg _ => true | .not _ => true | .and _ _ => true | .or _ _ => true | .cmp _ _ _ => true | .chain _ _ _ _ _ => true
  | .rpl _ _ _ => true | .tup _ => true | .lst _ => true | .sl _ _ _ => true | .bi _ _ => true | .lrev _ => true | .rng1 _ => true | .bm _ _ _ => true | .isi _ _ => true | .ise _ _ => true | .iseT _ _ => true | .isq _ => true | .maxd _ _ => true | .dsp _ _ => true | .lc _ _ _ _ _ _ => true
  | .call f _ => (match G.fns[f]? with
    | some F => F.fr
    | none => false)
  | .callk f _ _ _ => (match G.fns[f]? with
    | some F => F.fr
    | none => false)
  | .mk _ _ => true
  | .mkk _ _ _ _ => true
  | _ => false
def isBoolE : Expr → Bool
  | .BoolOp _ _ _ => true
  | _ => false
def isSetE : Expr → Bool
  | .Set _ _ _ => true
  | _ => false
structure SE (t : T) : Prop where
  E : ∀ {cc : CC} {X : Cx} {c : Fx} {ex : Expr}, XOk cc X c → mE cc t ex = true → PEm X c ex t (frT cc.G t) ∧ PT X ex (tXT c t) ∧ (isBoolE ex = true → PW X ex (tXT c t)) ∧ isSetE ex = false
  L : ∀ {cc : CC} {X : Cx} {c : Fx} {es : List Expr}, XOk cc X c → mL cc t es = true → PA X es (tXL c .look t) ∧ PA X es (tXL c .share t) ∧ noStars es = true ∧ (∀ (cl : Pr) (w : Bool) (e : Ev) (ds : List D), evL cl w t e = .ok ds → ds.length = es.length) ∧ (es = [] → t = .nil) ∧ (∀ kws, kwE kws = es → PK X kws (tXL c .share t)) ∧ ∀ (pos : Pos) (ks : List (List Nat)) (keys : List (Option Expr)), keysB ks keys = true → keys.length = es.length → DsT cc X t pos ks keys es
  I : ∀ {cc : CC} {X : Cx} {c : Fx} {tg ex : Expr} (w : Bool), XOk cc X c → mI cc t tg ex = true → PI X tg ex (tXI c w t) ∧ isStar ex = false ∧ isSetE ex = false
  S : ∀ {cc : CC} {X : Cx} {c : Fx} {es : List Expr}, XOk cc X c → mLs cc t es = true → PA X es (tXL c .share t) ∧ ∀ (cl : Pr) (w : Bool) (e : Ev) (ds : List D), evL cl w t e = .ok ds → ds.length ≤ es.length + 800
theorem pem_w {X : Cx} {c : Fx} {ex : Expr} {t : T} {f : Bool} (h : PEm X c ex t f) : ∀ w, PE X ex (tX c (wMd w) t)
  | true => h.look
  | false => h.share
theorem folded {ex : Expr} (h : isSetE ex = false) (env : Env) (x : Value) : foldedSetIterable ex env x = pure x := by
  cases ex <;> first | rfl | cases h
theorem plain_of {y : Expr} (h : isSlice y = false) : PlainIx y := fun o i => by cases y <;> first | rfl | cases h
theorem evL_len1 {cl : Pr} {w : Bool} {a r : T} {e : Ev} {ds : List D} (h : evL cl w (.cons a r) e = .ok ds) : ∃ x xs, ds = x :: xs ∧ evL cl w r e = .ok xs := by
  have h' : ((evX cl w a e).bind fun x => (evL cl w r e).bind fun xs => .ok (x :: xs)) = .ok ds := h
  cases z : evX cl w a e with
  | exc k => rw [z] at h'; cases h'
  | bad => rw [z] at h'; cases h'
  | ok x =>
    rw [z] at h'
    have h2 : ((evL cl w r e).bind fun xs => .ok (x :: xs)) = .ok ds := h'
    cases z2 : evL cl w r e with
    | exc k => rw [z2] at h2; cases h2
    | bad => rw [z2] at h2; cases h2
    | ok xs => rw [z2] at h2; cases h2; exact ⟨x, xs, rfl, rfl⟩
theorem tyB_of {t : Ty} (h : tyB t = true) : t ≠ .non ∧ ∀ k, t ≠ .cls k := by
  constructor
  · intro z; subst z; cases h
  · intro k z; subst z; cases h
theorem pt_any {X : Cx} {e : Expr} {ι : Type} {t : ι → TT} (h : ∀ i, PT X e (t i)) : PT X e (fun σ H Q => ∃ i, t i σ H Q) := ⟨fun pins s σ H Q I ⟨i, q⟩ => (h i).run pins s σ H Q I q⟩
theorem evX_up {cl : Pr} {t : T} {e : Ev} {r : R D} (h : evX cl false t e = r) (hb : r ≠ .bad) : evX cl true t e = r := by
  cases z : isV t with
  | false => rw [evX_nv z true false]; exact h
  | true =>
    cases t with
    | v i =>
      subst h
      revert hb
      show (match e[i]? with | some (.val d o) => if o && !false then R.bad else .ok d | _ => .bad) ≠ .bad → (match e[i]? with | some (.val d o) => if o && !true then R.bad else .ok d | _ => .bad) = (match e[i]? with | some (.val d o) => if o && !false then R.bad else .ok d | _ => .bad)
      cases e[i]? with
      | none => intro _; rfl
      | some s => cases s with
        | val d o => cases o with
          | false => intro _; rfl
          | true => intro h; exact absurd rfl h
        | _ => intro _; rfl
    | _ => cases z
theorem pt_ifE {X : Cx} {c : Fx} {u x y : Expr} {d a b : T} {pos : Pos} (hc : PT X u (tXT c d)) (ha : PT X x (tXT c a)) (hb : PT X y (tXT c b)) : PT X (.IfExp u x y pos) (tXT c (.ite d a b)) := by
  refine ⟨fun pins s σ H Q I ⟨e, he, q⟩ => ?_⟩
  have q' : PostT c σ H (tst ((tst (evX c.cl true d e)).bind fun t => if t then evX c.cl false a e else evX c.cl false b e)) Q := q
  have e2 : tst ((tst (evX c.cl true d e)).bind fun t => if t then evX c.cl false a e else evX c.cl false b e) = (tst (evX c.cl true d e)).bind fun t => tst (if t then evX c.cl false a e else evX c.cl false b e) := by
    cases tst (evX c.cl true d e) <;> rfl
  rw [e2] at q'
  have up : ∀ {t : T} {H1 : Hp}, PostT c σ H1 (tst (evX c.cl false t e)) Q → PostT c σ H1 (tst (evX c.cl true t e)) Q := fun {t H1} h => by
    by_cases hb : evX c.cl false t e = .bad
    · rw [hb] at h; exact h.elim
    · rw [evX_up rfl hb]; exact h
  refine isTrue_IfExp (thn (hc.run pins s σ H (fun k H1 => EnvOk c H1 σ e ∧ PostT c σ H1 (tst (if k then evX c.cl false a e else evX c.cl false b e)) Q) I ⟨e, he, q'.stepT fun k H1 s1 q1 => ⟨he.same s1, q1⟩⟩) fun k s1 ⟨H1, I1, he1, q1⟩ => ?_)
  cases k with
  | true =>
    rw [if_pos rfl]
    exact ha.run pins s1 σ H1 Q I1 ⟨e, he1, up q1⟩
  | false =>
    rw [if_neg Bool.false_ne_true]
    exact hb.run pins s1 σ H1 Q I1 ⟨e, he1, up q1⟩
structure LcP (cc : CC) (X : Cx) (c : Fx) (own tg : List Nat) (tup : Bool) (it cd a : T) (elt te iter : Expr) (ifs : List Expr) (scope : Scope) : Prop where
  hh : cc.hot = false
  blk : blkC cc.N cc.sc scope (ownP cc.N own) = true
  htg : ∀ i ∈ tg, i ∈ own
  hm : mTg false cc.N (relS scope cc.sc) tg tup te = true
  hi : PI X te iter (tXI c true it)
  st : isStar iter = false
  fs : ∀ x, foldedSetIterable iter X.env x = pure x
  hc : ∀ s H C cl fp, PTs (X.blk s H scope (compEnvC scope cl C X.env) fp) ifs (tCond c cd)
  he : ∀ s H C cl fp, PE (X.blk s H scope (compEnvC scope cl C X.env) fp) elt (tEl c a)
theorem lc_parts {cc : CC} {X : Cx} {c : Fx} (o : XOk cc X c) {own tg : List Nat} {tup : Bool} {it cd a : T} (iht : SE it) (ihc : SE cd) (iha : SE a) {elt : Expr} {gens : List Comprehension} {scope : Scope} {p : Pos} (h : mE cc (.lc own tg tup it cd a) (.ListComp elt gens scope p) = true) :
    ∃ te iter ifs, gens = [⟨te, iter, ifs, 0⟩] ∧ LcP cc X c own tg tup it cd a elt te iter ifs scope := by
  cases gens with
  | nil => cases h
  | cons g r => cases r with
    | cons _ _ => obtain ⟨_, _, _, _⟩ := g; cases h
    | nil =>
      obtain ⟨te, iter, ifs, as⟩ := g
      obtain ⟨h, h9⟩ := and2 h
      obtain ⟨h, h8⟩ := and2 h
      obtain ⟨h, h7⟩ := and2 h
      obtain ⟨h, h6⟩ := and2 h
      obtain ⟨h, h3⟩ := and2 h
      obtain ⟨h, h2⟩ := and2 h
      obtain ⟨h0, h1⟩ := and2 h
      have e0 := of_decide_eq_true h0
      subst e0
      have hh := bang h1
      have qi := iht.I true o h7
      refine ⟨te, iter, ifs, rfl, hh, h2, of_decide_eq_true h3, h6, qi.1, qi.2.1, folded qi.2.2 _, fun s H C cl fp => ?_, fun s H C cl fp => pe_any fun D => (iha.E (o.blk hh (s := s) (H := H) (C := C) (cl := cl) (fp := fp) (D := D)) h9).1.share⟩
      unfold tCond
      cases ifs with
      | nil => rw [show isNo cd = true from h8]; exact pts_nil
      | cons q r => cases r with
        | cons _ _ => cases h8
        | nil =>
          obtain ⟨h8, h10⟩ := and2 (show (!isNo cd && mE { cc with sc := relS scope cc.sc } cd q) = true from h8)
          rw [bang h8]
          exact pts_one (pt_any fun D => (ihc.E (o.blk hh (s := s) (H := H) (C := C) (cl := cl) (fp := fp) (D := D)) h10).2.1)
theorem se (t : T) : SE t := by
  induction t with
  | v i =>
    refine ⟨fun {cc X c ex} o h => ?_, fun o h => (by cases h), fun w o h => (by cases h), fun o h => (by cases h)⟩
    cases ex with
    | Name x p =>
      obtain ⟨h12, h3⟩ := and2 (show (decide (cc.N[i]? = some x) && visB cc.sc x && !dbg x) = true from h)
      obtain ⟨h1, h2⟩ := and2 h12
      have P := rep_v (pos := p) o (of_decide_eq_true h1) h2 (bang h3)
      exact ⟨P, pt_of P.look fun _ => rfl, fun z => by (cases z), rfl⟩
    | _ => cases h
  | ci i =>
    refine ⟨fun {cc X c ex} o h => ?_, fun o h => (by cases h), fun w o h => (by cases h), fun o h => (by cases h)⟩
    cases ex with
    | Constant v j p => cases v with
      | int k =>
        have e : i = k := of_decide_eq_true (show decide (i = k) = true from h)
        subst e
        have P := rep_ci (X := X) (c := c) (i := i) (j := j) (pos := p)
        exact ⟨P, pt_of P.look fun _ => rfl, fun z => by (cases z), rfl⟩
      | _ => cases h
    | _ => cases h
  | cb i =>
    refine ⟨fun {cc X c ex} o h => ?_, fun o h => (by cases h), fun w o h => (by cases h), fun o h => (by cases h)⟩
    cases ex with
    | Constant v j p => cases v with
      | bool k =>
        have e : i = k := of_decide_eq_true (show decide (i = k) = true from h)
        subst e
        have P := rep_cb (X := X) (c := c) (i := i) (j := j) (pos := p)
        exact ⟨P, pt_of P.look fun _ => rfl, fun z => by (cases z), rfl⟩
      | _ => cases h
    | _ => cases h
  | cn =>
    refine ⟨fun {cc X c ex} o h => ?_, fun o h => (by cases h), fun w o h => (by cases h), fun o h => (by cases h)⟩
    cases ex with
    | Constant v j p => cases v with
      | none =>
        have P := rep_cn (X := X) (c := c) (j := j) (pos := p)
        exact ⟨P, pt_of P.look fun _ => rfl, fun z => by (cases z), rfl⟩
      | _ => cases h
    | _ => cases h
  | cs s =>
    refine ⟨fun {cc X c ex} o h => ?_, fun o h => (by cases h), fun w o h => (by cases h), fun o h => (by cases h)⟩
    cases ex with
    | Constant v j p => cases v with
      | str k =>
        have P := rep_cs (X := X) (c := c) (j := j) (pos := p) (of_decide_eq_true (show decide (k.cps.toList = s) = true from h))
        exact ⟨P, pt_of P.look fun _ => rfl, fun z => by (cases z), rfl⟩
      | _ => cases h
    | _ => cases h
  | g k =>
    refine ⟨fun {cc X c ex} o h => ?_, fun o h => (by cases h), fun w o h => (by cases h), fun o h => (by cases h)⟩
    cases ex with
    | Name x p =>
      obtain ⟨h12, h3⟩ := and2 (show (decide (cc.G.glo[k]? = some x) && glB cc.sc x && !dbg x) = true from h)
      obtain ⟨h1, h2⟩ := and2 h12
      have P := rep_g (pos := p) o (of_decide_eq_true h1) h2 (bang h3)
      exact ⟨P, pt_of P.look fun _ => rfl, fun z => by (cases z), rfl⟩
    | _ => cases h
  | bin op a b iha ihb =>
    refine ⟨fun {cc X c ex} o h => ?_, fun o h => (by cases h), fun w o h => (by cases h), fun o h => (by cases h)⟩
    cases ex with
    | BinOp x op' y p =>
      obtain ⟨h12, h3⟩ := and2 (show ((!cc.hot && decide (op = op')) && mE cc a x && mE cc b y) = true from h)
      obtain ⟨h1, h2⟩ := and2 h12
      obtain ⟨h0, h1⟩ := and2 h1
      have e := of_decide_eq_true h1
      subst e
      have P := rule_bin (pos := p) o (bang h0) op (iha.E o h2).1.look (ihb.E o h3).1.look
      exact ⟨P, pt_of P.look fun _ => rfl, fun z => by (cases z), rfl⟩
    | _ => cases h
  | neg a iha =>
    refine ⟨fun {cc X c ex} o h => ?_, fun o h => (by cases h), fun w o h => (by cases h), fun o h => (by cases h)⟩
    cases ex with
    | UnaryOp op x p => cases op with
      | USub =>
        have P := rule_neg (pos := p) o (iha.E o (show mE cc a x = true from h)).1.look
        exact ⟨P, pt_of P.look fun _ => rfl, fun z => by (cases z), rfl⟩
      | _ => cases h
    | _ => cases h
  | not a iha =>
    refine ⟨fun {cc X c ex} o h => ?_, fun o h => (by cases h), fun w o h => (by cases h), fun o h => (by cases h)⟩
    cases ex with
    | UnaryOp op x p => cases op with
      | Not =>
        have q := iha.E o (show mE cc a x = true from h)
        have P := rule_not (pos := p) q.1.look q.2.1
        exact ⟨P.1, P.2, fun z => by (cases z), rfl⟩
      | _ => cases h
    | _ => cases h
  | and a b iha ihb =>
    refine ⟨fun {cc X c ex} o h => ?_, fun o h => (by cases h), fun w o h => (by cases h), fun o h => (by cases h)⟩
    cases ex with
    | BoolOp op es p => cases op with
      | And => cases es with
        | nil => cases h
        | cons x es => cases es with
          | nil => cases h
          | cons y r =>
            obtain ⟨h1, h2⟩ := and2 h
            have qa := iha.E o h1
            cases r with
            | nil =>
              have qb := ihb.E o h2
              have P := rule_and qa.1.look qa.2.1 (pe_one qb.1.look) (pw_and1 qb.2.1) (pos := p)
              exact ⟨P.1, P.2.pt, fun _ => P.2, rfl⟩
            | cons z r =>
              have qb := ihb.E o h2
              have P := rule_and qa.1.look qa.2.1 qb.1.look (qb.2.2.1 rfl)
              exact ⟨P.1, P.2.pt, fun _ => P.2, rfl⟩
      | Or => cases h
    | _ => cases h
  | or a b iha ihb =>
    refine ⟨fun {cc X c ex} o h => ?_, fun o h => (by cases h), fun w o h => (by cases h), fun o h => (by cases h)⟩
    cases ex with
    | BoolOp op es p => cases op with
      | Or => cases es with
        | nil => cases h
        | cons x es => cases es with
          | nil => cases h
          | cons y r =>
            obtain ⟨h1, h2⟩ := and2 h
            have qa := iha.E o h1
            cases r with
            | nil =>
              have qb := ihb.E o h2
              have P := rule_or qa.1.look qa.2.1 (pe_one qb.1.look) (pw_or1 qb.2.1) (pos := p)
              exact ⟨P.1, P.2.pt, fun _ => P.2, rfl⟩
            | cons z r =>
              have qb := ihb.E o h2
              have P := rule_or qa.1.look qa.2.1 qb.1.look (qb.2.2.1 rfl)
              exact ⟨P.1, P.2.pt, fun _ => P.2, rfl⟩
      | And => cases h
    | _ => cases h
  | ite d a b ihd iha ihb =>
    refine ⟨fun {cc X c ex} o h => ?_, fun o h => (by cases h), fun w o h => (by cases h), fun o h => (by cases h)⟩
    cases ex with
    | IfExp u x y p =>
      obtain ⟨h12, h3⟩ := and2 (show (mE cc d u && mE cc a x && mE cc b y) = true from h)
      obtain ⟨h1, h2⟩ := and2 h12
      have P := rule_ite (pos := p) (ihd.E o h1).2.1 (iha.E o h2).1.share (ihb.E o h3).1.share
      have PTt := (pt_ifE (X := X) (pos := p) (ihd.E o h1).2.1 (iha.E o h2).2.1 (ihb.E o h3).2.1)
      exact ⟨P, PTt, fun z => by (cases z), rfl⟩
    | _ => cases h
  | cmp op a b iha ihb =>
    refine ⟨fun {cc X c ex} o h => ?_, fun o h => (by cases h), fun w o h => (by cases h), fun o h => (by cases h)⟩
    cases ex with
    | Compare x ops ys p => cases ops with
      | nil => cases h
      | cons op' r => cases r with
        | cons _ _ => cases ys with
          | nil => cases h
          | cons _ ys => cases ys <;> cases h
        | nil => cases ys with
          | nil => cases h
          | cons y r => cases r with
            | cons _ _ => cases h
            | nil =>
              obtain ⟨h123, h4⟩ := and2 h
              obtain ⟨h12, h3⟩ := and2 h123
              obtain ⟨h1, h2⟩ := and2 h12
              have e := of_decide_eq_true h1
              subst e
              have P := rule_cmp (pos := p) o op (bang h2) (iha.E o h3).1.look (ihb.E o h4).1.look
              exact ⟨P.1, P.2, fun z => by (cases z), rfl⟩
    | _ => cases h
  | chain op op2 a b d iha ihb ihd =>
    refine ⟨fun {cc X c ex} o h => ?_, fun o h => (by cases h), fun w o h => (by cases h), fun o h => (by cases h)⟩
    cases ex with
    | Compare x ops ys p => cases ops with
      | nil => cases h
      | cons o1 r => cases r with
        | nil => cases ys with
          | nil => cases h
          | cons _ ys => cases ys <;> cases h
        | cons o2 r => cases r with
          | cons _ _ => cases ys with
            | nil => cases h
            | cons _ ys => cases ys with
              | nil => cases h
              | cons _ ys => cases ys <;> cases h
          | nil => cases ys with
            | nil => cases h
            | cons y r => cases r with
              | nil => cases h
              | cons z r => cases r with
                | cons _ _ => cases h
                | nil =>
                  obtain ⟨h, h6⟩ := and2 h
                  obtain ⟨h, h5⟩ := and2 h
                  obtain ⟨h, h4⟩ := and2 h
                  obtain ⟨h, h3⟩ := and2 h
                  obtain ⟨h1, h2⟩ := and2 h
                  have e1 := of_decide_eq_true h1
                  have e2 := of_decide_eq_true h2
                  subst e1 e2
                  have P := rule_chain (pos := p) o op op2 (bang h3) (iha.E o h4).1.look (ihb.E o h5).1.look (ihd.E o h6).1.look
                  exact ⟨P.1, P.2, fun z => by (cases z), rfl⟩
    | _ => cases h
  | nil =>
    refine ⟨fun o h => (by cases h), fun {cc X c es} o h => ?_, fun w o h => (by cases h), fun o h => (by cases h)⟩
    cases es with
    | nil => exact ⟨pa_nilD.1, pa_nilD.2, rfl, fun cl w e ds h => (by cases h; rfl), fun _ => rfl, fun kws hk => (by cases kws <;> first | exact pk_nilD | cases hk), fun pos ks keys hk hl => pairs_nil hl⟩
    | cons _ _ => cases h
  | cons a r iha ihr =>
    refine ⟨fun o h => (by cases h), fun {cc X c es} o h => ?_, fun w o h => (by cases h), fun {cc X c es} o h => ?_⟩
    case refine_2 =>
      cases es with
      | nil => cases h
      | cons e es =>
        obtain ⟨h12, h3⟩ := and2 (show (!isStar e && mE cc a e && mLs cc r es) = true from h)
        obtain ⟨h1, h2⟩ := and2 h12
        have qa := iha.E o h2
        have qr := ihr.S o h3
        refine ⟨(pa_consD (bang h1)).2 qa.1.share qr.1, fun cl w e0 ds hd => ?_⟩
        obtain ⟨x, xs, rfl, q⟩ := evL_len1 hd
        have := qr.2 cl w e0 xs q
        simp only [List.length_cons]
        omega
    cases es with
    | nil => cases h
    | cons e es =>
      obtain ⟨h12, h3⟩ := and2 (show (!isStar e && mE cc a e && mL cc r es) = true from h)
      obtain ⟨h1, h2⟩ := and2 h12
      have qa := iha.E o h2
      have qr := ihr.L o h3
      refine ⟨(pa_consD (bang h1)).1 qa.1.look qr.1, (pa_consD (bang h1)).2 qa.1.share qr.2.1, ?_, fun cl w e0 ds hd => ?_, (fun z => by cases z), fun kws hk => ?_, fun pos ks keys hk hl => pairs_cons hk hl (fun c' o' => (iha.E o' h2).1.share) qr.2.2.2.2.2.2⟩
      · show (!isStar e && noStars es) = true
        rw [h1, qr.2.2.1]; rfl
      · obtain ⟨x, xs, rfl, q⟩ := evL_len1 hd
        simp [qr.2.2.2.1 cl w e0 xs q]
      · cases kws with
        | nil => cases hk
        | cons kw kws =>
          have hk' : kw.value :: kwE kws = e :: es := hk
          simp only [List.cons.injEq] at hk'
          obtain ⟨k1, k2⟩ := hk'
          exact pk_consD (by rw [k1]; exact qa.1.share) (qr.2.2.2.2.2.1 kws k2)
  | tup a iha =>
    refine ⟨fun {cc X c ex} o h => ?_, fun o h => (by cases h), fun w o h => (by cases h), fun o h => (by cases h)⟩
    cases ex with
    | Tuple es k p =>
      obtain ⟨h1, h2⟩ := and2 (show (decide (es.length < 1000) && mL cc a es) = true from h)
      have q := iha.L o h2
      have P := rule_tup (k := k) (pos := p) o (fun ds e hd => by rw [q.2.2.2.1 _ _ _ _ hd]; exact of_decide_eq_true h1) q.2.1
      exact ⟨P, pt_of P.look fun _ => rfl, fun z => by (cases z), rfl⟩
    | _ => cases h
  | lst a iha =>
    refine ⟨fun {cc X c ex} o h => ?_, fun o h => (by cases h), fun w o h => (by cases h), fun o h => (by cases h)⟩
    cases ex with
    | List es p =>
      cases hz : (decide (es.length < 1000) && mL cc a es) with
      | true =>
        obtain ⟨h1, h2⟩ := and2 hz
        have q := iha.L o h2
        have P := rule_lst (pos := p) o (fun ds e hd => by rw [q.2.2.2.1 _ _ _ _ hd]; exact of_decide_eq_true h1) q.2.1
        exact ⟨P, pt_of P.look fun _ => rfl, fun z => by (cases z), rfl⟩
      | false =>
        have h' : ((decide (es.length < 1000) && mL cc a es) || (decide (es.length < 100) && mLs cc a es)) = true := h
        rw [hz, Bool.false_or] at h'
        obtain ⟨h1, h2⟩ := and2 h'
        have q := iha.S o h2
        have h1 := of_decide_eq_true h1
        have P := rule_lst (pos := p) o (fun ds e hd => by have := q.2 _ _ _ _ hd; omega) q.1
        exact ⟨P, pt_of P.look fun _ => rfl, fun z => by (cases z), rfl⟩
    | _ => cases h
  | ix a b iha ihb =>
    refine ⟨fun {cc X c ex} o h => ?_, fun o h => (by cases h), fun w o h => (by cases h), fun o h => (by cases h)⟩
    cases ex with
    | Subscript x y p =>
      have h' : (!isSlice y && mE cc a x && mE cc b y) = true := h
      obtain ⟨h12, h3⟩ := and2 h'
      obtain ⟨h1, h2⟩ := and2 h12
      have P := rule_ix (pos := p) o (plain_of (bang h1)) (iha.E o h2).1.look (ihb.E o h3).1.look
      exact ⟨P, pt_of P.look fun _ => rfl, fun z => by (cases z), rfl⟩
    | _ => cases h
  | sl a lo hi iha ihl ihh =>
    refine ⟨fun {cc X c ex} o h => ?_, fun o h => (by cases h), fun w o h => (by cases h), fun o h => (by cases h)⟩
    cases ex with
    | Subscript x y p => cases y with
      | Slice l u st p2 => cases st with
        | some _ => cases h
        | none =>
          obtain ⟨h12, h3⟩ := and2 h
          obtain ⟨h1, h2⟩ := and2 h12
          have ql : PO X l (tXO c lo) := by
            cases l with
            | none => unfold tXO; rw [show isNo lo = true from h2]; exact po_none
            | some e =>
              obtain ⟨q1, q2⟩ := and2 (show (!isNo lo && mE cc lo e) = true from h2)
              unfold tXO; rw [bang q1]; exact po_some (ihl.E o q2).1.look
          have qh : PO X u (tXO c hi) := by
            cases u with
            | none => unfold tXO; rw [show isNo hi = true from h3]; exact po_none
            | some e =>
              obtain ⟨q1, q2⟩ := and2 (show (!isNo hi && mE cc hi e) = true from h3)
              unfold tXO; rw [bang q1]; exact po_some (ihh.E o q2).1.look
          have P := rule_sl (pos := p) (p2 := p2) o (iha.E o h1).1.look ql qh
          exact ⟨P, pt_of P.look fun _ => rfl, fun z => by (cases z), rfl⟩
      | _ => cases h
    | _ => cases h
  | call f as iha =>
    refine ⟨fun {cc X c ex} o h => ?_, fun o h => (by cases h), fun w o h => (by cases h), fun o h => (by cases h)⟩
    cases ex with
    | Call fn es kws p => cases fn with
      | Name x pn => cases kws with
        | cons _ _ => cases h
        | nil =>
          obtain ⟨h, h5⟩ := and2 h
          obtain ⟨h, h4⟩ := and2 h
          obtain ⟨h, h3⟩ := and2 h
          obtain ⟨h1, h2⟩ := and2 h
          have q := iha.L o h5
          cases zf : cc.G.fns[f]? with
          | none => rw [zf] at h4; cases h4
          | some F =>
            rw [zf] at h4
            obtain ⟨h4, h6⟩ := and2 h4
            obtain ⟨h4, h7⟩ := and2 h4
            obtain ⟨h8, h4⟩ := and2 h4
            have e := of_decide_eq_true h4
            subst e
            have P := rule_call (p := pn) (pos := p) o (bang h1) zf h8 (of_decide_eq_true h7) (of_decide_eq_true h6) h2 (bang h3) q.2.2.2.2.1 q.2.2.1 (fun ds e hd => q.2.2.2.1 _ _ _ _ hd) q.2.1
            have ef : frT cc.G (.call f as) = F.fr := by show (match cc.G.fns[f]? with | some F => F.fr | none => false) = F.fr; rw [zf]
            rw [ef]
            exact ⟨P, pt_of P.look fun _ => rfl, fun z => by (cases z), rfl⟩
      | _ => cases h
    | _ => cases h
  | callk f as kn ks iha ihk =>
    refine ⟨fun {cc X c ex} o h => ?_, fun o h => (by cases h), fun w o h => (by cases h), fun o h => (by cases h)⟩
    cases ex with
    | Call fn es kws p => cases fn with
      | Name x pn => cases es with
        | nil => cases h
        | cons e0 er =>
          obtain ⟨h, h6⟩ := and2 h
          obtain ⟨h, h5⟩ := and2 h
          obtain ⟨h, h4⟩ := and2 h
          obtain ⟨h, h3⟩ := and2 h
          obtain ⟨h1, h2⟩ := and2 h
          have q := iha.L o h5
          have qk := ihk.L o h6
          cases zf : cc.G.fns[f]? with
          | none => rw [zf] at h4; cases h4
          | some F =>
            rw [zf] at h4
            obtain ⟨h4, h11⟩ := and2 h4
            obtain ⟨h4, h10⟩ := and2 h4
            obtain ⟨h4, h9⟩ := and2 h4
            obtain ⟨h8, h4⟩ := and2 h4
            have e := of_decide_eq_true h4
            subst e
            have P := rule_callk (p := pn) (pos := p) o (bang h1) h2 (bang h3) zf h8 (of_decide_eq_true h9) (of_decide_eq_true h10) h11 ⟨q.2.1, q.2.2.1, q.2.2.2.1, q.2.2.2.2.1⟩ (qk.2.2.2.2.2.1 kws rfl) (fun cl w e ds hd => by rw [qk.2.2.2.1 cl w e ds hd]; simp [kwE])
            have ef : frT cc.G (.callk f as kn ks) = F.fr := by show (match cc.G.fns[f]? with | some F => F.fr | none => false) = F.fr; rw [zf]
            rw [ef]
            exact ⟨P, pt_of P.look fun _ => rfl, fun z => by (cases z), rfl⟩
      | _ => cases es <;> cases h
    | _ => cases h
  | mk k as iha =>
    refine ⟨fun {cc X c ex} o h => ?_, fun o h => (by cases h), fun w o h => (by cases h), fun o h => (by cases h)⟩
    cases ex with
    | Call fn es kws p => cases fn with
      | Name x pn => cases kws with
        | cons _ _ => cases h
        | nil =>
          obtain ⟨h, h6⟩ := and2 h
          obtain ⟨h, h5⟩ := and2 h
          obtain ⟨h, h4⟩ := and2 h
          obtain ⟨h, h3⟩ := and2 h
          obtain ⟨h1, h2⟩ := and2 h
          have q := iha.L o h6
          cases zk : cc.G.cs.lookup k with
          | none => rw [zk] at h5; cases h5
          | some f =>
            rw [zk] at h5
            have h5 : (match cc.G.fns[f]? with
              | some F => decide (F.lo = es.length + 1)
              | none => false) = true := h5
            cases zf : cc.G.fns[f]? with
            | none => rw [zf] at h5; cases h5
            | some F =>
              rw [zf] at h5
              have P := rule_mk (p := pn) (pos := p) o (bang h1) h2 (bang h3) zk zf (of_decide_eq_true h4) (of_decide_eq_true h5) ⟨q.2.1, q.2.2.1, q.2.2.2.1, q.2.2.2.2.1⟩
              exact ⟨P, pt_of P.look fun _ => rfl, fun z => by (cases z), rfl⟩
      | _ => cases h
    | _ => cases h
  | mkk k as kn ks iha ihk =>
    refine ⟨fun {cc X c ex} o h => ?_, fun o h => (by cases h), fun w o h => (by cases h), fun o h => (by cases h)⟩
    cases ex with
    | Call fn es kws p => cases fn with
      | Name x pn => cases es with
        | nil => cases h
        | cons e0 er =>
          obtain ⟨h, h7⟩ := and2 h
          obtain ⟨h, h6⟩ := and2 h
          obtain ⟨h, h5⟩ := and2 h
          obtain ⟨h, h4⟩ := and2 h
          obtain ⟨h, h3⟩ := and2 h
          obtain ⟨h1, h2⟩ := and2 h
          have q := iha.L o h6
          have qk := ihk.L o h7
          cases zk : cc.G.cs.lookup k with
          | none => rw [zk] at h5; cases h5
          | some f =>
            rw [zk] at h5
            have h5 : (match cc.G.fns[f]? with
              | some F => decide ((f, kn) ∈ cc.G.kws) && decide (F.lo = (e0 :: er).length + 1) && kwN F.pn kn kws
              | none => false) = true := h5
            cases zf : cc.G.fns[f]? with
            | none => rw [zf] at h5; cases h5
            | some F =>
              rw [zf] at h5
              obtain ⟨h5, h10⟩ := and2 h5
              obtain ⟨h8, h9⟩ := and2 h5
              have P := rule_mkk (p := pn) (pos := p) o (bang h1) h2 (bang h3) zk zf (of_decide_eq_true h4) (of_decide_eq_true h8) (of_decide_eq_true h9) h10 ⟨q.2.1, q.2.2.1, q.2.2.2.1, q.2.2.2.2.1⟩ (qk.2.2.2.2.2.1 kws rfl) (fun cl w e ds hd => by rw [qk.2.2.2.1 cl w e ds hd]; simp [kwE])
              exact ⟨P, pt_of P.look fun _ => rfl, fun z => by (cases z), rfl⟩
      | _ => cases es <;> cases h
    | _ => cases h
  | meth m x0 as ihs iha =>
    refine ⟨fun {cc X c ex} o h => ?_, fun o h => (by cases h), fun w o h => (by cases h), fun o h => (by cases h)⟩
    cases ex with
    | Call fn es kws p => cases fn with
      | Attribute x nm ap => cases kws with
        | cons _ _ => cases h
        | nil =>
          obtain ⟨h, h7⟩ := and2 h
          obtain ⟨h, h6⟩ := and2 h
          obtain ⟨h, h5⟩ := and2 h
          obtain ⟨h, h4⟩ := and2 h
          obtain ⟨h, h3⟩ := and2 h
          obtain ⟨h1, h2⟩ := and2 h
          have q := iha.L o h7
          have P := rule_meth (pos := p) o (bang h1) (of_decide_eq_true h2) (bang h3) h4 h5 (ihs.E o h6).1.share ⟨q.2.1, q.2.2.1, q.2.2.2.1, q.2.2.2.2.1⟩
          exact ⟨P, pt_of P.look fun _ => rfl, fun z => by (cases z), rfl⟩
      | _ => cases h
    | _ => cases h
  | fld f x0 ihs =>
    refine ⟨fun {cc X c ex} o h => ?_, fun o h => (by cases h), fun w o h => (by cases h), fun o h => (by cases h)⟩
    cases ex with
    | Attribute x nm ap =>
      obtain ⟨h, h4⟩ := and2 h
      obtain ⟨h, h3⟩ := and2 h
      obtain ⟨h1, h2⟩ := and2 h
      have P := rule_fld (pos := ap) o (of_decide_eq_true h2) (bang h3) (ihs.E o h4).1.look
      exact ⟨P, pt_of P.look fun _ => rfl, fun z => by (cases z), rfl⟩
    | _ => cases h
  | bi b as iha =>
    refine ⟨fun {cc X c ex} o h => ?_, fun o h => (by cases h), fun w o h => (by cases h), fun o h => (by cases h)⟩
    cases ex with
    | Call fn es kws p => cases fn with
      | Name x pn => cases kws with
        | cons _ _ => cases es <;> cases h
        | nil => cases es with
          | nil => cases h
          | cons e es =>
            obtain ⟨h, h5⟩ := and2 h
            obtain ⟨h, h4⟩ := and2 h
            obtain ⟨h, h3⟩ := and2 h
            obtain ⟨h1, h2⟩ := and2 h
            have ee := of_decide_eq_true h3
            subst ee
            have q := iha.L o h5
            have P := rule_bi (p := pn) (pos := p) o (bang h1) h2 h4 q.2.2.1 q.1
            exact ⟨P, pt_of P.look fun _ => rfl, fun z => by (cases z), rfl⟩
      | _ => cases h
    | _ => cases h
  | rpl lit ps a iha =>
    refine ⟨fun {cc X c ex} o h => ?_, fun o h => (by cases h), fun w o h => (by cases h), fun o h => (by cases h)⟩
    cases ex with
    | BinOp l op y p2 => cases l with
      | Constant k j p => cases k with
        | str u => cases op with
          | Add =>
            obtain ⟨g, g4⟩ := and2 (show (!cc.hot && decide (u.cps.toList = lit) && !ps.isEmpty && (match rplB ps y with
              | some o => mE cc a o
              | none => false)) = true from h)
            obtain ⟨g, g3⟩ := and2 g
            obtain ⟨g1, g2⟩ := and2 g
            cases zb : rplB ps y with
            | none => rw [zb] at g4; cases g4
            | some o1 =>
              rw [zb] at g4
              have P := rule_rpl (pos := p2) (p := p) (j := j) o (bang g1) (of_decide_eq_true g2) zb (iha.E o g4).1.look
              exact ⟨P, pt_of P.look fun _ => rfl, fun z => by (cases z), rfl⟩
          | _ => cases h
        | _ => cases op <;> cases h
      | _ => cases op <;> cases h
    | _ => cases h
  | isq a iha =>
    refine ⟨fun {cc X c ex} o h => ?_, fun o h => (by cases h), fun w o h => (by cases h), fun o h => (by cases h)⟩
    cases ex with
    | Call fn es kws p => cases fn with
      | Name x pn => cases es with
        | nil => cases h
        | cons y r => cases r with
          | cons _ _ => cases h
          | nil => cases kws with
            | cons _ _ => cases h
            | nil =>
              obtain ⟨h, h6⟩ := and2 (show (!cc.hot && cc.G.isq && decide (x = "isqrt") && glB cc.sc x && !isStar y && mE cc a y) = true from h)
              obtain ⟨h, h5⟩ := and2 h
              obtain ⟨h, h4⟩ := and2 h
              obtain ⟨h, h3⟩ := and2 h
              obtain ⟨h1, h2⟩ := and2 h
              have e1 := of_decide_eq_true h3
              subst e1
              have P := rule_isq (p := pn) (pos := p) o h2 h4 (bang h5) (iha.E o h6).1.look
              exact ⟨P, pt_of P.look fun _ => rfl, fun z => by (cases z), rfl⟩
      | _ => cases h
    | _ => cases h
  | maxd a d iha =>
    refine ⟨fun {cc X c ex} o h => ?_, fun o h => (by cases h), fun w o h => (by cases h), fun o h => (by cases h)⟩
    cases ex with
    | Call fn es kws p => cases fn with
      | Name x pn => cases es with
        | nil => cases h
        | cons y r => cases r with
          | cons _ _ => cases h
          | nil => cases kws with
            | nil => cases h
            | cons kw kr => cases kr with
              | cons _ _ => obtain ⟨nm, v, kp⟩ := kw; cases nm <;> first | (cases h; done) | (cases v <;> first | (cases h; done) | (rename_i cst _ _; cases cst <;> cases h))
              | nil =>
                obtain ⟨nm, v, kp⟩ := kw
                cases nm with
                | none => cases h
                | some k => cases v with
                  | Constant cst kk pc => cases cst with
                    | int j =>
                      obtain ⟨h, h6⟩ := and2 (show (!cc.hot && decide (x = "max") && glB cc.sc x && !isStar y && decide (k = "default") && decide (j = d) && mE cc a y) = true from h)
                      obtain ⟨h, h5⟩ := and2 h
                      obtain ⟨h, h4⟩ := and2 h
                      obtain ⟨h, h3⟩ := and2 h
                      obtain ⟨h, h2⟩ := and2 h
                      obtain ⟨h0, h1⟩ := and2 h
                      have e1 := of_decide_eq_true h1
                      have e2 := of_decide_eq_true h4
                      have e3 := of_decide_eq_true h5
                      subst e1 e2 e3
                      have P := rule_maxd (a := a) (d := j) (p := pn) (pc := pc) (pk := kp) (k := kk) (pos := p) o (bang h0) h2 (bang h3) (iha.E o h6).1.look
                      exact ⟨P, pt_of P.look fun _ => rfl, fun z => by (cases z), rfl⟩
                    | _ => cases h
                  | _ => cases h
      | _ => cases h
    | _ => cases h
  | dsp ks a iha =>
    refine ⟨fun {cc X c ex} o h => ?_, fun o h => (by cases h), fun w o h => (by cases h), fun o h => (by cases h)⟩
    cases ex with
    | Dict keys vals p =>
      obtain ⟨h1, h⟩ := and2 (show (!cc.hot && ((dspB ks keys vals && mL cc a vals) || (ks.isEmpty && keys.isEmpty && vals.isEmpty && isNilT a))) = true from h)
      rcases Bool.or_eq_true_iff.mp h with h | h
      rotate_left
      · obtain ⟨h, g4⟩ := and2 h
        obtain ⟨h, g3⟩ := and2 h
        obtain ⟨g1, g2⟩ := and2 h
        have e1 := List.isEmpty_iff.mp g1
        have e2 := List.isEmpty_iff.mp g2
        have e3 := List.isEmpty_iff.mp g3
        have e4 : a = .nil := by cases a <;> first | rfl | cases g4
        subst e1 e2 e3 e4
        have P := rule_dsp0 (X := X) (c := c) (pos := p)
        exact ⟨P, pt_of P.look fun _ => rfl, fun z => by (cases z), rfl⟩
      obtain ⟨h2, h3⟩ := and2 h
      have q := iha.L o h3
      have P := rule_dsp (pos := p) o h2 q.2.2.2.2.2.2 q.2.2.2.1
      exact ⟨P, pt_of P.look fun _ => rfl, fun z => by (cases z), rfl⟩
    | _ => cases h
  | lrev a iha =>
    refine ⟨fun {cc X c ex} o h => ?_, fun o h => (by cases h), fun w o h => (by cases h), fun o h => (by cases h)⟩
    cases ex with
    | Call fn es kws p => cases fn with
      | Name x pn => cases es with
        | nil => cases h
        | cons e0 r => cases e0 with
          | Call fn2 es2 kws2 p2 => cases fn2 with
            | Name y pn2 => cases es2 with
              | nil => cases h
              | cons e r2 => cases r2 with
                | cons _ _ => cases h
                | nil => cases kws2 with
                  | cons _ _ => cases h
                  | nil => cases r with
                    | cons _ _ => cases h
                    | nil => cases kws with
                      | cons _ _ => cases h
                      | nil =>
                        obtain ⟨h, h7⟩ := and2 h
                        obtain ⟨h, h6⟩ := and2 h
                        obtain ⟨h, h5⟩ := and2 h
                        obtain ⟨h, h4⟩ := and2 h
                        obtain ⟨h, h3⟩ := and2 h
                        obtain ⟨h1, h2⟩ := and2 h
                        have e1 := of_decide_eq_true h2
                        have e2 := of_decide_eq_true h3
                        subst e1 e2
                        have P := rule_lrev (p := pn) (p2 := pn2) (pos := p) (pos2 := p2) o (bang h1) h4 h5 (bang h6) (iha.E o h7).1.look
                        exact ⟨P, pt_of P.look fun _ => rfl, fun z => by (cases z), rfl⟩
            | _ => cases h
          | _ => cases h
      | _ => cases h
    | _ => cases h
  | bm m a as iha ihs =>
    refine ⟨fun {cc X c ex} o h => ?_, fun o h => (by cases h), fun w o h => (by cases h), fun o h => (by cases h)⟩
    cases ex with
    | Call fn es kws p => cases fn with
      | Attribute x nm ap => cases kws with
        | cons _ _ => cases h
        | nil =>
          obtain ⟨h, h9⟩ := and2 h
          obtain ⟨h, h8⟩ := and2 h
          obtain ⟨h, h7⟩ := and2 h
          obtain ⟨h, h6⟩ := and2 h
          obtain ⟨h, h5⟩ := and2 h
          obtain ⟨h, h4⟩ := and2 h
          obtain ⟨h, h3⟩ := and2 h
          obtain ⟨h1, h2⟩ := and2 h
          have ee := of_decide_eq_true h3
          subst ee
          have q := ihs.L o h9
          have qa := iha.E o h8
          cases es with
          | nil =>
            have eb := q.2.2.2.2.1 rfl
            subst eb
            have hz : bmZero m = true := by cases zz : bmZero m <;> first | rfl | (rw [zz] at h7; cases h7)
            cases m with
            | bits =>
              have P := rule_bits (pos := p) o h5 (bang h4) qa.1.look
              exact ⟨P, pt_of P.look fun _ => rfl, fun z => by (cases z), rfl⟩
            | upper =>
              have P := rule_upper (pos := p) o h5 (bang h4) qa.1.look
              exact ⟨P, pt_of P.look fun _ => rfl, fun z => by (cases z), rfl⟩
            | _ => cases hz
          | cons e es =>
            have hz : bmZero m = false := by cases zz : bmZero m <;> first | rfl | (rw [zz] at h7; cases h7)
            cases hli : decide (m = .lindex) with
            | true =>
              have ei := of_decide_eq_true hli
              subst ei
              have P := rule_lindex (pos := p) o h5 (bang h4) q.2.2.1 h6 qa.1.look q.1
              exact ⟨P, pt_of P.look fun _ => rfl, fun z => by (cases z), rfl⟩
            | false =>
              have P := rule_bm (pos := p) o h2 (of_decide_eq_false hli) hz h5 (bang h4) q.2.2.1 h6 qa.1.look q.1
              exact ⟨P, pt_of P.look fun _ => rfl, fun z => by (cases z), rfl⟩
      | _ => cases h
    | _ => cases h
  | isi a t iha =>
    refine ⟨fun {cc X c ex} o h => ?_, fun o h => (by cases h), fun w o h => (by cases h), fun o h => (by cases h)⟩
    cases ex with
    | Call fn es kws p => cases fn with
      | Name x pn => cases es with
        | nil => cases h
        | cons y r => cases r with
          | nil => cases h
          | cons z0 r => cases z0 with
            | Name z pz => cases r with
              | cons _ _ => cases h
              | nil => cases kws with
                | cons _ _ => cases h
                | nil =>
                  obtain ⟨h, h7⟩ := and2 h
                  obtain ⟨h, h6⟩ := and2 h
                  obtain ⟨h, h5⟩ := and2 h
                  obtain ⟨h, h4⟩ := and2 h
                  obtain ⟨h, h3⟩ := and2 h
                  obtain ⟨h1, h2⟩ := and2 h
                  have e1 := of_decide_eq_true h1
                  have e2 := of_decide_eq_true h3
                  subst e1 e2
                  obtain ⟨t1, t2⟩ := tyB_of h6
                  have P := rule_isi (p := pn) (p2 := pz) (pos := p) o t1 t2 h2 h4 (bang h5) (iha.E o h7).1.look
                  exact ⟨P, pt_of P.look fun _ => rfl, fun z => by (cases z), rfl⟩
            | _ => cases h
      | _ => cases h
    | _ => cases h
  | ise i t =>
    refine ⟨fun {cc X c ex} o h => ?_, fun o h => (by cases h), fun w o h => (by cases h), fun o h => (by cases h)⟩
    cases ex with
    | Call fn es kws p => cases fn with
      | Name x pn => cases es with
        | nil => cases h
        | cons y0 r => cases y0 with
          | Name y py => cases r with
            | nil => cases h
            | cons z0 r => cases z0 with
              | Name z pz => cases r with
                | cons _ _ => cases h
                | nil => cases kws with
                  | cons _ _ => cases h
                  | nil =>
                    obtain ⟨h, h7⟩ := and2 h
                    obtain ⟨h, h6⟩ := and2 h
                    obtain ⟨h, h5⟩ := and2 h
                    obtain ⟨h, h4⟩ := and2 h
                    obtain ⟨h, h3⟩ := and2 h
                    obtain ⟨h1, h2⟩ := and2 h
                    have e1 := of_decide_eq_true h2
                    subst e1
                    have P := rule_ise (p := pn) (py := py) (pz := pz) (pos := p) o h1 h3 (of_decide_eq_true h4) h5 (bang h6) h7
                    exact ⟨P, pt_of P.look fun _ => rfl, fun z => by (cases z), rfl⟩
              | _ => cases h
          | _ => cases h
      | _ => cases h
    | _ => cases h
  | iseT i ts =>
    refine ⟨fun {cc X c ex} o h => ?_, fun o h => (by cases h), fun w o h => (by cases h), fun o h => (by cases h)⟩
    cases ex with
    | Call fn es kws p => cases fn with
      | Name x pn => cases es with
        | nil => cases h
        | cons y0 r => cases y0 with
          | Name y py => cases r with
            | nil => cases h
            | cons z0 r => cases z0 with
              | Tuple zs kz pz => cases r with
                | cons _ _ => cases h
                | nil => cases kws with
                  | cons _ _ => cases h
                  | nil =>
                    obtain ⟨h, h8⟩ := and2 h
                    obtain ⟨h, h7⟩ := and2 h
                    obtain ⟨h, h6⟩ := and2 h
                    obtain ⟨h, h5⟩ := and2 h
                    obtain ⟨h, h4⟩ := and2 h
                    obtain ⟨h, h3⟩ := and2 h
                    obtain ⟨h1, h2⟩ := and2 h
                    have e1 := of_decide_eq_true h2
                    subst e1
                    have P := rule_iseT (kk := kz) (p := pn) (py := py) (pz := pz) (pos := p) o h1 h3 (of_decide_eq_true h4) h5 (bang h6) (of_decide_eq_true h7) h8
                    exact ⟨P, pt_of P.look fun _ => rfl, fun z => by (cases z), rfl⟩
              | _ => cases h
          | _ => cases h
      | _ => cases h
    | _ => cases h
  | lc own tg tup it cd a iht ihc iha =>
    refine ⟨fun {cc X c ex} o h => ?_, fun o h => (by cases h), fun w o h => (by cases h), fun o h => (by cases h)⟩
    cases ex with
    | ListComp elt gens scope p =>
      obtain ⟨te, iter, ifs, eg, L⟩ := lc_parts o iht ihc iha h
      subst eg
      have P := rule_lc (ifs := ifs) (cd := cd) (a := a) (pos := p) o L.hh L.blk L.htg L.hm L.hi L.st L.fs L.hc L.he
      exact ⟨P, pt_of P.look fun _ => rfl, fun z => by (cases z), rfl⟩
    | _ => cases h
  | itr a iha =>
    refine ⟨fun o h => (by cases h), fun o h => (by cases h), fun {cc X c tg ex} w o h => ?_, fun {cc X c es} o h => ?_⟩
    case refine_2 =>
      cases es with
      | nil => cases h
      | cons e0 r => cases e0 with
        | Starred e1 p1 => cases r with
          | cons _ _ => cases h
          | nil =>
            refine ⟨rule_star o (iha.E o (show mE cc a e1 = true from h)).1.share, fun cl w e ds hd => ?_⟩
            have hd' : (evX cl false a e).bind starOf = .ok ds := hd
            cases z : evX cl false a e with
            | exc k => rw [z] at hd'; cases hd'
            | bad => rw [z] at hd'; cases hd'
            | ok d =>
              rw [z] at hd'
              have h2 : starOf d = .ok ds := hd'
              have : ds.length ≤ 800 := by
                cases d with
                | lst xs =>
                  have h3 : (if xs.length ≤ 800 then R.ok xs else .bad) = .ok ds := h2
                  split at h3
                  · cases h3; assumption
                  · cases h3
                | tup xs =>
                  have h3 : (if xs.length ≤ 800 then R.ok xs else .bad) = .ok ds := h2
                  split at h3
                  · cases h3; assumption
                  · cases h3
                | _ => cases h2
              omega
        | _ => cases r <;> cases h
    obtain ⟨h1, h2⟩ := and2 (show (!isStar ex && mE cc a ex) = true from h)
    have q := iha.E o h2
    exact ⟨rule_itr o (pem_w q.1 w), bang h1, q.2.2.2⟩
  | rng1 a iha =>
    refine ⟨fun {cc X c ex} o h => ?_, fun o h => (by cases h), fun {cc X c tg ex} w o h => ?_, fun o h => (by cases h)⟩
    · cases ex with
      | Call fn es kws p => cases fn with
        | Name x pn => cases es with
          | nil => cases h
          | cons e0 r => cases e0 with
            | Call fn2 es2 kws2 p2 => cases fn2 with
              | Name y pn2 => cases es2 with
                | nil => cases h
                | cons e r2 => cases r2 with
                  | cons _ _ => cases h
                  | nil => cases kws2 with
                    | cons _ _ => cases h
                    | nil => cases r with
                      | cons _ _ => cases h
                      | nil => cases kws with
                        | cons _ _ => cases h
                        | nil =>
                          obtain ⟨h, h7⟩ := and2 h
                          obtain ⟨h, h6⟩ := and2 h
                          obtain ⟨h, h5⟩ := and2 h
                          obtain ⟨h, h4⟩ := and2 h
                          obtain ⟨h, h3⟩ := and2 h
                          obtain ⟨h1, h2⟩ := and2 h
                          have e1 := of_decide_eq_true h2
                          have e2 := of_decide_eq_true h3
                          subst e1 e2
                          have P := rule_lrng (p := pn) (p2 := pn2) (pos := p) (pos2 := p2) o (bang h1) h4 h5 (bang h6) (iha.E o h7).1.look
                          exact ⟨P, pt_of P.look fun _ => rfl, fun z => by (cases z), rfl⟩
              | _ => cases h
            | _ => cases h
        | _ => cases h
      | _ => cases h
    · cases ex with
      | Call fn es kws p => cases fn with
        | Name x pn => cases es with
          | nil => cases h
          | cons y r => cases r with
            | cons _ _ => cases h
            | nil => cases kws with
              | cons _ _ => cases h
              | nil =>
                obtain ⟨h, h4⟩ := and2 h
                obtain ⟨h, h3⟩ := and2 h
                obtain ⟨h1, h2⟩ := and2 h
                have e1 := of_decide_eq_true h1
                subst e1
                exact ⟨rule_rng1 o h2 (bang h3) (iha.E o h4).1.look, rfl, rfl⟩
        | _ => cases h
      | _ => cases h
  | rng2 a b iha ihb =>
    refine ⟨fun o h => (by cases h), fun o h => (by cases h), fun {cc X c tg ex} w o h => ?_, fun o h => (by cases h)⟩
    cases ex with
    | Call fn es kws p => cases fn with
      | Name x pn => cases es with
        | nil => cases h
        | cons y r => cases r with
          | nil => cases h
          | cons z r => cases r with
            | cons _ _ => cases h
            | nil => cases kws with
              | cons _ _ => cases h
              | nil =>
                obtain ⟨h, h6⟩ := and2 h
                obtain ⟨h, h5⟩ := and2 h
                obtain ⟨h, h4⟩ := and2 h
                obtain ⟨h, h3⟩ := and2 h
                obtain ⟨h1, h2⟩ := and2 h
                have e1 := of_decide_eq_true h1
                subst e1
                exact ⟨rule_rng2 o h2 (bang h3) (bang h4) (iha.E o h5).1.look (ihb.E o h6).1.look, rfl, rfl⟩
      | _ => cases h
    | _ => cases h
  | rng3 a b d iha ihb ihd =>
    refine ⟨fun o h => (by cases h), fun o h => (by cases h), fun {cc X c tg ex} w o h => ?_, fun o h => (by cases h)⟩
    cases ex with
    | Call fn es kws p => cases fn with
      | Name x pn => cases es with
        | nil => cases h
        | cons y r => cases r with
          | nil => cases h
          | cons z r => cases r with
            | nil => cases h
            | cons u r => cases r with
              | cons _ _ => cases h
              | nil => cases kws with
                | cons _ _ => cases h
                | nil =>
                  obtain ⟨h, h8⟩ := and2 h
                  obtain ⟨h, h7⟩ := and2 h
                  obtain ⟨h, h6⟩ := and2 h
                  obtain ⟨h, h5⟩ := and2 h
                  obtain ⟨h, h4⟩ := and2 h
                  obtain ⟨h, h3⟩ := and2 h
                  obtain ⟨h1, h2⟩ := and2 h
                  have e1 := of_decide_eq_true h1
                  subst e1
                  exact ⟨rule_rng3 o h2 (bang h3) (bang h4) (bang h5) (iha.E o h6).1.look (ihb.E o h7).1.look (ihd.E o h8).1.look, rfl, rfl⟩
      | _ => cases h
    | _ => cases h
  | zip a b iha ihb =>
    refine ⟨fun o h => (by cases h), fun o h => (by cases h), fun {cc X c tg ex} w o h => ?_, fun o h => (by cases h)⟩
    cases tg with
    | Tuple ts tk tp => cases ex with
      | Call fn es kws p => cases fn with
        | Name x pn => cases es with
          | nil => cases h
          | cons y r => cases r with
            | nil => cases h
            | cons z r => cases r with
              | cons _ _ => cases h
              | nil => cases kws with
                | cons _ _ => cases h
                | nil =>
                  obtain ⟨h, h6⟩ := and2 h
                  obtain ⟨h, h5⟩ := and2 h
                  obtain ⟨h, h4⟩ := and2 h
                  obtain ⟨h, h3⟩ := and2 h
                  obtain ⟨h1, h2⟩ := and2 h
                  have e1 := of_decide_eq_true h1
                  subst e1
                  exact ⟨rule_zip o h2 (bang h3) (bang h4) (pem_w (iha.E o h5).1 w) (pem_w (ihb.E o h6).1 w), rfl, rfl⟩
        | _ => cases h
      | _ => cases h
    | _ => cases h
  | enum a iha =>
    refine ⟨fun o h => (by cases h), fun o h => (by cases h), fun {cc X c tg ex} w o h => ?_, fun o h => (by cases h)⟩
    cases tg with
    | Tuple ts tk tp => cases ex with
      | Call fn es kws p => cases fn with
        | Name x pn => cases es with
          | nil => cases h
          | cons y r => cases r with
            | cons _ _ => cases h
            | nil => cases kws with
              | cons _ _ => cases h
              | nil =>
                obtain ⟨h, h4⟩ := and2 h
                obtain ⟨h, h3⟩ := and2 h
                obtain ⟨h1, h2⟩ := and2 h
                have e1 := of_decide_eq_true h1
                subst e1
                exact ⟨rule_enum o h2 (bang h3) (pem_w (iha.E o h4).1 w), rfl, rfl⟩
        | _ => cases h
      | _ => cases h
    | _ => cases h
  | rev a iha =>
    refine ⟨fun o h => (by cases h), fun o h => (by cases h), fun {cc X c tg ex} w o h => ?_, fun o h => (by cases h)⟩
    cases ex with
    | Call fn es kws p => cases fn with
      | Name x pn => cases es with
        | nil => cases h
        | cons y r => cases r with
          | cons _ _ => cases h
          | nil => cases kws with
            | cons _ _ => cases h
            | nil =>
              obtain ⟨h, h4⟩ := and2 h
              obtain ⟨h, h3⟩ := and2 h
              obtain ⟨h1, h2⟩ := and2 h
              have e1 := of_decide_eq_true h1
              subst e1
              exact ⟨rule_rev o h2 (bang h3) (pem_w (iha.E o h4).1 w), rfl, rfl⟩
      | _ => cases h
    | _ => cases h
  | _ => exact ⟨fun o h => (by cases h), fun o h => (by cases h), fun w o h => (by cases h), fun o h => (by cases h)⟩
end VE
namespace VE
open PySem PySem.Spec PyProof.Rows L2
def whStep (c : Ev → R Bool) (b : Ev → Out) (e : Ev) : Sum Ev Out := match c e with
  | .ok true => (match b e with
    | .nx e1 => .inl e1
    | .ct e1 => .inl e1
    | .bk e1 => .inr (.nx e1)
    | o => .inr o)
  | .ok false => .inr (.nx e)
  | .exc k => .inr (.exc k e)
  | .bad => .inr .bad
def whN (st : Ev → Sum Ev Out) : Nat → Ev → Option Out
  | 0, _ => none
  | n + 1, e => match st e with
    | .inl e1 => whN st n e1
    | .inr o => some o
open Classical in
noncomputable def whl (st : Ev → Sum Ev Out) (e : Ev) : Out := if h : ∃ n o, whN st n e = some o then (choose (choose_spec h)) else .bad
theorem whN_mono {st : Ev → Sum Ev Out} : ∀ {n m : Nat} {e : Ev} {o : Out}, whN st n e = some o → n ≤ m → whN st m e = some o
  | 0, _, _, _, h, _ => by cases h
  | n + 1, 0, _, _, _, l => by omega
  | n + 1, m + 1, e, o, h, l => by
    unfold whN at h ⊢
    cases z : st e with
    | inl e1 => rw [z] at h; exact whN_mono h (by omega)
    | inr o1 => rw [z] at h; exact h
theorem whN_det {st : Ev → Sum Ev Out} {n m : Nat} {e : Ev} {o o' : Out} (h : whN st n e = some o) (h' : whN st m e = some o') : o = o' := by
  have h1 := whN_mono h (Nat.le_max_left n m)
  have h2 := whN_mono h' (Nat.le_max_right n m)
  rw [h1] at h2
  exact Option.some.inj h2
theorem whl_of {st : Ev → Sum Ev Out} {n : Nat} {e : Ev} {o : Out} (h : whN st n e = some o) : whl st e = o := by
  unfold whl
  have hh : ∃ n o, whN st n e = some o := ⟨n, o, h⟩
  rw [dif_pos hh]
  exact whN_det (Classical.choose_spec (Classical.choose_spec hh)) h
theorem whl_no {st : Ev → Sum Ev Out} {e : Ev} (h : ∀ n, whN st n e = none) : whl st e = .bad := by
  unfold whl
  rw [dif_neg]
  rintro ⟨n, o, q⟩
  rw [h n] at q
  cases q
theorem whl_some {st : Ev → Sum Ev Out} {e : Ev} (h : whl st e ≠ .bad) : ∃ n, whN st n e = some (whl st e) := by
  by_cases hh : ∃ n o, whN st n e = some o
  · obtain ⟨n, o, q⟩ := hh
    exact ⟨n, by rw [whl_of q]; exact q⟩
  · refine absurd (whl_no fun n => ?_) h
    cases z : whN st n e with
    | none => rfl
    | some o => exact absurd ⟨n, o, z⟩ hh
theorem whl_eq (st : Ev → Sum Ev Out) (e : Ev) : whl st e = match st e with
    | .inl e1 => whl st e1
    | .inr o => o := by
  cases z : st e with
  | inr o => exact whl_of (n := 1) (by unfold whN; rw [z])
  | inl e1 =>
    show whl st e = whl st e1
    by_cases hh : whl st e1 = .bad
    · by_cases q : ∃ n o, whN st n e1 = some o
      · obtain ⟨n, o, q⟩ := q
        rw [whl_of q]
        exact whl_of (n := n + 1) (by unfold whN; rw [z]; exact q)
      · rw [hh]
        refine whl_no fun n => ?_
        cases n with
        | zero => rfl
        | succ n =>
          unfold whN
          rw [z]
          cases y : whN st n e1 with
          | none => exact y
          | some o => exact absurd ⟨n, o, y⟩ q
    · obtain ⟨n, q⟩ := whl_some hh
      exact whl_of (n := n + 1) (by unfold whN; rw [z]; exact q)
def forL (b : D → Ev → Out) : List D → Ev → Out
  | [], e => .nx e
  | d :: r, e => match b d e with
    | .nx e1 => forL b r e1
    | .ct e1 => forL b r e1
    | .bk e1 => .nx e1
    | o => o
def outR {a : Type} (r : R a) (e : Ev) (k : a → Out) : Out := match r with
  | .ok x => k x
  | .exc c => .exc c e
  | .bad => .bad
def borK (k : List Nat) : Bool := k.headD 0 == 1000
def bor (k : List Nat) (e : Ev) : Ev := if borK k then e else clrE k e
noncomputable def evF (cl : Pr) : T → Ev → R D
  | .v i, e => (match e[i]? with
    | some (.val d o) => if o || !ownable d then .ok d else .bad
    | _ => .bad)
  | a, e => evX cl false a e
def noexS : Sl → Sl
  | .exn _ => .emp
  | s => s
def noex (e : Ev) : Ev := e.map noexS
def wipN (nm : Option Nat) (e : Ev) : Ev := match nm with
  | some i => (noex e).set i .emp
  | none => noex e
def unb (nm : Option Nat) : Out → Out
  | .nx e => .nx (wipN nm e)
  | .rt d e => .rt d (noex e)
  | .bk e => .bk (wipN nm e)
  | .ct e => .ct (wipN nm e)
  | .exc _ _ => .bad
  | .bad => .bad
def dAug : Operator → D → D → R D
  | .Add, .int i, .int j => .ok (.int (i + j))
  | .Sub, .int i, .int j => .ok (.int (i - j))
  | _, _, _ => .bad
def isExt : Bm → Bool
  | .lextend => true
  | _ => false
def ownL (e : Ev) (i : Nat) : R (List D) := match e[i]? with
  | some (.val (.lst ds) true) => .ok ds
  | _ => .bad
def shV (e : Ev) (i : Nat) : R D := match e[i]? with
  | some (.val d false) => .ok d
  | _ => .bad
def tupOf : D → R (List D)
  | .tup ds => .ok ds
  | _ => .bad
def ownO (e : Ev) (i : Nat) : R D := match e[i]? with
  | some (.val (.obj c fs ds) true) => .ok (.obj c fs ds)
  | _ => .bad
def putO (fok : Nat → Nat → Bool) (f : Nat) (x : D) : D → R D
  | .obj c fs ds => if fok c f && decide (fs.length < 900) then .ok (.obj c (putFD f x fs ds).1 (putFD f x fs ds).2) else .bad
  | _ => .bad
inductive RM (a : Type) where
  | ok (x : a) (fr : Bool) (e : Ev) | exc (k : Nat) (e : Ev) | bad
def RM.bind {a b : Type} (r : RM a) (k : a → Bool → Ev → RM b) : RM b := match r with
  | .ok x fr e => k x fr e
  | .exc n e => .exc n e
  | .bad => .bad
def R.at {a : Type} (r : R a) (fr : Bool) (e : Ev) : RM a := match r with
  | .ok x => .ok x fr e
  | .exc k => .exc k e
  | .bad => .bad
def mcR (i : Nat) (fr : Bool) (e : Ev) : R D → RM D
  | .ok (.tup [d, s]) => .ok d fr (e.set i (.val s true))
  | .exc k => .exc k (e.set i .emp)
  | _ => .bad
section
variable (cl : Pr)
mutual
noncomputable def evM : T → Ev → RM D
  | .mcall m i as, e => ((ownO e i).at false e).bind fun s0 _ _ => ((objC s0).at false e).bind fun c _ _ => ((rOpt (mmt (cl.mt c m))).at false e).bind fun f _ _ => (evLM as e).bind fun ds _ e1 =>
      ((ownO e1 i).at false e1).bind fun s _ _ => mcR i (cl.frf f) e1 (cl.fn f (s :: ds))
  | .call f as, e => (evLM as e).bind fun ds _ e1 => (cl.fn f ds).at (cl.frf f) e1
  | .bin op a b, e => (evM a e).bind fun x _ e1 => ((evX cl true b e1).bind fun y => dBin op x y).at true e1
  | .tup as, e => (evLM as e).bind fun ds _ e1 => .ok (.tup ds) true e1
  | t, e => (evX cl false t e).at false e
noncomputable def evLM : T → Ev → RM (List D)
  | .nil, e => .ok [] false e
  | .cons a r, e => (evM a e).bind fun x _ e1 => (evLM r e1).bind fun xs _ e2 => .ok (x :: xs) false e2
  | _, _ => .bad
end
end
def outM {a : Type} (r : RM a) (k : a → Bool → Ev → Out) : Out := match r with
  | .ok x fr e => k x fr e
  | .exc n e => .exc n e
  | .bad => .bad
section
variable (cl : Pr)
mutual
noncomputable def exS : T → Ev → Out
  | .pass, e => .nx e
  | .brk, e => .bk e
  | .cnt, e => .ct e
  | .seq a b, e => (match exS a e with
    | .nx e1 => exS b e1
    | o => o)
  | .ret fr k a, e => outR (if fr then evF cl a (clrE k e) else evX cl false a (clrE k e)) (clrE k e) fun d => .rt d (clrE k e)
  | .ex k a, e => outR (evX cl false a (clrE k e)) (clrE k e) fun _ => .nx (clrE k e)
  | .asg i k o a, e => outR (evX cl false a (clrE k e)) (clrE k e) fun d => .nx ((clrE k e).set i (.val d (o && ownable d)))
  | .unp is k a, e => outR ((evX cl false a (clrE k e)).bind fun d => bindT is true d (clrE k e)) (clrE k e) .nx
  | .par is k as, e => outR ((evL cl false as (clrE k e)).bind fun ds => setAll is ds (clrE k e)) (clrE k e) .nx
  | .aug i op k a, e => outR ((shV (clrE k e) i).bind fun x => (evX cl true a (clrE k e)).bind fun y => dAug op x y) (clrE k e) fun d => .nx ((clrE k e).set i (.val d false))
  | .setix i k ix a, e => outR ((evX cl false a (clrE k e)).bind fun d => (ownL (clrE k e) i).bind fun ds => (asInt (evX cl true ix (clrE k e))).bind fun j => (rOpt (ixN ds.length j)).bind fun n => .ok (ds.set n d)) (clrE k e) fun ds => .nx ((clrE k e).set i (.val (.lst ds) true))
  | .mut m i k as, e => outR ((ownL (clrE k e) i).bind fun ds => (evL cl (isExt m) as (clrE k e)).bind fun xs => dMut m ds xs) (clrE k e) fun p => .nx ((clrE k e).set i (.val (.lst p.2) true))
  | .iff k c a b, e => outR (tst (evX cl true c (clrE k e))) (clrE k e) fun t => if t then exS a (bor k e) else exS b (bor k e)
  | .whl k c b, e => whl (whStep (fun e1 => tst (evX cl true c e1)) (fun e1 => exS b e1)) (clrE k e)
  | .for_ k tg tup it b, e => outR (evI cl false it (clrE k e)) (clrE k e) fun ds => forL (fun d e1 => outR (bindT tg tup d e1) e1 fun e2 => exS b e2) ds (clrE k e)
  | .sfld i f k a, e => outR ((evX cl false a (clrE k e)).bind fun d => (ownO (clrE k e) i).bind fun s => putO cl.fok f d s) (clrE k e) fun s => .nx ((clrE k e).set i (.val s true))
  | .afld i f op k a, e => outR ((ownO (clrE k e) i).bind fun s => (dFld cl.fok f s).bind fun x => (evX cl true a (clrE k e)).bind fun y => (dAug op x y).bind fun z => putO cl.fok f z s) (clrE k e) fun s => .nx ((clrE k e).set i (.val s true))
  | .exM k a, e => outM (evM cl a (clrE k e)) fun _ _ e1 => .nx e1
  | .retM k a, e => outM (evM cl a (clrE k e)) fun d f2 e1 => if borK k && !f2 && ownable d then .bad else .rt d e1
  | .asgM i k ow a, e => outM (evM cl a (clrE k e)) fun d fr e1 => .nx (e1.set i (.val d (ow && fr && ownable d)))
  | .forM k tg tup a b, e => outM (evM cl a (clrE k e)) fun d _ e1 => outR (tupOf d) e1 fun ds => forL (fun d e1 => outR (bindT tg tup d e1) e1 fun e2 => exS b e2) ds e1
  | .rse c, e => .exc c e
  | .try_ b hs, e => (match exS b e with
    | .exc k e1 => if cl.isx k then exH k hs e1 else .bad
    | o => o)
  | _, _ => .bad
noncomputable def exH (k : Nat) : T → Ev → Out
  | .hcons cs nm s r, e => if cs.any (cl.su k) then unb nm (exS s (match nm with
      | some i => e.set i (.exn k)
      | none => e)) else exH k r e
  | .nil, e => .exc k e
  | _, _ => .bad
end
end
def swB (sc : Scope) (x : Str) (px : Pos) : Expr → Bool
  | .ListComp _ _ scope p => (sc.names.lookup x == some .local) && (px.line == p.line) && !(scope.names.any fun (n, k) => n == x && (k == .local || k == .cell))
  | _ => false
def noComp : Expr → Bool
  | .ListComp _ _ _ _ => false
  | .SetComp _ _ _ _ => false
  | .DictComp _ _ _ _ _ => false
  | _ => true
def notTup : Expr → Bool
  | .Tuple _ _ _ => false
  | _ => true
def swst (sc : Scope) (ts vs : List Expr) : Option (Option (List Str)) :=
  if !(ts.length == 2 || ts.length == 3) || vs.length != ts.length then some none else
  if vs.any (fun | .Starred .. => true | _ => false) then some none else
  let line := (ts.head?.map (·.pos.line)).getD 0
  let names := ts.filterMap fun
    | .Name id pos => if sc.names.lookup id == some .local && pos.line == line then some id else none
    | _ => none
  if names.length != ts.length || names.eraseDups.length != names.length then some none else
  if vs.all (foldedForSure 8) then some none else
  if vs.all (constantsAlone 8) then none else some (some names)
def excM (cc : CC) (k : Nat) : Expr → Bool
  | .Call (.Name x _) [.Constant (.str _) _ _] [] _ => decide (k ∈ cc.G.exs) && decide (cc.G.tb.cls[k]? = some x) && glB cc.sc x && !dbg x
  | _ => false
def isPassT : T → Bool
  | .pass => true
  | _ => false
def noNm : T → Bool
  | .hcons _ none _ _ => true
  | _ => false
def excN (cc : CC) (t : Nat) : Option Expr → Bool
  | some (.Name z _) => decide (t ∈ cc.G.exs) && decide (cc.G.tb.cls[t]? = some z) && glB cc.sc z && !dbg z
  | _ => false
def isV0 : T → Bool
  | .v 0 => true
  | _ => false
def isTupE : Expr → Bool
  | .Tuple _ _ _ => true
  | _ => false
mutual
def mEM (cc : CC) : T → Expr → Bool
  | .mcall m i as, ex => (match ex with
    | .Call (.Attribute (.Name x _) nm ap) es [] p => !cc.hot && decide (cc.G.tb.mth[m]? = some nm) && decide (cc.N[i]? = some x) && visB cc.sc x && !dbg x && (ap.endLine == p.line) && few es && mLM cc as es
    | _ => false)
  | .call f as, ex => (match ex with
    | .Call (.Name x _) es [] _ => !cc.hot && glB cc.sc x && !dbg x && (match cc.G.fns[f]? with
      | some F => F.glob && decide (x = F.nm) && decide (F.lo ≤ es.length) && decide (es.length ≤ F.hi)
      | none => false) && mLM cc as es
    | _ => false)
  | .bin op a b, ex => (match ex with
    | .BinOp x op' y _ => !cc.hot && decide (op = op') && mEM cc a x && mE cc b y
    | _ => false)
  | .tup as, ex => (match ex with
    | .Tuple es _ _ => decide (es.length < 1000) && mLM cc as es
    | _ => false)
  | t, ex => mE cc t ex
def mLM (cc : CC) : T → List Expr → Bool
  | .nil, es => (match es with
    | [] => true
    | _ => false)
  | .cons a r, es => (match es with
    | e :: es => !isStar e && mEM cc a e && mLM cc r es
    | _ => false)
  | _, _ => false
end
mutual
def mP (cc : CC) : T → Stmt → Bool
  | .pass, st => (match st with
    | .Pass _ => true
    | .Expr (.Constant (.str _) _ _) _ => true
    | _ => false)
  | .brk, st => (match st with
    | .Break _ => true
    | _ => false)
  | .cnt, st => (match st with
    | .Continue _ => true
    | _ => false)
  | .ret fr _ a, st => (match st with
    | .Return (some ex) _ => decide (fr = cc.fr) && (!fr || !cc.me || !isV0 a) && (!fr || frT cc.G a || isV a) && mE cc a ex
    | _ => false)
  | .ex _ a, st => (match st with
    | .Expr ex _ => noComp ex && mE cc a ex
    | _ => false)
  | .asg i _ o a, st => (match st with
    | .Assign [.Name x px] ex _ => decide (cc.N[i]? = some x) && stoB true cc.sc x && (!o || (frT cc.G a && (!cc.me || decide (i ≠ 0)))) && mE cc a ex
    | _ => false)
  | .sfld i f _ a, st => (match st with
    | .Assign [.Attribute (.Name x _) nm _] ex _ => !cc.hot && noComp ex && decide (cc.G.tb.fld[f]? = some nm) && decide (cc.N[i]? = some x) && visB cc.sc x && !dbg x && mE cc a ex
    | _ => false)
  | .afld i f op _ a, st => (match st with
    | .AugAssign (.Attribute (.Name x _) nm _) op' ex _ => !cc.hot && decide (op = op') && decide (op = .Add) && decide (cc.G.tb.fld[f]? = some nm) && decide (cc.N[i]? = some x) && visB cc.sc x && !dbg x && mE cc a ex
    | _ => false)
  | .exM _ a, st => (match st with
    | .Expr ex _ => noComp ex && mEM cc a ex
    | _ => false)
  | .retM k a, st => (match st with
    | .Return (some ex) _ => (!cc.fr || (borK k && !cc.me)) && mEM cc a ex
    | _ => false)
  | .asgM i _ o a, st => (match st with
    | .Assign [.Name x px] ex _ => decide (cc.N[i]? = some x) && stoB true cc.sc x && noComp ex && (!o || !cc.me || decide (i ≠ 0)) && mEM cc a ex
    | _ => false)
  | .forM _ tg tup a b, st => (match st with
    | .For te ex x [] _ => !cc.hot && mTg true cc.N cc.sc tg tup te && isTupE ex && mEM cc a ex && mS cc b x
    | _ => false)
  | .unp is _ a, st => (match st with
    | .Assign [tg] ex _ => !cc.hot && notTup ex && noComp ex && mTg true cc.N cc.sc is true tg && mE cc a ex
    | _ => false)
  | .par is _ as, st => (match st with
    | .Assign [.Tuple ts k p] (.Tuple vs _ _) _ => !cc.hot && mNms true cc.N cc.sc is ts && decide (is.Nodup) && decide (vs.length = is.length) && decide (vs.length < 1000) && mL cc as vs && (match swst cc.sc ts vs with
      | some _ => true
      | none => false)
    | _ => false)
  | .aug i op _ a, st => (match st with
    | .AugAssign (.Name x _) op' ex _ => decide (op = op') && (decide (op = .Add) || decide (op = .Sub)) && decide (cc.N[i]? = some x) && stoB true cc.sc x && mE cc a ex
    | _ => false)
  | .setix i _ ix a, st => (match st with
    | .Assign [.Subscript (.Name x px) ie _] ex _ => noComp ex && !isSlice ie && !isStar ie && decide (cc.N[i]? = some x) && visB cc.sc x && !dbg x && mE cc ix ie && mE cc a ex
    | _ => false)
  | .mut m i _ as, st => (match st with
    | .Expr (.Call (.Attribute (.Name x _) nm ap) es [] p) _ => (match m with
      | .lappend => decide (nm = "append")
      | .lextend => decide (nm = "extend")
      | .linsert => decide (nm = "insert")
      | .lpop => decide (nm = "pop")
      | _ => false) && (ap.endLine == p.line) && few es && !es.isEmpty && decide (cc.N[i]? = some x) && visB cc.sc x && !dbg x && mL cc as es
    | _ => false)
  | .iff _ c a b, st => (match st with
    | .If ex x y _ => mE cc c ex && mS cc a x && mS cc b y
    | _ => false)
  | .whl _ c b, st => (match st with
    | .While ex x [] _ => mE cc c ex && mS cc b x
    | _ => false)
  | .for_ _ tg tup it b, st => (match st with
    | .For te ex x [] _ => !cc.hot && mTg true cc.N cc.sc tg tup te && mI cc it te ex && mS cc b x
    | _ => false)
  | .rse k, st => (match st with
    | .Raise (some ex) none _ => !cc.hot && excM cc k ex
    | _ => false)
  | .try_ b hs, st => (match st with
    | .Try x hds [] [] _ => !cc.hot && mS cc b x && mH cc hs hds
    | _ => false)
  | _, _ => false
def mS (cc : CC) : T → List Stmt → Bool
  | .pass, sts => (match sts with
    | [] => true
    | _ => false)
  | .seq a b, sts => (match sts with
    | s :: r => mP cc a s && mS cc b r
    | [] => false)
  | _, _ => false
def mH (cc : CC) : T → List ExceptHandler → Bool
  | .hcons cs nm s r, hds => (match hds with
    | .ExceptHandler ty n (b0 :: su) _ :: hds => (match cs with
        | [t] => excN cc t ty
        | _ => false) && mS { cc with hot := true } s (b0 :: su) && (match nm, n with
        | none, none => isNilT r || (mH cc r hds && noNm r)
        | some i, some x => isNilT r && decide (cc.N[i]? = some x) && locB cc.sc x
        | _, _ => false) && (isNilT r == hds.isEmpty)
    | _ => false)
  | _, _ => false
end
end VE
namespace VE
open PySem PySem.Spec PyProof.Rows L2
section
variable {c : Fx} {H H1 : Hp} {σ σ1 : L2.St} {e e1 : Ev}
def Fx.plus (c : Fx) (p : Addr) : Fx := { c with Xs := fun a => c.Xs a ∨ a = p }
theorem EnvOk.plus {p : Addr} (he : EnvOk c H σ e) (s : Same H H1) (n : H p = none) (n1 : H1 p ≠ none) : EnvOk (c.plus p) H1 σ e := by
  have he1 := he.same s
  have ev2 : Evo (AV c.Xs e σ) H (AV (c.plus p).Xs e σ) H1 := ⟨fun b o h _ => s b o h, fun b z => by
    rcases z with (z | z) | z
    · exact .inl (.inl z)
    · exact .inr (by rw [z]; exact n)
    · exact .inl (.inr z)⟩
  refine ⟨he1.len, fun j d' q => ?_, fun j d' q => ?_, he1.inj, fun b z => ?_, he1.exn, he1.slf⟩
  · obtain ⟨w, w1, w2⟩ := he.val j d' q
    exact ⟨w, w1, w2.evo ev2⟩
  · obtain ⟨b, w1, w2, w3⟩ := he.own j d' q
    refine ⟨b, w1, fun z => ?_, w3.evo' ev2 fun o h => s b o h⟩
    rcases z with z | z
    · exact w2 z
    · obtain ⟨o, y⟩ := w3.some
      rw [z, n] at y
      cases y
  · rcases z with z | z
    · exact he1.xs b z
    · rw [z]; exact n1
def RepR (c : Fx) (fr : Bool) (P : Addr → Prop) (H1 : Hp) (σ1 : L2.St) (e1 : Ev) (d : D) (v : V) : Prop :=
  if fr && ownable d then ∃ a, v = .ref a ∧ P a ∧ (∀ b d', c.SA b → e1[0]? = some (Sl.val d' true) → a ≠ b) ∧ (Own e1 σ1 a ∨ EnvOk (c.plus a) H1 σ1 e1) ∧ RepO c.tb c.K H1 (fun b => AV c.Xs e1 σ1 b ∨ b = a) a d else Rep c.tb c.K H1 (AV c.Xs e1 σ1) d v
def PostS (c : Fx) (fr : Bool) (σ : L2.St) (H : Hp) (e : Ev) (o : Out) (D : Ends) : Prop := match o with
  | .nx e1 => ∀ σ1 H1, Evo (Own e σ) H (Own e1 σ1) H1 → EnvOk c H1 σ1 e1 → D.nx σ1 H1
  | .bk e1 => ∀ σ1 H1, Evo (Own e σ) H (Own e1 σ1) H1 → EnvOk c H1 σ1 e1 → D.bk σ1 H1
  | .ct e1 => ∀ σ1 H1, Evo (Own e σ) H (Own e1 σ1) H1 → EnvOk c H1 σ1 e1 → D.ct σ1 H1
  | .rt d e1 => ∀ v σ1 H1, Evo (Own e σ) H (Own e1 σ1) H1 → EnvOk c H1 σ1 e1 → RepR c fr (fun a => Own e σ a ∨ H a = none) H1 σ1 e1 d v → D.rt v H1
  | .exc k e1 => ∀ σ1 H1, Evo (Own e σ) H (Own e1 σ1) H1 → EnvOk c H1 σ1 e1 → c.W (.ref (cAd c.tb c.K k)) none σ1 H1
  | .bad => False
def tSx (c : Fx) (fr : Bool) (t : T) : TS := fun D σ H => ∃ e, EnvOk c H σ e ∧ PostS c fr σ H e (exS c.cl t e) D
theorem evo_same {s : Same H H1} (hs : ∀ a, Own e1 σ1 a → Own e σ a) : Evo (Own e σ) H (Own e1 σ1) H1 := ⟨fun b o h _ => s b o h, fun b z => .inl (hs b z)⟩
theorem PostS.trans {fr : Bool} {o : Out} {D : Ends} (ev : Evo (Own e σ) H (Own e1 σ1) H1) (h : PostS c fr σ H e o D) : PostS c fr σ1 H1 e1 o D := by
  have back : ∀ a, Own e1 σ1 a ∨ H1 a = none → Own e σ a ∨ H a = none := fun a z => by
    rcases z with z | z
    · exact ev.old a z
    · cases q : H a with
      | none => exact .inr rfl
      | some u => exact .inl (Classical.byContradiction fun n => by rw [ev.keep a u q n] at z; cases z)
  cases o with
  | nx e2 => exact fun σ2 H2 ev2 he => h σ2 H2 (ev.trans ev2) he
  | bk e2 => exact fun σ2 H2 ev2 he => h σ2 H2 (ev.trans ev2) he
  | ct e2 => exact fun σ2 H2 ev2 he => h σ2 H2 (ev.trans ev2) he
  | exc k e2 => exact fun σ2 H2 ev2 he => h σ2 H2 (ev.trans ev2) he
  | rt d e2 =>
    refine fun v σ2 H2 ev2 he r => h v σ2 H2 (ev.trans ev2) he ?_
    unfold RepR at r ⊢
    split
    · rename_i z
      rw [if_pos z] at r
      obtain ⟨a, q1, q2, q3⟩ := r
      exact ⟨a, q1, back a q2, q3⟩
    · rename_i z
      rw [if_neg z] at r
      exact r
  | bad => exact h
theorem clrE_cons (i : Nat) (r : List Nat) (e : Ev) : clrE (i :: r) e = (match (clrE r e)[i]? with
    | some (.val d true) => (clrE r e).set i (.val d false)
    | _ => clrE r e) := rfl
theorem EnvOk.clr (he : EnvOk c H σ e) : ∀ (k : List Nat), EnvOk c H σ (clrE k e) ∧ ∀ a, Own (clrE k e) σ a → Own e σ a
  | [] => ⟨he, fun _ z => z⟩
  | i :: r => by
    obtain ⟨h1, h2⟩ := EnvOk.clr he r
    rw [clrE_cons]
    cases z : (clrE r e)[i]? with
    | none => exact ⟨h1, h2⟩
    | some s => cases s with
      | emp => exact ⟨h1, h2⟩
      | exn k => exact ⟨h1, h2⟩
      | val d o => cases o with
        | false => exact ⟨h1, h2⟩
        | true =>
          obtain ⟨a, q1, q2, q3⟩ := h1.own i d z
          have es : σ.set i (some (.ref a)) = σ := by
            apply List.ext_getElem?
            intro j
            by_cases hj : i = j
            · subst hj
              rw [List.getElem?_set_self (get_lt q1), q1]
            · rw [List.getElem?_set_ne hj]
          have sub : ∀ b, Own ((clrE r e).set i (.val d false)) σ b → Own (clrE r e) σ b ∧ b ≠ a := fun b ⟨j, d', r1, r2⟩ => by
            rcases set_get r1 with ⟨_, y⟩ | ⟨n, y⟩
            · cases y
            · refine ⟨⟨j, d', y, r2⟩, fun y2 => ?_⟩
              subst y2
              exact n (h1.inj j i d' d b y z r2 q1)
          have rep : Rep c.tb c.K H (AV c.Xs ((clrE r e).set i (.val d false)) σ) d (.ref a) := by
            refine RepO.rep (RepO.evo' (Evo.less fun b y => ?_) q3 fun _ y => y) fun y => ?_
            · exact y.imp id fun y => (sub b y).1
            · rcases y with y | y
              · exact q2 y
              · exact (sub a y).2 rfl
          show EnvOk c H σ ((clrE r e).set i (.val d false)) ∧ ∀ a, Own ((clrE r e).set i (.val d false)) σ a → Own e σ a
          refine ⟨⟨by rw [List.length_set]; exact h1.len, fun j d' y => ?_, fun j d' y => ?_, fun j k d1 d2 b y1 y2 => ?_, h1.xs, fun j k y => ?_, fun b d' sa y => ?_⟩, fun b y => h2 b (sub b y).1⟩
          · rcases set_get y with ⟨ej, y'⟩ | ⟨n, y'⟩
            · cases y'
              subst ej
              exact ⟨.ref a, q1, rep⟩
            · obtain ⟨v, r1, r2⟩ := h1.val j d' y'
              exact ⟨v, r1, r2.evo (Evo.less fun b y => y.imp id fun y => (sub b y).1)⟩
          · rcases set_get y with ⟨ej, y'⟩ | ⟨n, y'⟩
            · cases y'
            · obtain ⟨b, r1, r2, r3⟩ := h1.own j d' y'
              exact ⟨b, r1, r2, r3.evo' (Evo.less fun b y => y.imp id fun y => (sub b y).1) fun _ y => y⟩
          · rcases set_get y1 with ⟨_, y1⟩ | ⟨_, y1⟩
            · cases y1
            · rcases set_get y2 with ⟨_, y2⟩ | ⟨_, y2⟩
              · cases y2
              · exact h1.inj j k d1 d2 b y1 y2
          · rcases set_get y with ⟨_, y⟩ | ⟨n, y⟩
            · cases y
            · exact h1.exn j k y
          · rcases set_get y with ⟨_, y⟩ | ⟨n, y⟩
            · cases y
            · exact h1.slf b d' sa y
theorem EnvOk.own1 (he : EnvOk c H σ e) (s : Same H H1) {i : Nat} {a : Addr} {d : D} (hz : (∀ a, ¬ c.SA a) ∨ i ≠ 0) (n : H a = none) (r : RepO c.tb c.K H1 (fun b => AV c.Xs e σ b ∨ b = a) a d) :
    EnvOk c H1 (σ.set i (some (.ref a))) (e.set i (.val d true)) ∧ ∀ b, Own (e.set i (.val d true)) (σ.set i (some (.ref a))) b → Own e σ b ∨ b = a := by
  have sub : ∀ b, Own (e.set i (.val d true)) (σ.set i (some (.ref a))) b → Own e σ b ∨ b = a := fun b ⟨j, d', r1, r2⟩ => by
    rcases set_get r1 with ⟨ej, _⟩ | ⟨nj, y⟩
    · rcases set_get r2 with ⟨_, y2⟩ | ⟨nj, _⟩
      · cases y2; exact .inr rfl
      · exact absurd ej nj
    · rcases set_get r2 with ⟨ej, _⟩ | ⟨_, y2⟩
      · exact absurd ej nj
      · exact .inl ⟨j, d', y, y2⟩
  have ev : Evo (AV c.Xs e σ) H (AV c.Xs (e.set i (.val d true)) (σ.set i (some (.ref a)))) H1 := ⟨fun b o h _ => s b o h, fun b z => by
    rcases z with z | z
    · exact .inl (.inl z)
    · rcases sub b z with z | z
      · exact .inl (.inr z)
      · exact .inr (by rw [z]; exact n)⟩
  have lt : ∀ {j : Nat} {s' : Sl}, (e.set i s')[j]? = some s' → j = i → i < σ.length := fun {j s'} h ej => by
    have := get_lt h
    rw [List.length_set] at this
    rw [he.len, ← ej]; exact this
  refine ⟨⟨by rw [List.length_set, List.length_set]; exact he.len, fun j d' y => ?_, fun j d' y => ?_, fun j k d1 d2 b y1 y2 z1 z2 => ?_, fun b z => ?_, fun j k y => ?_, fun b d' sa y => ?_⟩, sub⟩
  · rcases set_get y with ⟨_, y⟩ | ⟨nj, y⟩
    · cases y
    · obtain ⟨v, r1, r2⟩ := he.val j d' y
      exact ⟨v, by rw [List.getElem?_set_ne (Ne.symm nj)]; exact r1, r2.evo ev⟩
  · rcases set_get y with ⟨ej, y'⟩ | ⟨nj, y'⟩
    · cases y'
      subst ej
      refine ⟨a, by rw [List.getElem?_set_self (lt y rfl)], fun z => he.xs a z n, RepO.evo' (Evo.less fun b z => ?_) r fun _ z => z⟩
      rcases z with z | z
      · exact .inl (.inl z)
      · rcases sub b z with z | z
        · exact .inl (.inr z)
        · exact .inr z
    · obtain ⟨b, r1, r2, r3⟩ := he.own j d' y'
      exact ⟨b, by rw [List.getElem?_set_ne (Ne.symm nj)]; exact r1, r2, r3.evo' ev fun o => s b o⟩
  · have key : ∀ {j : Nat} {d' : D}, e[j]? = some (.val d' true) → σ[j]? = some (some (.ref a)) → False := fun {j d'} h1 h2 => he.av a (.inr ⟨j, d', h1, h2⟩) n
    rcases set_get y1 with ⟨e1, _⟩ | ⟨n1, w1⟩
    · rcases set_get y2 with ⟨e2, _⟩ | ⟨n2, w2⟩
      · rw [e1, e2]
      · rw [List.getElem?_set_ne (Ne.symm n2)] at z2
        rcases set_get z1 with ⟨_, z1⟩ | ⟨n1, _⟩
        · cases z1; exact (key w2 z2).elim
        · exact absurd e1 n1
    · rw [List.getElem?_set_ne (Ne.symm n1)] at z1
      rcases set_get y2 with ⟨e2, _⟩ | ⟨n2, w2⟩
      · rcases set_get z2 with ⟨_, z2⟩ | ⟨n2, _⟩
        · cases z2; exact (key w1 z1).elim
        · exact absurd e2 n2
      · rw [List.getElem?_set_ne (Ne.symm n2)] at z2
        exact he.inj j k d1 d2 b w1 w2 z1 z2
  · cases q : H b with
    | none => exact absurd q (he.xs b z)
    | some o => rw [s b o q]; exact fun h => nomatch h
  · rcases set_get y with ⟨_, y⟩ | ⟨nj, y⟩
    · cases y
    · obtain ⟨b, r1, r2⟩ := he.exn j k y
      exact ⟨b, by rw [List.getElem?_set_ne (Ne.symm nj)]; exact r1, r2⟩
  · rcases hz with hz | hz
    · exact (hz b sa).elim
    · rcases set_get y with ⟨z, _⟩ | ⟨nj, y⟩
      · exact absurd z.symm hz
      · rw [List.getElem?_set_ne hz]
        exact he.slf b d' sa y
theorem EnvOk.mutL (he : EnvOk c H σ e) {i : Nat} {a : Addr} {ds ds' : List D} {vs' : List V} (hi : e[i]? = some (.val (.lst ds) true)) (ha : σ[i]? = some (some (.ref a))) (r : RepL c.tb c.K H (AV c.Xs e σ) ds' vs') :
    EnvOk c (upd H a (.lst vs')) σ (e.set i (.val (.lst ds') true)) ∧ Evo (Own e σ) H (Own (e.set i (.val (.lst ds') true)) σ) (upd H a (.lst vs')) := by
  have oa : Own e σ a := ⟨i, _, hi, ha⟩
  have lt := get_lt hi
  have same : ∀ b, Own (e.set i (.val (.lst ds') true)) σ b → Own e σ b := fun b ⟨j, d', r1, r2⟩ => by
    rcases set_get r1 with ⟨ej, _⟩ | ⟨nj, y⟩
    · subst ej; exact ⟨j, _, hi, r2⟩
    · exact ⟨j, d', y, r2⟩
  have ev : Evo (AV c.Xs e σ) H (AV c.Xs (e.set i (.val (.lst ds') true)) σ) (upd H a (.lst vs')) := ⟨fun b o h nb => by
    rw [upd_ne (fun z => nb (by rw [z]; exact .inr oa))]; exact h, fun b z => .inl (z.imp id (same b))⟩
  obtain ⟨a', q1, q2, q3⟩ := he.own i _ hi
  rw [ha] at q1
  cases q1
  refine ⟨⟨by rw [List.length_set]; exact he.len, fun j d' y => ?_, fun j d' y => ?_, fun j k d1 d2 b y1 y2 z1 z2 => ?_, fun b z => ?_, fun j k y => ?_, fun b d' sa y => ?_⟩, ⟨fun b o h nb => by
    rw [upd_ne (fun z => nb (by rw [z]; exact oa))]; exact h, fun b z => .inl (same b z)⟩⟩
  · rcases set_get y with ⟨_, y⟩ | ⟨nj, y⟩
    · cases y
    · obtain ⟨v, r1, r2⟩ := he.val j d' y
      exact ⟨v, r1, r2.evo ev⟩
  · rcases set_get y with ⟨ej, y'⟩ | ⟨nj, y'⟩
    · cases y'
      subst ej
      exact ⟨a, ha, q2, vs', upd_same, r.evo ev⟩
    · obtain ⟨b, r1, r2, r3⟩ := he.own j d' y'
      have nb : b ≠ a := fun z => nj (he.inj j i d' _ b y' hi r1 (by rw [z]; exact ha))
      exact ⟨b, r1, r2, r3.evo' ev fun o h => by rw [upd_ne nb]; exact h⟩
  · have back : ∀ {j : Nat} {d' : D}, (e.set i (.val (.lst ds') true))[j]? = some (.val d' true) → ∃ d'', e[j]? = some (.val d'' true) := fun {j d'} y => by
      rcases set_get y with ⟨ej, _⟩ | ⟨_, y⟩
      · subst ej; exact ⟨_, hi⟩
      · exact ⟨_, y⟩
    obtain ⟨_, w1⟩ := back y1
    obtain ⟨_, w2⟩ := back y2
    exact he.inj j k _ _ b w1 w2 z1 z2
  · have nb : b ≠ a := fun z' => q2 (z' ▸ z)
    rw [upd_ne nb]
    exact he.xs b z
  · rcases set_get y with ⟨_, y⟩ | ⟨nj, y⟩
    · cases y
    · exact he.exn j k y
  · rcases set_get y with ⟨z, _⟩ | ⟨nj, y⟩
    · exact he.slf b _ sa (by rw [z]; exact hi)
    · exact he.slf b d' sa y
variable {fr : Bool} {D : Ends} {k : List Nat}
theorem outR_post {r : R VE.D} {kk : VE.D → Out} (h : PostS c fr σ H e (outR r e1 kk) D) (he : EnvOk c H σ e1) (hs : ∀ a, Own e1 σ a → Own e σ a) {m : Md} {Q : VK}
    (q : ∀ d v H1, r = .ok d → Same H H1 → RepM c.tb c.K m H H1 (AV c.Xs e1 σ) d v → PostS c fr σ H e (kk d) D → Q v H1) : Post c m σ H e1 r Q := by
  cases r with
  | ok d => exact fun v H1 s r => q d v H1 rfl s r h
  | exc n => exact fun H1 s => h σ H1 ⟨fun b o z _ => s b o z, fun b z => .inl (hs b z)⟩ (he.same s)
  | bad => exact h
theorem outR_postT {r : R Bool} {kk : Bool → Out} (h : PostS c fr σ H e (outR r e1 kk) D) (he : EnvOk c H σ e1) (hs : ∀ a, Own e1 σ a → Own e σ a) {Q : Bool → Hp → Prop}
    (q : ∀ d H1, r = .ok d → Same H H1 → PostS c fr σ H e (kk d) D → Q d H1) : PostT c σ H r Q := by
  cases r with
  | ok d => exact fun H1 s => q d H1 rfl s h
  | exc n => exact fun H1 s => h σ H1 ⟨fun b o z _ => s b o z, fun b z => .inl (hs b z)⟩ (he.same s)
  | bad => exact h
theorem outR_postL {r : R (List VE.D)} {kk : List VE.D → Out} (h : PostS c fr σ H e (outR r e1 kk) D) (he : EnvOk c H σ e1) (hs : ∀ a, Own e1 σ a → Own e σ a) {m : Md} {Q : List V → Hp → Prop}
    (q : ∀ ds vs H1, r = .ok ds → Same H H1 → RepLM c.tb c.K m H1 (AV c.Xs e1 σ) ds vs → PostS c fr σ H e (kk ds) D → Q vs H1) : PostL c m σ H e1 r Q := by
  cases r with
  | ok d => exact fun v H1 s r => q d v H1 rfl s r h
  | exc n => exact fun H1 s => h σ H1 ⟨fun b o z _ => s b o z, fun b z => .inl (hs b z)⟩ (he.same s)
  | bad => exact h
theorem outR_postI {r : R (List VE.D)} {kk : List VE.D → Out} {w : Bool} (h : PostS c fr σ H e (outR r e1 kk) D) (he : EnvOk c H σ e1) (hs : ∀ a, Own e1 σ a → Own e σ a) {Q : It → Hp → Prop}
    (q : ∀ ds J H1, r = .ok ds → Same H H1 → ItOk c.tb c.K w (AV c.Xs e1 σ) H1 J ds → PostS c fr σ H e (kk ds) D → Q J H1) : PostI c w σ H e1 r Q := by
  cases r with
  | ok d => exact fun v H1 s r => q d v H1 rfl s r h
  | exc n => exact fun H1 s => h σ H1 ⟨fun b o z _ => s b o z, fun b z => .inl (hs b z)⟩ (he.same s)
  | bad => exact h
theorem outR_bind {a b : Type} (r : R a) (f : a → R b) (e : Ev) (kk : b → Out) : outR (r.bind f) e kk = outR r e fun x => outR (f x) e kk := by cases r <;> rfl
end
end VE
namespace VE
open PySem PySem.Spec PyProof.Rows L2
section
variable {c : Fx} {H H' H1 : Hp} {σ σ1 : L2.St} {e e1 : Ev} {i : Nat} {a p : Addr} {d d0 s : D}
theorem EnvOk.minus (he : EnvOk (c.plus p) H σ e) : EnvOk c H σ e := by
  have ev : Evo (AV (c.plus p).Xs e σ) H (AV c.Xs e σ) H := Evo.less fun b z => z.imp .inl id
  exact ⟨he.len, fun i d q => let ⟨v, h1, h2⟩ := he.val i d q; ⟨v, h1, Rep.evo ev h2⟩, fun i d q => let ⟨a, h1, h2, h3⟩ := he.own i d q; ⟨a, h1, fun z => h2 (.inl z), RepO.evo' ev h3 fun _ z => z⟩, he.inj, fun a z => he.xs a (.inl z), he.exn, he.slf⟩
theorem own_set (hi : e[i]? = some (.val d0 true)) : ∀ b, Own (e.set i (.val s true)) σ b → Own e σ b := fun b ⟨j, d', r1, r2⟩ => by
  rcases set_get r1 with ⟨ej, _⟩ | ⟨nj, y⟩
  · subst ej; exact ⟨j, _, hi, r2⟩
  · exact ⟨j, d', y, r2⟩
theorem own_set' (hi : e[i]? = some (.val d0 true)) : ∀ b, Own e σ b → Own (e.set i (.val s true)) σ b := fun b ⟨j, d', r1, r2⟩ => by
  by_cases hj : i = j
  · subst hj
    exact ⟨i, s, List.getElem?_set_self (get_lt hi), r2⟩
  · exact ⟨j, d', by rw [List.getElem?_set_ne hj]; exact r1, r2⟩
theorem EnvOk.mutX {F : Addr → Prop} (he : EnvOk c H σ e) (hi : e[i]? = some (.val d0 true)) (ha : σ[i]? = some (some (.ref a))) (ev : Evo (fun b => b = a) H (fun b => b = a) H') (hF : ∀ b, F b → H b = none ∧ H' b ≠ none)
    (ro : RepO c.tb c.K H' (fun b => AV c.Xs e σ b ∨ F b) a s) : EnvOk { c with Xs := fun b => c.Xs b ∨ F b } H' σ (e.set i (.val s true)) ∧ Evo (Own e σ) H (Own (e.set i (.val s true)) σ) H' := by
  have oa : Own e σ a := ⟨i, _, hi, ha⟩
  have ev2 : Evo (AV c.Xs e σ) H (AV (fun b => c.Xs b ∨ F b) (e.set i (.val s true)) σ) H' := ⟨fun b o h nb => ev.keep b o h fun z => nb (by rw [z]; exact .inr oa), fun b z => by
    rcases z with (z | z) | z
    · exact .inl (.inl z)
    · exact .inr (hF b z).1
    · exact .inl (.inr (own_set hi b z))⟩
  have pres : ∀ b, H b ≠ none → b ≠ a → H' b ≠ none := fun b hb hn => by
    cases q : H b with
    | none => exact absurd q hb
    | some o => rw [ev.keep b o q hn]; exact fun z => nomatch z
  obtain ⟨a', q1, q2, q3⟩ := he.own i _ hi
  rw [ha] at q1
  cases q1
  refine ⟨⟨by rw [List.length_set]; exact he.len, fun j d' y => ?_, fun j d' y => ?_, fun j k d1 d2 b y1 y2 z1 z2 => ?_, fun b z => ?_, fun j k y => ?_, fun b d' sa y => ?_⟩, ⟨fun b o h nb => ev.keep b o h fun z => nb (by rw [z]; exact oa), fun b z => .inl (own_set hi b z)⟩⟩
  · rcases set_get y with ⟨_, y⟩ | ⟨nj, y⟩
    · cases y
    · obtain ⟨v, r1, r2⟩ := he.val j d' y
      exact ⟨v, r1, r2.evo ev2⟩
  · rcases set_get y with ⟨ej, y'⟩ | ⟨nj, y'⟩
    · cases y'
      subst ej
      refine ⟨a, ha, fun z => ?_, RepO.evo' (Evo.less fun b z => ?_) ro fun _ z => z⟩
      · rcases z with z | z
        · exact q2 z
        · obtain ⟨o, q⟩ := q3.some
          rw [(hF a z).1] at q
          cases q
      · rcases z with (z | z) | z
        · exact .inl (.inl z)
        · exact .inr z
        · exact .inl (.inr (own_set hi b z))
    · obtain ⟨b, r1, r2, r3⟩ := he.own j d' y'
      have nb : b ≠ a := fun z => nj (he.inj j i d' _ b y' hi r1 (by rw [z]; exact ha))
      refine ⟨b, r1, fun z => ?_, r3.evo' ev2 fun o h => ev.keep b o h nb⟩
      rcases z with z | z
      · exact r2 z
      · obtain ⟨o, q⟩ := r3.some
        rw [(hF b z).1] at q
        cases q
  · have back : ∀ {j : Nat} {d' : D}, (e.set i (.val s true))[j]? = some (.val d' true) → ∃ d'', e[j]? = some (.val d'' true) := fun {j d'} y => by
      rcases set_get y with ⟨ej, _⟩ | ⟨_, y⟩
      · subst ej; exact ⟨_, hi⟩
      · exact ⟨_, y⟩
    obtain ⟨_, w1⟩ := back y1
    obtain ⟨_, w2⟩ := back y2
    exact he.inj j k _ _ b w1 w2 z1 z2
  · rcases z with z | z
    · exact pres b (he.xs b z) fun z' => q2 (z' ▸ z)
    · exact (hF b z).2
  · rcases set_get y with ⟨_, y⟩ | ⟨nj, y⟩
    · cases y
    · exact he.exn j k y
  · rcases set_get y with ⟨z, _⟩ | ⟨nj, y⟩
    · exact he.slf b _ sa (by rw [z]; exact hi)
    · exact he.slf b d' sa y
theorem EnvOk.mutO (he : EnvOk c H σ e) (hi : e[i]? = some (.val d0 true)) (ha : σ[i]? = some (some (.ref a))) (ev : Evo (fun b => b = a) H (fun b => b = a) H') (ro : RepO c.tb c.K H' (AV c.Xs e σ) a s) :
    EnvOk c H' σ (e.set i (.val s true)) ∧ Evo (Own e σ) H (Own (e.set i (.val s true)) σ) H' := by
  obtain ⟨h1, h2⟩ := he.mutX (F := fun _ => False) hi ha ev (fun b z => z.elim) (RepO.evo' (Evo.less fun b z => z.elim id False.elim) ro fun _ z => z)
  refine ⟨?_, h2⟩
  have ex : (fun b => c.Xs b ∨ False) = c.Xs := funext fun b => by simp
  rw [ex] at h1
  exact h1
theorem EnvOk.drop (he : EnvOk c H σ e) (hi : e[i]? = some (.val d0 true)) (ha : σ[i]? = some (some (.ref a))) (ev : Evo (fun b => b = a) H (fun b => b = a) H') :
    EnvOk c H' σ (e.set i .emp) ∧ Evo (Own e σ) H (Own (e.set i .emp) σ) H' := by
  have oa : Own e σ a := ⟨i, _, hi, ha⟩
  have sub : ∀ b, Own (e.set i .emp) σ b → Own e σ b ∧ b ≠ a := fun b ⟨j, d', r1, r2⟩ => by
    rcases set_get r1 with ⟨ej, z⟩ | ⟨nj, y⟩
    · cases z
    · exact ⟨⟨j, d', y, r2⟩, fun z => nj (he.inj j i d' _ b y hi r2 (by rw [z]; exact ha))⟩
  have ev2 : Evo (AV c.Xs e σ) H (AV c.Xs (e.set i .emp) σ) H' := ⟨fun b o h nb => ev.keep b o h fun z => nb (by rw [z]; exact .inr oa), fun b z => .inl (z.imp id fun z => (sub b z).1)⟩
  obtain ⟨a', q1, q2, q3⟩ := he.own i _ hi
  rw [ha] at q1
  cases q1
  refine ⟨⟨by rw [List.length_set]; exact he.len, fun j d' y => ?_, fun j d' y => ?_, fun j k d1 d2 b y1 y2 z1 z2 => ?_, fun b z => ?_, fun j k y => ?_, fun b d' sa y => ?_⟩, ⟨fun b o h nb => ev.keep b o h fun z => nb (by rw [z]; exact oa), fun b z => .inl (sub b z).1⟩⟩
  · rcases set_get y with ⟨_, y⟩ | ⟨nj, y⟩
    · cases y
    · obtain ⟨v, r1, r2⟩ := he.val j d' y
      exact ⟨v, r1, r2.evo ev2⟩
  · rcases set_get y with ⟨ej, y'⟩ | ⟨nj, y'⟩
    · cases y'
    · obtain ⟨b, r1, r2, r3⟩ := he.own j d' y'
      have nb : b ≠ a := fun z => nj (he.inj j i d' _ b y' hi r1 (by rw [z]; exact ha))
      exact ⟨b, r1, r2, r3.evo' ev2 fun o h => ev.keep b o h nb⟩
  · rcases set_get y1 with ⟨_, y⟩ | ⟨_, w1⟩
    · cases y
    · rcases set_get y2 with ⟨_, y⟩ | ⟨_, w2⟩
      · cases y
      · exact he.inj j k _ _ b w1 w2 z1 z2
  · have hb := he.xs b z
    cases q : H b with
    | none => exact absurd q hb
    | some o => rw [ev.keep b o q fun z' => q2 (z' ▸ z)]; exact fun z => nomatch z
  · rcases set_get y with ⟨_, y⟩ | ⟨nj, y⟩
    · cases y
    · exact he.exn j k y
  · rcases set_get y with ⟨_, z⟩ | ⟨nj, y⟩
    · cases z
    · exact he.slf b d' sa y
theorem EnvOk.own2 (he : EnvOk (c.plus p) H σ e) (hz : (∀ a, ¬ c.SA a) ∨ i ≠ 0) (r : RepO c.tb c.K H (fun b => AV c.Xs e σ b ∨ b = p) p d) (np : ¬ c.Xs p) :
    EnvOk c H (σ.set i (some (.ref p))) (e.set i (.val d true)) ∧ ∀ b, Own (e.set i (.val d true)) (σ.set i (some (.ref p))) b → Own e σ b ∨ b = p := by
  have sub : ∀ b, Own (e.set i (.val d true)) (σ.set i (some (.ref p))) b → Own e σ b ∨ b = p := fun b ⟨j, d', r1, r2⟩ => by
    rcases set_get r1 with ⟨ej, _⟩ | ⟨nj, y⟩
    · rcases set_get r2 with ⟨_, y2⟩ | ⟨nj, _⟩
      · cases y2; exact .inr rfl
      · exact absurd ej nj
    · rcases set_get r2 with ⟨ej, _⟩ | ⟨_, y2⟩
      · exact absurd ej nj
      · exact .inl ⟨j, d', y, y2⟩
  have ev : Evo (AV (c.plus p).Xs e σ) H (AV c.Xs (e.set i (.val d true)) (σ.set i (some (.ref p)))) H := Evo.less fun b z => by
    rcases z with z | z
    · exact .inl (.inl z)
    · rcases sub b z with z | z
      · exact .inr z
      · exact .inl (.inr z)
  have lt : ∀ {j : Nat} {s' : Sl}, (e.set i s')[j]? = some s' → j = i → i < σ.length := fun {j s'} h ej => by
    have := get_lt h
    rw [List.length_set] at this
    rw [he.len, ← ej]; exact this
  have np2 : ∀ {j : Nat} {d' : D}, e[j]? = some (.val d' true) → σ[j]? = some (some (.ref p)) → False := fun {j d'} h1 h2 => by
    obtain ⟨b, q1, q2, _⟩ := he.own j d' h1
    rw [h2] at q1
    cases q1
    exact q2 (.inr rfl)
  refine ⟨⟨by rw [List.length_set, List.length_set]; exact he.len, fun j d' y => ?_, fun j d' y => ?_, fun j k d1 d2 b y1 y2 z1 z2 => ?_, fun b z => he.xs b (.inl z), fun j k y => ?_, fun b d' sa y => ?_⟩, sub⟩
  · rcases set_get y with ⟨_, y⟩ | ⟨nj, y⟩
    · cases y
    · obtain ⟨v, r1, r2⟩ := he.val j d' y
      exact ⟨v, by rw [List.getElem?_set_ne (Ne.symm nj)]; exact r1, Rep.evo ev r2⟩
  · rcases set_get y with ⟨ej, y'⟩ | ⟨nj, y'⟩
    · cases y'
      subst ej
      refine ⟨p, by rw [List.getElem?_set_self (lt y rfl)], np, RepO.evo' (Evo.less fun b z => ?_) r fun _ z => z⟩
      rcases z with z | z
      · exact .inl (.inl z)
      · rcases sub b z with z | z
        · exact .inl (.inr z)
        · exact .inr z
    · obtain ⟨b, r1, r2, r3⟩ := he.own j d' y'
      exact ⟨b, by rw [List.getElem?_set_ne (Ne.symm nj)]; exact r1, fun z => r2 (.inl z), RepO.evo' ev r3 fun _ z => z⟩
  · rcases set_get y1 with ⟨e1, _⟩ | ⟨n1, w1⟩
    · rcases set_get y2 with ⟨e2, _⟩ | ⟨n2, w2⟩
      · rw [e1, e2]
      · rw [List.getElem?_set_ne (Ne.symm n2)] at z2
        rcases set_get z1 with ⟨_, z1⟩ | ⟨n1, _⟩
        · cases z1; exact (np2 w2 z2).elim
        · exact absurd e1 n1
    · rw [List.getElem?_set_ne (Ne.symm n1)] at z1
      rcases set_get y2 with ⟨e2, _⟩ | ⟨n2, w2⟩
      · rcases set_get z2 with ⟨_, z2⟩ | ⟨n2, _⟩
        · cases z2; exact (np2 w1 z1).elim
        · exact absurd e2 n2
      · rw [List.getElem?_set_ne (Ne.symm n2)] at z2
        exact he.inj j k d1 d2 b w1 w2 z1 z2
  · rcases set_get y with ⟨_, y⟩ | ⟨nj, y⟩
    · cases y
    · obtain ⟨b, r1, r2⟩ := he.exn j k y
      exact ⟨b, by rw [List.getElem?_set_ne (Ne.symm nj)]; exact r1, r2⟩
  · rcases hz with hz | hz
    · exact (hz b sa).elim
    · rcases set_get y with ⟨z, _⟩ | ⟨nj, y⟩
      · exact absurd z.symm hz
      · rw [List.getElem?_set_ne hz]
        exact he.slf b d' sa y
end
def RepQ (c : Fx) (fr : Bool) (P : Addr → Prop) (H1 : Hp) (σ : L2.St) (e1 : Ev) (d : D) (v : V) : Prop :=
  if fr && ownable d then ∃ p, v = .ref p ∧ P p ∧ ¬ c.Xs p ∧ EnvOk (c.plus p) H1 σ e1 ∧ RepO c.tb c.K H1 (fun b => AV c.Xs e1 σ b ∨ b = p) p d else EnvOk c H1 σ e1 ∧ Rep c.tb c.K H1 (AV c.Xs e1 σ) d v
def PostMv (c : Fx) (σ : L2.St) (H : Hp) (e : Ev) (r : RM D) (Q : VK) : Prop := match r with
  | .ok d fr e1 => ∀ v H1, Evo (Own e σ) H (Own e1 σ) H1 → RepQ c fr (fun a => Own e σ a ∨ H a = none) H1 σ e1 d v → Q v H1
  | .exc k e1 => ∀ H1, Evo (Own e σ) H (Own e1 σ) H1 → EnvOk c H1 σ e1 → c.W (.ref (cAd c.tb c.K k)) none σ H1
  | .bad => False
def PostML (c : Fx) (σ : L2.St) (H : Hp) (e : Ev) (r : RM (List D)) (Q : List V → Hp → Prop) : Prop := match r with
  | .ok ds _ e1 => ∀ vs H1, Evo (Own e σ) H (Own e1 σ) H1 → EnvOk c H1 σ e1 → RepL c.tb c.K H1 (AV c.Xs e1 σ) ds vs → Q vs H1
  | .exc k e1 => ∀ H1, Evo (Own e σ) H (Own e1 σ) H1 → EnvOk c H1 σ e1 → c.W (.ref (cAd c.tb c.K k)) none σ H1
  | .bad => False
def tXM (c : Fx) (t : T) : TE := fun σ H Q => ∃ e, EnvOk c H σ e ∧ PostMv c σ H e (evM c.cl t e) Q
def tXLM (c : Fx) (t : T) : TA := fun σ H Q => ∃ e, EnvOk c H σ e ∧ PostML c σ H e (evLM c.cl t e) Q
section
variable {c : Fx} {H H1 : Hp} {σ : L2.St} {e e1 : Ev}
theorem RepQ.share {fr : Bool} {P : Addr → Prop} {d : D} {v : V} (h : RepQ c fr P H1 σ e1 d v) : EnvOk c H1 σ e1 ∧ Rep c.tb c.K H1 (AV c.Xs e1 σ) d v := by
  unfold RepQ at h
  split at h
  · obtain ⟨p, ev, hp, nx, he, ro⟩ := h
    refine ⟨he.minus, ?_⟩
    rw [ev]
    refine RepO.rep (RepO.evo' (Evo.less fun b z => .inl z) ro fun _ z => z) fun z => ?_
    rcases z with z | ⟨j, d', r1, r2⟩
    · exact nx z
    · obtain ⟨b, q1, q2, _⟩ := he.own j d' r1
      rw [r2] at q1
      cases q1
      exact q2 (.inr rfl)
  · exact h
theorem at_post {fr0 : Bool} {r : R D} {Q : VK} (he : EnvOk c H σ e) (h : PostMv c σ H e (r.at false e) Q) : Post c .share σ H e r Q := by
  cases r with
  | ok d => exact fun v H1 s rr => h v H1 (Evo.same s) ⟨he.same s, rr⟩
  | exc k => exact fun H1 s => h H1 (Evo.same s) (he.same s)
  | bad => exact h
theorem PostMv.pure {m : Md} {fr : Bool} {H0 : Hp} {e0 : Ev} {r : R D} {Q : VK} (he : EnvOk c H σ e) (ev : Evo (Own e0 σ) H0 (Own e σ) H) (hm : m = if fr then .fresh else .share) (h : PostMv c σ H0 e0 (r.at fr e) Q) : Post c m σ H e r Q := by
  have back : ∀ p, H p = none → Own e0 σ p ∨ H0 p = none := fun p n => by
    cases q : H0 p with
    | none => exact .inr rfl
    | some o => exact .inl (Classical.byContradiction fun z => by rw [ev.keep p o q z] at n; cases n)
  cases r with
  | exc k => exact fun H1 s => h H1 (ev.trans (Evo.same s)) (he.same s)
  | bad => exact h
  | ok d =>
    intro v H1 s rr
    refine h v H1 (ev.trans (Evo.same s)) ?_
    have he1 := he.same s
    unfold RepQ
    cases fr with
    | false =>
      rw [if_neg (by simp)]
      subst hm
      exact ⟨he1, rr⟩
    | true =>
      subst hm
      have obj : (∃ a, v = .ref a ∧ H a = none ∧ RepO c.tb c.K H1 (fun b => AV c.Xs e σ b ∨ b = a) a d) → ∃ p, v = .ref p ∧ (Own e0 σ p ∨ H0 p = none) ∧ ¬ c.Xs p ∧ EnvOk (c.plus p) H1 σ e ∧ RepO c.tb c.K H1 (fun b => AV c.Xs e σ b ∨ b = p) p d := fun ⟨p, e1, n, ro⟩ => by
        refine ⟨p, e1, back p n, fun z => he.xs p z n, ?_, ro⟩
        have ev2 : Evo (AV c.Xs e σ) H (AV (c.plus p).Xs e σ) H1 := ⟨fun b o h _ => s b o h, fun b z => by
          rcases z with (z | z) | z
          · exact .inl (.inl z)
          · exact .inr (by rw [z]; exact n)
          · exact .inl (.inr z)⟩
        refine ⟨he1.len, fun j d' q => ?_, fun j d' q => ?_, he1.inj, fun b z => ?_, he1.exn, he1.slf⟩
        · obtain ⟨w, w1, w2⟩ := he.val j d' q
          exact ⟨w, w1, w2.evo ev2⟩
        · obtain ⟨b, w1, w2, w3⟩ := he.own j d' q
          refine ⟨b, w1, fun z => ?_, w3.evo' ev2 fun o h => s b o h⟩
          rcases z with z | z
          · exact w2 z
          · obtain ⟨o, y⟩ := w3.some
            rw [z, n] at y
            cases y
        · rcases z with z | z
          · exact he1.xs b z
          · obtain ⟨o, y⟩ := ro.some
            rw [z, y]
            exact fun z => nomatch z
      cases d with
      | lst ds => rw [if_pos (by rfl)]; exact obj rr
      | obj _ _ _ => rw [if_pos (by rfl)]; exact obj rr
      | _ => rw [if_neg (by simp [ownable])]; exact ⟨he1, rr⟩
end
section
variable {cc : CC} {X : Cx} {c : Fx} {a b d : T} {x y z : Expr} {pos : Pos} {es : List Expr}
theorem RM.bind_bad {a b : Type} (k : a → Bool → Ev → RM b) : RM.bind .bad k = .bad := rfl
theorem plm_cons (hs : isStar x = false) (ha : PE X x (tXM c a)) (hb : PA X es (tXLM c b)) : PA X (x :: es) (tXLM c (.cons a b)) := by
  refine pa_weak (pa_cons ha hb (star_of hs _ _)) fun σ H Q ⟨e, he, q⟩ => ⟨e, he, ?_⟩
  have q' : PostML c σ H e ((evM c.cl a e).bind fun x _ e1 => (evLM c.cl b e1).bind fun xs _ e2 => .ok (x :: xs) false e2) Q := q
  revert q'
  cases evM c.cl a e with
  | bad => exact id
  | exc k e1 => exact id
  | ok d fr e1 =>
    intro q' v H1 ev1 rr
    obtain ⟨he1, r1⟩ := rr.share
    refine ⟨e1, he1, ?_⟩
    have q2 : PostML c σ H e ((evLM c.cl b e1).bind fun xs _ e2 => .ok (d :: xs) false e2) Q := q'
    revert q2
    cases evLM c.cl b e1 with
    | bad => exact id
    | exc k e2 => exact fun q2 H2 ev2 he2 => q2 H2 (ev1.trans ev2) he2
    | ok ds _ e2 => exact fun q2 vs H2 ev2 he2 r2 => q2 (v :: vs) H2 (ev1.trans ev2) he2 (RepL.cons (r1.evo (Evo.or ev2)) r2)
theorem plm_nil : PA X [] (tXLM c .nil) := pa_weak pa_nil fun σ H Q ⟨e, he, q⟩ => q [] H Evo.refl he (show RepL c.tb c.K H (AV c.Xs e σ) [] [] from .nil)
theorem ownO_ok {e : Ev} {i : Nat} {s : D} (h : ownO e i = .ok s) : e[i]? = some (.val s true) ∧ ∃ k fs ds, s = .obj k fs ds := by
  unfold ownO at h
  split at h
  · cases h; exact ⟨by assumption, _, _, _, rfl⟩
  · cases h
theorem ownO_ne {e : Ev} {i n : Nat} : ownO e i ≠ .exc n := by
  unfold ownO
  split <;> first | exact ok_ne | exact bad_ne
theorem rule_mcall (o : XOk cc X c) (hh : cc.hot = false) {m i : Nat} {nm xn : Str} {ap px : Pos} (hn : cc.G.tb.mth[m]? = some nm) (hi : cc.N[i]? = some xn) (hv : visB cc.sc xn = true) (hd : dbg xn = false) (hl : (ap.endLine == pos.line) = true) (hf : few es = true) (hns : noStars es = true)
    (hnil : es = [] → b = .nil) (hb : PA X es (tXLM c b)) : PE X (.Call (.Attribute (.Name xn px) nm ap) es [] pos) (tXM c (.mcall m i b)) := by
  have en : mtN c.tb m = nm := by
    unfold mtN
    rw [o.tb, List.getD_eq_getElem?_getD, hn]; rfl
  have hO := pe_var (X := X) (pos := px) (o.slot hi) (o.vis hv) (dbg_no hd).1 (dbg_no hd).2
  refine pe_weak (pe_methA (CX := L2.CX X.prog X.w) (E := WE c.W) hO hb (fun σ => passAt o.tk σ) (base_of0 rfl) (few_ok hns hf) hl (fun z σ H Q ⟨e, he, q⟩ => ?_) (fun e0 er z => ?_)) fun σ H Q ⟨e, he, q⟩ => ?_
  · have := hnil z
    subst this
    exact q [] H Evo.refl he (show RepL c.tb c.K H (AV c.Xs e σ) [] [] from .nil)
  · subst z
    obtain ⟨n1, n2⟩ := noStars_cons hns
    exact ⟨star_of n1 _ _, back_any n2⟩
  · have q' : PostMv c σ H e (((ownO e i).at false e).bind fun s0 _ _ => ((objC s0).at false e).bind fun k _ _ => ((rOpt (mmt (c.cl.mt k m))).at false e).bind fun f _ _ => (evLM c.cl b e).bind fun ds _ e1 =>
      ((ownO e1 i).at false e1).bind fun s _ _ => mcR i (c.cl.frf f) e1 (c.cl.fn f (s :: ds))) Q := q
    cases z0 : ownO e i with
    | bad => rw [z0] at q'; exact q'.elim
    | exc n => exact absurd z0 ownO_ne
    | ok s0 =>
      rw [z0] at q'
      obtain ⟨e0, k, fs, ds0, es0⟩ := ownO_ok z0
      subst es0
      obtain ⟨p, r1, r2, dx, gs, r3, r4, r5⟩ := he.own i _ e0
      have q2 : PostMv c σ H e (((rOpt (mmt (c.cl.mt k m))).at false e).bind fun f _ _ => (evLM c.cl b e).bind fun ds _ e1 => ((ownO e1 i).at false e1).bind fun s _ _ => mcR i (c.cl.frf f) e1 (c.cl.fn f (s :: ds))) Q := q'
      cases zm : c.cl.mt k m with
      | none => rw [zm] at q2; exact q2.elim
      | some fm => obtain ⟨f, mu⟩ := fm; cases mu with
        | false => rw [zm] at q2; exact q2.elim
        | true =>
          rw [zm] at q2
          have q3 : PostMv c σ H e ((evLM c.cl b e).bind fun ds _ e1 => ((ownO e1 i).at false e1).bind fun s _ _ => mcR i (c.cl.frf f) e1 (c.cl.fn f (s :: ds))) Q := q2
          obtain ⟨hc, fr, fa, fd, ps, sp, kk, n, hm, hr, F, hbd, hfr, hlen, hsp⟩ := o.mt hh k m f true zm
          rw [en] at hm
          refine ⟨.ref p, r1, p, _, dx, gs, fa, fd, ps, sp, [], [], kk, rfl, r3, hc, hm, F, hr, hbd, .nil, ?_, e, he, ?_⟩
          · rw [← en]
            exact no_field (o.mok k m (by rw [zm]; exact fun z => nomatch z)) r4
          · revert q3
            cases evLM c.cl b e with
            | bad => exact id
            | exc k e1 => exact id
            | ok ds _ e1 =>
              intro q3 vs H1 ev1 he1 rv
              rw [List.append_nil]
              have q4 : PostMv c σ H e (((ownO e1 i).at false e1).bind fun s _ _ => mcR i (c.cl.frf f) e1 (c.cl.fn f (s :: ds))) Q := q3
              cases z1 : ownO e1 i with
              | bad => rw [z1] at q4; exact q4.elim
              | exc n => exact absurd z1 ownO_ne
              | ok s =>
                rw [z1] at q4
                have q5 : PostMv c σ H e (mcR i (c.cl.frf f) e1 (c.cl.fn f (s :: ds))) Q := q4
                obtain ⟨e1i, _⟩ := ownO_ok z1
                obtain ⟨p', w1, w2, w3⟩ := he1.own i _ e1i
                rw [r1] at w1
                cases w1
                have op : Own e1 σ p := ⟨i, _, e1i, r1⟩
                have eqA : ∀ b, ((AV c.Xs e1 σ b ∧ b ≠ p) ∨ b = p) → AV c.Xs e1 σ b := fun b z => by
                  rcases z with z | z
                  · exact z.1
                  · rw [z]; exact .inr op
                have eqB : ∀ b, AV c.Xs e1 σ b → ((AV c.Xs e1 σ b ∧ b ≠ p) ∨ b = p) := fun b z => by
                  by_cases h : b = p
                  · exact .inr h
                  · exact .inl ⟨z, h⟩
                have nb : c.cl.fn f (s :: ds) ≠ .bad := fun z => by rw [z] at q5; exact q5
                have hl2 : ds.length + 1 = n := by have := hlen _ nb; simpa using this
                refine hsp (.ref p :: vs) H1 _ _ (show spM c.tb c.K fr n (c.cl.fn f) _ _ _ _ from ⟨fun b => AV c.Xs e1 σ b ∧ b ≠ p, p, s, ds, vs, rfl, hl2, fun b z => he1.av b z.1, fun z => z.2 rfl, RepO.evo' (Evo.less eqA) w3 fun _ z => z, rv.evo (Evo.less eqA), ?_⟩)
                rw [hfr] at q5
                revert q5
                cases c.cl.fn f (s :: ds) with
                | bad => exact id
                | exc n =>
                  intro q5 H2 ev2
                  obtain ⟨g1, g2⟩ := he1.drop e1i r1 ev2
                  exact q5 H2 (ev1.trans g2) g1
                | ok dd =>
                  cases dd with
                  | tup l =>
                    match l with
                    | [d, s'] =>
                      intro q5 v H2 ev2 ro rm
                      have q6 : ∀ v H1, Evo (Own e σ) H (Own (e1.set i (.val s' true)) σ) H1 → RepQ c fr (fun a => Own e σ a ∨ H a = none) H1 σ (e1.set i (.val s' true)) d v → Q v H1 := q5
                      by_cases hf2 : (fr && ownable d) = true
                      · obtain ⟨f1, f2⟩ := and2 hf2
                        subst f1
                        have obj : ∃ a, v = .ref a ∧ H1 a = none ∧ RepO c.tb c.K H2 (fun b => ((AV c.Xs e1 σ b ∧ b ≠ p) ∨ b = p) ∨ b = a) a d := by
                          cases d with
                          | lst _ => exact rm
                          | obj _ _ _ => exact rm
                          | _ => cases f2
                        obtain ⟨a, ea, na, roa⟩ := obj
                        obtain ⟨g1, g2⟩ := he1.mutX (F := fun b => b = a) e1i r1 ev2 (fun b z => by
                          subst z
                          obtain ⟨o, y⟩ := roa.some
                          exact ⟨na, by rw [y]; exact fun z => nomatch z⟩) (RepO.evo' (Evo.less fun b z => by
                            rcases z with z | z
                            · exact .inl (eqB b z)
                            · exact .inr ⟨rfl, f2, by rw [ea, z]⟩) ro fun _ z => z)
                        refine q6 v H2 (ev1.trans g2) ?_
                        unfold RepQ
                        rw [if_pos hf2]
                        refine ⟨a, ea, ?_, fun z => he1.xs a z na, g1, RepO.evo' (Evo.less fun b z => ?_) roa fun _ z => z⟩
                        · cases y : H a with
                          | none => exact .inr y
                          | some o => exact .inl (Classical.byContradiction fun z => by rw [ev1.keep a o y z] at na; cases na)
                        · rcases z with z | z
                          · exact .inl (eqB b (z.imp id (own_set e1i b)))
                          · exact .inr z
                      · obtain ⟨g1, g2⟩ := he1.mutO e1i r1 ev2 (RepO.evo' (Evo.less fun b z => .inl (eqB b z)) ro fun _ z => z)
                        refine q6 v H2 (ev1.trans g2) ?_
                        unfold RepQ
                        rw [if_neg hf2]
                        refine ⟨g1, ?_⟩
                        have rr : Rep c.tb c.K H2 (fun b => (AV c.Xs e1 σ b ∧ b ≠ p) ∨ b = p) d v := by
                          cases fr with
                          | false => exact rm
                          | true => cases d <;> first | exact rm | exact absurd rfl hf2
                        exact rr.evo (Evo.less fun b z => eqB b (z.imp id (own_set e1i b)))
                    | [] => exact fun q => q.elim
                    | [_] => exact fun q => q.elim
                    | _ :: _ :: _ :: _ => exact fun q => q.elim
                  | _ => exact fun q => q.elim
theorem rule_callM (o : XOk cc X c) (hh : cc.hot = false) {f : Nat} {F0 : FI} {p : Pos} (hf : cc.G.fns[f]? = some F0) (hgl : F0.glob = true) (h1 : F0.lo ≤ es.length) (h2 : es.length ≤ F0.hi) (hg : glB cc.sc F0.nm = true) (hd : dbg F0.nm = false)
    (h0 : es = [] → a = .nil) (hs : noStars es = true) (hn : ∀ ds fr e e1, evLM c.cl a e = .ok ds fr e1 → ds.length = es.length) (hfrf : c.cl.frf f = F0.fr) (ha : PA X es (tXLM c a)) : PE X (.Call (.Name F0.nm p) es [] pos) (tXM c (.call f a)) := by
  obtain ⟨fa, fd, ps, sp, dvs, dv, k, hr, gm, hk, F, hb, hdv, hsp⟩ := o.fn hh f F0 es.length hf hgl h1 h2
  have post : ∀ σ H Q, tXM c (.call f a) σ H Q → tCallSD sp dvs (WE c.W) (tXLM c a) σ H Q := fun σ H Q ⟨e, he, q⟩ => by
    have q' : PostMv c σ H e ((evLM c.cl a e).bind fun ds _ e1 => (c.cl.fn f ds).at (c.cl.frf f) e1) Q := q
    refine ⟨e, he, ?_⟩
    revert q'
    cases zz : evLM c.cl a e with
    | bad => exact id
    | exc k e1 => exact id
    | ok ds fr e1 =>
      intro q' vs H1 ev1 he1 r1
      have q2 : PostMv c σ H e ((c.cl.fn f ds).at (c.cl.frf f) e1) Q := q'
      rw [hfrf] at q2
      have q3 := PostMv.pure he1 ev1 rfl q2
      refine hsp _ _ _ _ ⟨AV c.Xs e1 σ, ds, hn _ _ _ _ zz, he1.av, r1, ?_⟩
      revert q3
      cases c.cl.fn f ds with
      | ok d2 => exact fun q v H2 s2 r2 => q v H2 s2 r2
      | exc k => exact fun q H2 s2 => q H2 s2
      | bad => exact id
  cases es with
  | nil =>
    refine pe_weak (pe_callSD0 F hr (o.glo hg) gm hk hb hdv (fun σ => passAt o.tk σ) (dbg_no hd).1) fun σ H Q q => ?_
    obtain ⟨e, he, q2⟩ := post σ H Q q
    have ea := h0 rfl
    subst ea
    exact q2 [] H Evo.refl he (show RepL c.tb c.K H (AV c.Xs e σ) [] [] from .nil)
  | cons e0 er =>
    obtain ⟨n1, n2⟩ := noStars_cons hs
    exact pe_weak (pe_callSD F hr (o.glo hg) gm hk hb hdv (fun σ => passAt o.tk σ) ha (dbg_no hd).1 (star_of n1 _ _) (back_any n2)) post
theorem rule_binM (o : XOk cc X c) (hh : cc.hot = false) (op : Operator) (ha : PE X x (tXM c a)) (hb : PE X y (tX c .look b)) : PE X (.BinOp x op y pos) (tXM c (.bin op a b)) := by
  have h := op_bin (tb := c.tb) (plr_of (o.plr hh)) op
  rw [← o.K] at h
  refine pe_weak (pe_op h ha hb) fun σ H Q ⟨e, he, q⟩ => ⟨e, he, ?_⟩
  have q' : PostMv c σ H e ((evM c.cl a e).bind fun x _ e1 => ((evX c.cl true b e1).bind fun y => dBin op x y).at true e1) Q := q
  revert q'
  cases evM c.cl a e with
  | bad => exact id
  | exc k e1 => exact id
  | ok d fr e1 =>
    intro q' v H1 ev1 rr
    obtain ⟨he1, r1⟩ := rr.share
    have q2 : PostMv c σ H e (((evX c.cl true b e1).bind fun y => dBin op d y).at true e1) Q := q'
    have q3 := PostMv.pure (m := .fresh) he1 ev1 rfl q2
    exact ⟨e1, he1, q3.step fun d2 v2 H2 s2 r2 q4 => ⟨AV c.Xs e1 σ, d, d2, (he1.same s2).av, .inl (r1.evo (Evo.same s2)), r2, PostM.of Same.refl (dBin_ne op _ _) q4⟩⟩
theorem rule_tupM {k : Nat} (hl : ∀ ds fr e e1, evLM c.cl a e = .ok ds fr e1 → ds.length < 1000) (ha : PA X es (tXLM c a)) : PE X (.Tuple es k pos) (tXM c (.tup a)) := by
  refine pe_weak (pe_tup ha) fun σ H Q ⟨e, he, q⟩ => ⟨e, he, ?_⟩
  have q' : PostMv c σ H e ((evLM c.cl a e).bind fun ds _ e1 => .ok (.tup ds) true e1) Q := q
  revert q'
  cases zz : evLM c.cl a e with
  | bad => exact id
  | exc k e1 => exact id
  | ok ds fr e1 =>
    intro q' vs H1 ev1 he1 r1
    refine ⟨?_, fun p np => q' _ _ (ev1.trans (Evo.same (same_upd np))) ?_⟩
    · have := hl _ _ _ _ zz
      rw [r1.length, sizeLine_eq]
      omega
    · unfold RepQ
      rw [if_neg (by simp [ownable])]
      exact ⟨he1.same (same_upd np), new_tup np he1.av r1⟩
structure SM (t : T) : Prop where
  E : ∀ {cc : CC} {X : Cx} {c : Fx} {ex : Expr}, XOk cc X c → (∀ f F, cc.G.fns[f]? = some F → c.cl.frf f = F.fr) → mEM cc t ex = true → PE X ex (tXM c t)
  L : ∀ {cc : CC} {X : Cx} {c : Fx} {es : List Expr}, XOk cc X c → (∀ f F, cc.G.fns[f]? = some F → c.cl.frf f = F.fr) → mLM cc t es = true → PA X es (tXLM c t) ∧ noStars es = true ∧ (∀ ds fr e e1, evLM c.cl t e = .ok ds fr e1 → ds.length = es.length) ∧ (es = [] → t = .nil)
theorem sm_of {t : T} {cc : CC} {X : Cx} {c : Fx} {ex : Expr} (o : XOk cc X c) (h : mE cc t ex = true) (hd : ∀ e, evM c.cl t e = (evX c.cl false t e).at false e) : PE X ex (tXM c t) :=
  pe_weak ((se t).E o h).1.share fun σ H Q ⟨e, he, q⟩ => ⟨e, he, at_post (fr0 := false) he (by rw [hd] at q; exact q)⟩
theorem sm (t : T) : SM t := by
  induction t with
  | mcall m i as iha =>
    refine ⟨fun {cc X c ex} o hfr h => ?_, fun o hfr h => (by cases h)⟩
    cases ex with
    | Call fn es kws p => cases fn with
      | Attribute b nm ap => cases b with
        | Name x px => cases kws with
          | cons _ _ => cases h
          | nil =>
            obtain ⟨h, h8⟩ := and2 h
            obtain ⟨h, h7⟩ := and2 h
            obtain ⟨h, h6⟩ := and2 h
            obtain ⟨h, h5⟩ := and2 h
            obtain ⟨h, h4⟩ := and2 h
            obtain ⟨h, h3⟩ := and2 h
            obtain ⟨h1, h2⟩ := and2 h
            have q := iha.L o hfr h8
            exact rule_mcall o (bang h1) (of_decide_eq_true h2) (of_decide_eq_true h3) h4 (bang h5) h6 h7 q.2.1 q.2.2.2 q.1
        | _ => cases h
      | _ => cases h
    | _ => cases h
  | call f as iha =>
    refine ⟨fun {cc X c ex} o hfr h => ?_, fun o hfr h => (by cases h)⟩
    cases ex with
    | Call fn es kws p => cases fn with
      | Name x pn => cases kws with
        | cons _ _ => cases h
        | nil =>
          obtain ⟨h, h5⟩ := and2 h
          obtain ⟨h, h4⟩ := and2 h
          obtain ⟨h, h3⟩ := and2 h
          obtain ⟨h1, h2⟩ := and2 h
          have q := iha.L o hfr h5
          cases zf : cc.G.fns[f]? with
          | none => rw [zf] at h4; cases h4
          | some F =>
            rw [zf] at h4
            obtain ⟨h4, h6⟩ := and2 h4
            obtain ⟨h4, h7⟩ := and2 h4
            obtain ⟨h8, h4⟩ := and2 h4
            have e := of_decide_eq_true h4
            subst e
            exact rule_callM o (bang h1) zf h8 (of_decide_eq_true h7) (of_decide_eq_true h6) h2 (bang h3) q.2.2.2 q.2.1 q.2.2.1 (hfr _ _ zf) q.1
      | _ => cases h
    | _ => cases h
  | bin op a b iha ihb =>
    refine ⟨fun {cc X c ex} o hfr h => ?_, fun o hfr h => (by cases h)⟩
    cases ex with
    | BinOp x op' y p =>
      obtain ⟨h12, h3⟩ := and2 (show ((!cc.hot && decide (op = op')) && mEM cc a x && mE cc b y) = true from h)
      obtain ⟨h1, h2⟩ := and2 h12
      obtain ⟨h0, h1⟩ := and2 h1
      have e := of_decide_eq_true h1
      subst e
      exact rule_binM o (bang h0) op (iha.E o hfr h2) ((se b).E o h3).1.look
    | _ => cases h
  | tup a iha =>
    refine ⟨fun {cc X c ex} o hfr h => ?_, fun o hfr h => (by cases h)⟩
    cases ex with
    | Tuple es k p =>
      obtain ⟨h1, h2⟩ := and2 (show (decide (es.length < 1000) && mLM cc a es) = true from h)
      have q := iha.L o hfr h2
      exact rule_tupM (fun ds fr e e1 z => by rw [q.2.2.1 ds fr e e1 z]; exact of_decide_eq_true h1) q.1
    | _ => cases h
  | nil =>
    refine ⟨fun {cc X c ex} o hfr h => (by cases h), fun {cc X c es} o hfr h => ?_⟩
    cases es with
    | nil => exact ⟨plm_nil, rfl, fun ds fr e e1 z => (by cases z; rfl), fun _ => rfl⟩
    | cons _ _ => cases h
  | cons a r iha ihr =>
    refine ⟨fun {cc X c ex} o hfr h => (by cases h), fun {cc X c es} o hfr h => ?_⟩
    cases es with
    | nil => cases h
    | cons e es =>
      obtain ⟨h12, h3⟩ := and2 (show (!isStar e && mEM cc a e && mLM cc r es) = true from h)
      obtain ⟨h1, h2⟩ := and2 h12
      have qr := ihr.L o hfr h3
      refine ⟨plm_cons (bang h1) (iha.E o hfr h2) qr.1, ?_, fun ds fr e0 e1 z => ?_, fun z => by cases z⟩
      · show (!isStar e && noStars es) = true
        rw [h1, qr.2.1]; rfl
      · have z' : ((evM c.cl a e0).bind fun x _ e1 => (evLM c.cl r e1).bind fun xs _ e2 => RM.ok (x :: xs) false e2) = .ok ds fr e1 := z
        cases y : evM c.cl a e0 with
        | bad => rw [y] at z'; cases z'
        | exc k e2 => rw [y] at z'; cases z'
        | ok d f2 e2 =>
          rw [y] at z'
          have z2 : ((evLM c.cl r e2).bind fun xs _ e2 => RM.ok (d :: xs) false e2) = .ok ds fr e1 := z'
          cases y2 : evLM c.cl r e2 with
          | bad => rw [y2] at z2; cases z2
          | exc k e3 => rw [y2] at z2; cases z2
          | ok l f3 e3 =>
            rw [y2] at z2
            cases z2
            simp [qr.2.2.1 l f3 e2 _ y2]
  | _ => exact ⟨fun {cc X c ex} o hfr h => sm_of o h fun e => rfl, fun o hfr h => (by cases h)⟩
end
end VE
namespace VE
open PySem PySem.Spec PyProof.Rows L2
structure SOk (cc : CC) (X : Cx) (c : Fx) : Prop where
  x : XOk cc X c
  fnn : ∀ y, X.fn y = true
  kind : cc.sc.kind = .function
  pas : PassesOwn (model X.prog X.w) X.A X.env X.xe
  stk : X.stack = X.env :: X.outer
  frm : X.env.frame = some X.env.locals
  exr : ∀ k ∈ cc.G.exs, PySem.W.excIn X.K (cAd c.tb c.K k) [.type "ValueError", .type "Exception", .type "BaseException", .type "object"] "ValueError.__new__" = true ∧ PySem.W.keepIn X.K (.ref (cAd c.tb c.K k)) = true ∧
    PySem.W.subIn X.K (.ref (cAd c.tb c.K k)) (.type "BaseException") = some true ∧ PySem.W.typeIn X.K (.ref (cAd c.tb c.K k)) = some (.type "type")
  exm : ∀ k ∈ cc.G.exs, ∀ t ∈ cc.G.exs, PySem.W.exmOne X.K (.ref (cAd c.tb c.K k)) (.ref (cAd c.tb c.K t)) = some (c.cl.su k t)
  exc : ∀ k ∈ cc.G.exs, ExcC X.K (cAd c.tb c.K k)
  isx : ∀ k, c.cl.isx k = true → k ∈ cc.G.exs
  noe : cc.hot = false → ∀ a k, ¬ c.EX a k
  frf : ∀ f F, cc.G.fns[f]? = some F → c.cl.frf f = F.fr
section
variable {cc : CC} {X : Cx} {c : Fx} {a b : T} {i : Nat} {k : List Nat} {pos : Pos} {ex : Expr}
theorem sw_eq (hk : X.env.scope.kind = .function) {x : Str} {px : Pos} {l : Nat} {elt : Expr} {gs : List Comprehension} {scope : Scope} {p : Pos} : swapsWith (.ListComp elt gs scope p) (some (.Name x px)) l X.env = pure (swB X.env.scope x px (.ListComp elt gs scope p)) := by
  have hb : X.env.blockKind = .function := by unfold Env.blockKind; rw [hk]; rfl
  unfold swapsWith swB
  simp only [hb, Expr.pos]
  rfl
theorem sw_no {tg : Option Expr} {l : Nat} {env : Env} (h : noComp ex = true) : swapsWith ex tg l env = pure false := by
  cases ex <;> first | rfl | cases h
theorem noComp_of {t : T} {G : Pg} (h : mE cc a ex = true) (hl : isLcE ex = false) : noComp ex = true := by
  cases ex with
  | ListComp _ _ _ _ => cases hl
  | SetComp _ _ _ _ => cases a <;> cases h
  | DictComp _ _ _ _ _ => cases a <;> cases h
  | _ => rfl
theorem SOk.nok (o : SOk cc X c) : NOk cc.N cc.sc true X := o.x.names fun _ => o.fnn
theorem SOk.kindX (o : SOk cc X c) : X.env.scope.kind = .function := by rw [o.x.sc]; exact o.kind
theorem SOk.loc (o : SOk cc X c) {x : Str} (h : stoB true cc.sc x = true) : Loc X.env.scope x := by
  rw [o.x.sc]
  rcases sto_of h with z | ⟨_, z⟩
  · exact .inl z
  · exact .inr z
theorem SOk.nd (o : SOk cc X c) : X.N.Nodup := by rw [o.x.hN]; exact o.x.nd
theorem evo_refl {e : Ev} {σ : L2.St} {H : Hp} : Evo (Own e σ) H (Own e σ) H := Evo.refl
theorem asg_post {fr ow : Bool} {σ : L2.St} {H : Hp} {e : Ev} {D : Ends} (hz : ow = true → (∀ a, ¬ c.SA a) ∨ i ≠ 0) (he : EnvOk c H σ e) (q : PostS c fr σ H e (exS c.cl (.asg i k ow a) e) D) : tAsg (tX c (if ow then .fresh else .share) a) (gName i) D σ H := by
  obtain ⟨he1, hs⟩ := he.clr k
  have q' : PostS c fr σ H e (outR (evX c.cl false a (clrE k e)) (clrE k e) fun d => .nx ((clrE k e).set i (.val d (ow && ownable d)))) D := q
  refine ⟨clrE k e, he1, ?_⟩
  have e2 : evX c.cl (lk (if ow then .fresh else .share)) a (clrE k e) = evX c.cl false a (clrE k e) := by cases ow <;> rfl
  rw [e2]
  refine outR_post q' he1 hs fun d v H1 _ s r qq => ?_
  have fin : ∀ {d : VE.D}, Rep c.tb c.K H1 (AV c.Xs (clrE k e) σ) d v → PostS c fr σ H e (.nx ((clrE k e).set i (.val d false))) D → D.nx (σ.set i (some v)) H1 := fun {d} r qq => by
    refine qq _ H1 ⟨fun b o z _ => s b o z, fun b z => .inl (hs b (own_sub (s := .val d false) (fun _ z => nomatch z) z))⟩ ((he1.same s).put ⟨v, rfl, r⟩)
  cases ow with
  | false => exact fin (show Rep c.tb c.K H1 (AV c.Xs (clrE k e) σ) d v from r) qq
  | true =>
    have obj : (∃ p, v = .ref p ∧ H p = none ∧ RepO c.tb c.K H1 (fun b => AV c.Xs (clrE k e) σ b ∨ b = p) p d) → PostS c fr σ H e (.nx ((clrE k e).set i (.val d true))) D → D.nx (σ.set i (some v)) H1 := fun ⟨p, ev, n, ro⟩ qq => by
      subst ev
      obtain ⟨w1, w2⟩ := he1.own1 (i := i) s (hz rfl) n ro
      refine qq _ H1 ⟨fun b o z _ => s b o z, fun b z => ?_⟩ w1
      rcases w2 b z with z | z
      · exact .inl (hs b z)
      · exact .inr (by rw [z]; exact n)
    cases d with
    | lst ds => exact obj r qq
    | obj _ _ _ => exact obj r qq
    | _ => exact fin r qq
theorem PEm.at {t : T} {f ow : Bool} (h : PEm X c ex t f) (hf : ow = true → f = true) : PE X ex (tX c (if ow then .fresh else .share) t) := by
  cases ow with
  | true => exact h.fresh (hf rfl)
  | false => exact h.share
theorem rule_asg (o : SOk cc X c) {fr ow : Bool} {x : Str} {px : Pos} (hi : cc.N[i]? = some x) (hst : stoB true cc.sc x = true) (hf : ow = true → frT cc.G a = true) (hz : ow = true → (∀ a, ¬ c.SA a) ∨ i ≠ 0) (hm : mE cc a ex = true) : PS X (.Assign [.Name x px] ex pos) (tSx c fr (.asg i k ow a)) := by
  have P := ((se a).E o.x hm).1
  have plain : swapsWith ex (some (.Name x px)) pos.line X.env = pure false → PS X (.Assign [.Name x px] ex pos) (tSx c fr (.asg i k ow a)) := fun hs =>
    ps_weak (ps_set o.nd (o.x.slot hi) (o.loc hst) (P.at hf) hs (.inl (o.fnn x))) fun D σ H ⟨e, he, q⟩ => asg_post hz he q
  cases zl : isLcE ex with
  | false => exact plain (sw_no (noComp_of (t := a) (G := cc.G) hm zl))
  | true =>
    cases ex with
    | ListComp elt gs scope p =>
      cases zs : swB X.env.scope x px (.ListComp elt gs scope p) with
      | false => exact plain (by rw [sw_eq o.kindX, zs])
      | true =>
        cases a with
        | lc own tg tup it cd el =>
          obtain ⟨te, iter, ifs, eg, L⟩ := lc_parts o.x (se it) (se cd) (se el) hm
          subst eg
          have hl : cc.sc.names.lookup x = some .local := by
            have := (and2 (and2 (show ((X.env.scope.names.lookup x == some .local) && (px.line == p.line) && !(scope.names.any fun (n, k) => n == x && (k == .local || k == .cell))) = true from zs)).1).1
            rw [o.x.sc] at this
            exact beq_iff_eq.mp this
          refine ps_weak (rule_setLc (py := px) (pos := p) (spos := pos) o.x L.hh hi hl (by rw [sw_eq o.kindX, zs]) L.blk L.htg L.hm L.hi L.fs L.hc L.he) fun D σ H ⟨e, he, q⟩ => ?_
          have := asg_post hz he q
          cases ow with
          | true => exact this
          | false =>
            obtain ⟨e1, he1, q1⟩ := this
            refine ⟨e1, he1, ?_⟩
            have q1' : Post c .share σ H e1 (evX c.cl (lk .fresh) (.lc own tg tup it cd el) e1) (fun x H1 => gName i x σ H1 D.nx) := q1
            revert q1'
            cases evX c.cl (lk .fresh) (.lc own tg tup it cd el) e1 with
            | ok d => exact fun q v H' s r => q v H' s (r.rep he1.av)
            | exc k => exact id
            | bad => exact id
        | _ => cases hm
    | _ => cases zl
theorem RepR.share {c : Fx} {H1 : Hp} {d : D} {v : V} {P : Addr → Prop} {e : Ev} {σ : L2.St} (r : Rep c.tb c.K H1 (AV c.Xs e σ) d v) : RepR c false P H1 σ e d v := by
  unfold RepR
  rw [if_neg (by simp)]
  exact r
theorem RepR.freshV {c : Fx} {fr : Bool} {H H1 : Hp} {d : D} {v : V} {P : Addr → Prop} {e : Ev} {σ : L2.St} (he : EnvOk c H σ e) (hs : Same H H1) (hP : ∀ a, H a = none → P a) (r : RepF c.tb c.K H H1 (AV c.Xs e σ) d v) : RepR c true P H1 σ e d v := by
  unfold RepR
  have obj : ∀ {d : D}, (∃ a, v = .ref a ∧ H a = none ∧ RepO c.tb c.K H1 (fun b => AV c.Xs e σ b ∨ b = a) a d) → ∃ a, v = .ref a ∧ P a ∧ (∀ b d', c.SA b → e[0]? = some (Sl.val d' true) → a ≠ b) ∧ (Own e σ a ∨ EnvOk (c.plus a) H1 σ e) ∧ RepO c.tb c.K H1 (fun b => AV c.Xs e σ b ∨ b = a) a d := fun ⟨a, ev, n, ro⟩ =>
    ⟨a, ev, hP a n, (fun b d' sa h z => by
      subst z
      obtain ⟨q, q1, _, q3⟩ := he.own 0 d' h
      rw [he.slf a d' sa h] at q1
      cases q1
      obtain ⟨o, q⟩ := q3.some
      rw [n] at q
      cases q), .inr (he.plus hs n (by obtain ⟨o, q⟩ := ro.some; rw [q]; exact fun z => nomatch z)), ro⟩
  cases d with
  | lst ds => exact obj r
  | obj _ _ _ => exact obj r
  | _ => exact r
theorem rule_ret (o : SOk cc X c) {fr : Bool} (h0 : fr = true → (∀ b, ¬ c.SA b) ∨ isV0 a = false) (hf : fr = true → frT cc.G a = true ∨ isV a = true) (hm : mE cc a ex = true) : PS X (.Return (some ex) pos) (tSx c fr (.ret fr k a)) := by
  have P := ((se a).E o.x hm).1
  cases fr with
  | false =>
    refine ps_weak (ps_ret P.share) fun D σ H ⟨e, he, q⟩ => ?_
    obtain ⟨he1, hs⟩ := he.clr k
    have q' : PostS c false σ H e (outR (evX c.cl false a (clrE k e)) (clrE k e) fun d => .rt d (clrE k e)) D := q
    exact ⟨clrE k e, he1, outR_post (m := .share) q' he1 hs fun d v H1 _ s r qq => qq v σ H1 ⟨fun b o z _ => s b o z, fun b z => .inl (hs b z)⟩ (he1.same s) (RepR.share r)⟩
  | true =>
    cases zv : isV a with
    | false =>
      have hfr : frT cc.G a = true := (hf rfl).resolve_right (by rw [zv]; exact Bool.false_ne_true)
      have ef : ∀ e, evF c.cl a e = evX c.cl false a e := fun e => by cases a <;> first | rfl | cases zv
      refine ps_weak (ps_ret (P.fresh hfr)) fun D σ H ⟨e, he, q⟩ => ?_
      obtain ⟨he1, hs⟩ := he.clr k
      have q' : PostS c true σ H e (outR (evF c.cl a (clrE k e)) (clrE k e) fun d => .rt d (clrE k e)) D := q
      rw [ef] at q'
      exact ⟨clrE k e, he1, outR_post (m := .fresh) q' he1 hs fun d v H1 _ s r qq => qq v σ H1 ⟨fun b o z _ => s b o z, fun b z => .inl (hs b z)⟩ (he1.same s) (RepR.freshV (fr := true) he1 s (fun a n => .inr n) r)⟩
    | true =>
      cases a with
      | v i =>
        cases ex with
        | Name x p =>
          obtain ⟨h12, h3⟩ := and2 (show (decide (cc.N[i]? = some x) && visB cc.sc x && !dbg x) = true from hm)
          obtain ⟨h1, h2⟩ := and2 h12
          have base := pe_var (X := X) (pos := p) (o.x.slot (of_decide_eq_true h1)) (o.x.vis h2) (dbg_no (bang h3)).1 (dbg_no (bang h3)).2
          refine ps_weak (ps_ret base) fun D σ H ⟨e, he, q⟩ => ?_
          obtain ⟨he1, hs⟩ := he.clr k
          have q' : PostS c true σ H e (outR (match (clrE k e)[i]? with
            | some (.val d o) => if o || !ownable d then R.ok d else .bad
            | _ => .bad) (clrE k e) fun d => .rt d (clrE k e)) D := q
          cases zi : (clrE k e)[i]? with
          | none => rw [zi] at q'; exact q'.elim
          | some sl =>
            rw [zi] at q'
            cases sl with
            | emp => exact q'.elim
            | exn _ => exact q'.elim
            | val d ow =>
              have fin : ∀ v, PostS c true σ H e (.rt d (clrE k e)) D → RepR c true (fun a => Own e σ a ∨ H a = none) H σ (clrE k e) d v → D.rt v H := fun v qq r => qq v σ H ⟨fun b o z _ => z, fun b z => .inl (hs b z)⟩ he1 r
              cases ow with
              | true =>
                obtain ⟨p0, r1, r2, r3⟩ := he1.own i d zi
                refine ⟨_, r1, fin _ q' ?_⟩
                unfold RepR
                have hd : (true && ownable d) = true := by
                  cases d <;> first | rfl | exact r3.elim
                rw [if_pos hd]
                have op : Own (clrE k e) σ p0 := ⟨i, d, zi, r1⟩
                refine ⟨p0, rfl, .inl (hs p0 op), fun b d' sa y z => ?_, .inl op, RepO.evo' (Evo.less fun b z => by
                  rcases z with z | z
                  · exact z
                  · rw [z]; exact .inr op) r3 fun _ z => z⟩
                subst z
                rcases h0 rfl with w | w
                · exact w p0 sa
                · have e0 := he1.inj i 0 _ _ p0 zi y r1 (he1.slf p0 d' sa y)
                  subst e0
                  cases w
              | false =>
                have q2 : PostS c true σ H e (outR (if (false || !ownable d) then R.ok d else .bad) (clrE k e) fun d => .rt d (clrE k e)) D := q'
                cases zo : ownable d with
                | true => rw [zo] at q2; exact q2.elim
                | false =>
                  rw [zo] at q2
                  obtain ⟨v, r1, r2⟩ := he1.val i d zi
                  refine ⟨v, r1, fin v q2 ?_⟩
                  unfold RepR
                  rw [if_neg (by rw [zo]; simp)]
                  exact r2
        | _ => cases hm
      | _ => cases zv
theorem rule_ex (o : SOk cc X c) {fr : Bool} (hn : noComp ex = true) (hm : mE cc a ex = true) : PS X (.Expr ex pos) (tSx c fr (.ex k a)) := by
  refine ps_weak (ps_expr ((se a).E o.x hm).1.share (sw_no hn)) fun D σ H ⟨e, he, q⟩ => ?_
  obtain ⟨he1, hs⟩ := he.clr k
  have q' : PostS c fr σ H e (outR (evX c.cl false a (clrE k e)) (clrE k e) fun _ => .nx (clrE k e)) D := q
  exact ⟨clrE k e, he1, outR_post (m := .share) q' he1 hs fun d v H1 _ s r qq => qq σ H1 ⟨fun b o z _ => s b o z, fun b z => .inl (hs b z)⟩ (he1.same s)⟩
theorem unp_post {fr : Bool} {is : List Nat} {σ : L2.St} {H : Hp} {e : Ev} {D : Ends} (he : EnvOk c H σ e) (q : PostS c fr σ H e (exS c.cl (.unp is k a) e) D) : tAsg (tX c .share a) (gT c.K is true) D σ H := by
  obtain ⟨he1, hs⟩ := he.clr k
  have q' : PostS c fr σ H e (outR ((evX c.cl false a (clrE k e)).bind fun d => bindT is true d (clrE k e)) (clrE k e) .nx) D := q
  rw [outR_bind] at q'
  refine ⟨clrE k e, he1, outR_post (m := .share) q' he1 hs fun d v H1 _ s r qq => ?_⟩
  cases z : bindT is true d (clrE k e) with
  | bad => rw [z] at qq; exact qq.elim
  | exc n =>
    exact absurd z bindT_ne
  | ok e2 =>
    rw [z] at qq
    exact gT_ok (he1.same s) r z fun σ1 B => qq σ1 H1 ⟨fun b o z _ => s b o z, fun b z => .inl (hs b (B.own b z))⟩ B.env
where
  setAll_ne : ∀ {is : List Nat} {ds : List VE.D} {e : Ev} {n : Nat}, setAll is ds e ≠ .exc n
    | [], [], _, _, h => by cases h
    | i :: is, d :: ds, e, n, h => setAll_ne (is := is) (ds := ds) (e := e.set i (.val d false)) (n := n) h
    | [], _ :: _, _, _, h => by cases h
    | _ :: _, [], _, _, h => by cases h
theorem rule_unp (o : SOk cc X c) (hh : cc.hot = false) {fr : Bool} {is : List Nat} {tg : Expr} (ht : mTg true cc.N cc.sc is true tg = true) (h1 : notTup ex = true) (h2 : noComp ex = true) (hm : mE cc a ex = true) : PS X (.Assign [tg] ex pos) (tSx c fr (.unp is k a)) := by
  have hg := o.nok.tg (o.x.calm hh) ht
  rw [← o.x.K] at hg
  have hw : swappedStores [tg] ex X.env = pure none := by
    cases tg with
    | Tuple ts kk p => cases ex <;> first | rfl | cases h1
    | _ => cases ht
  exact ps_weak (ps_asg ((se a).E o.x hm).1.share hg (sw_no h2) hw (by cases tg <;> first | rfl | cases ht)) fun D σ H ⟨e, he, q⟩ => unp_post he q
theorem swst_eq {env : Env} (hk : env.scope.kind = .function) {ts vs : List Expr} {kt kv : Nat} {pt pv : Pos} {r : Option (List Str)} (h : swst env.scope ts vs = some r) : swappedStores [.Tuple ts kt pt] (.Tuple vs kv pv) env = pure r := by
  have hb : env.blockKind = .function := by unfold Env.blockKind; rw [hk]; rfl
  unfold swst at h
  unfold swappedStores
  simp only [hb, bne_self_eq_false, Bool.or_false]
  split at h
  · rename_i z
    rw [if_pos z]
    cases h; rfl
  · rename_i z
    rw [if_neg z]
    split at h
    · rename_i z2
      refine (if_pos z2).trans ?_
      cases h; rfl
    · rename_i z2
      refine (if_neg z2).trans ?_
      dsimp only at h ⊢
      split at h
      · rename_i z3
        refine (if_pos z3).trans ?_
        cases h; rfl
      · rename_i z3
        refine (if_neg z3).trans ?_
        split at h
        · rename_i z4
          refine (if_pos z4).trans ?_
          cases h; rfl
        · rename_i z4
          refine (if_neg z4).trans ?_
          split at h
          · cases h
          · rename_i z5
            refine (if_neg z5).trans ?_
            cases h; rfl
def nmOf (sc : Scope) (line : Nat) : Expr → Option Str
  | .Name id pos => if sc.names.lookup id == some .local && pos.line == line then some id else none
  | _ => none
theorem names_of {sc : Scope} {line : Nat} : ∀ {ts : List Expr}, (ts.filterMap (nmOf sc line)).length = ts.length → ∃ xs : List (Str × Pos), ts = xs.map (fun p => .Name p.1 p.2) ∧ ts.filterMap (nmOf sc line) = xs.map (·.1) ∧ ∀ p ∈ xs, sc.names.lookup p.1 = some .local
  | [], _ => ⟨[], rfl, rfl, by simp⟩
  | t :: ts, h => by
    cases z : nmOf sc line t with
    | none =>
      rw [List.filterMap_cons, z] at h
      have := List.length_filterMap_le (nmOf sc line) ts
      simp at h
      omega
    | some y =>
      rw [List.filterMap_cons, z] at h
      obtain ⟨xs, h1, h2, h3⟩ := names_of (ts := ts) (by simpa using h)
      cases t with
      | Name id p =>
        have z' : (if sc.names.lookup id == some .local && p.line == line then some id else none) = some y := z
        split at z'
        · rename_i w
          cases z'
          refine ⟨(y, p) :: xs, by rw [h1]; rfl, by rw [List.filterMap_cons, z, h2]; rfl, fun q hq => ?_⟩
          rcases List.mem_cons.mp hq with e | e
          · rw [e]; exact beq_iff_eq.mp (and2 w).1
          · exact h3 q e
        · cases z'
      | _ => cases z
theorem swst_names {sc : Scope} {ts vs : List Expr} {ns : List Str} (h : swst sc ts vs = some (some ns)) : (ts.length = 2 ∨ ts.length = 3) ∧ vs.length = ts.length ∧ ∃ xs : List (Str × Pos), ts = xs.map (fun p => .Name p.1 p.2) ∧ ns = xs.map (·.1) ∧ ∀ p ∈ xs, sc.names.lookup p.1 = some .local := by
  unfold swst at h
  split at h
  · cases h
  · rename_i z
    split at h
    · cases h
    · dsimp only at h
      split at h
      · cases h
      · rename_i z3
        split at h
        · cases h
        · split at h
          · cases h
          · have hn : ns = ts.filterMap (nmOf sc ((ts.head?.map (·.pos.line)).getD 0)) := by cases h; rfl
            simp only [Bool.or_eq_true, Bool.not_eq_true', Bool.or_eq_false_iff, not_or, beq_eq_false_iff_ne, bne_iff_ne, ne_eq, Decidable.not_not] at z
            have z3' : ¬ ((ts.filterMap (nmOf sc ((ts.head?.map (·.pos.line)).getD 0))).length != ts.length || (ts.filterMap (nmOf sc ((ts.head?.map (·.pos.line)).getD 0))).eraseDups.length != (ts.filterMap (nmOf sc ((ts.head?.map (·.pos.line)).getD 0))).length) = true := z3
            have hl : (ts.filterMap (nmOf sc ((ts.head?.map (·.pos.line)).getD 0))).length = ts.length := by
              simp only [Bool.or_eq_true, bne_iff_ne, ne_eq, not_or, Decidable.not_not] at z3'
              exact z3'.1
            obtain ⟨xs, h1, h2, h3⟩ := names_of hl
            refine ⟨?_, z.2, xs, h1, hn.trans h2, h3⟩
            obtain ⟨z1, _⟩ := z
            by_cases y : ts.length = 2
            · exact .inl y
            · exact .inr (Classical.byContradiction fun w => z1 ⟨y, w⟩)
theorem mNms_get {cel : Bool} {N : List Str} {sc : Scope} : ∀ {is : List Nat} {xs : List (Str × Pos)}, mNms cel N sc is (xs.map fun p => .Name p.1 p.2) = true → is.length = xs.length ∧ ∀ (j i : Nat) (p : Str × Pos), is[j]? = some i → xs[j]? = some p → N[i]? = some p.1
  | [], [], _ => ⟨rfl, fun j i p h => by simp at h⟩
  | i :: is, x :: xs, h => by
    obtain ⟨h1, h2⟩ := and2 (show (mNm cel N sc i (.Name x.1 x.2) && mNms cel N sc is (xs.map fun p => .Name p.1 p.2)) = true from h)
    obtain ⟨q1, q2⟩ := mNms_get h2
    refine ⟨by simp [q1], fun j i' p w1 w2 => ?_⟩
    cases j with
    | zero =>
      simp at w1 w2
      subst w1 w2
      exact of_decide_eq_true (and2 (show (decide (N[i]? = some x.1) && stoB cel sc x.1) = true from h1)).1
    | succ j => exact q2 j i' p (by simpa using w1) (by simpa using w2)
  | [], _ :: _, h => by cases h
  | _ :: _, [], h => by cases h
theorem par_post {fr : Bool} {is : List Nat} {σ : L2.St} {H : Hp} {e : Ev} {D : Ends} {Q : List V → Hp → Prop} (he : EnvOk c H σ e) (q : PostS c fr σ H e (exS c.cl (.par is k a) e) D)
    (qq : ∀ ds vs H1 e2, Same H H1 → EnvOk c H1 σ (clrE k e) → RepL c.tb c.K H1 (AV c.Xs (clrE k e) σ) ds vs → setAll is ds (clrE k e) = .ok e2 → (∀ σ1, Bnd c H1 is (clrE k e) σ e2 σ1 → D.nx σ1 H1) → Q vs H1) : tXL c .share a σ H Q := by
  obtain ⟨he1, hs⟩ := he.clr k
  have q' : PostS c fr σ H e (outR ((evL c.cl false a (clrE k e)).bind fun ds => setAll is ds (clrE k e)) (clrE k e) .nx) D := q
  rw [outR_bind] at q'
  refine ⟨clrE k e, he1, outR_postL (m := .share) q' he1 hs fun ds vs H1 _ s r q2 => ?_⟩
  cases z : setAll is ds (clrE k e) with
  | bad => rw [z] at q2; exact q2.elim
  | exc n => exact absurd z unp_post.setAll_ne
  | ok e2 =>
    rw [z] at q2
    exact qq ds vs H1 e2 s (he1.same s) r z fun σ1 B => q2 σ1 H1 ⟨fun b o z _ => s b o z, fun b z => .inl (hs b (B.own b z))⟩ B.env
theorem rule_par (o : SOk cc X c) (hh : cc.hot = false) {fr : Bool} {is : List Nat} {ts vs : List Expr} {kt kv : Nat} {pt pv : Pos} (ht : mNms true cc.N cc.sc is ts = true) (hnd : is.Nodup) (hl : vs.length = is.length) (hl2 : vs.length < 1000) (hm : mL cc a vs = true)
    (hw : ∃ r, swst cc.sc ts vs = some r) : PS X (.Assign [.Tuple ts kt pt] (.Tuple vs kv pv) pos) (tSx c fr (.par is k a)) := by
  obtain ⟨r, hr⟩ := hw
  have qL := (se a).L o.x hm
  have hsw : swappedStores [.Tuple ts kt pt] (.Tuple vs kv pv) X.env = pure r := swst_eq o.kindX (by rw [o.x.sc]; exact hr)
  cases r with
  | none =>
    have hg : PG X (.Tuple ts kt pt) (gAny X.K is.length (gNames is)) := by
      obtain ⟨w1, w2, w3⟩ := o.nok.pgs ht
      exact pg_or (pg_tup (o.x.calm hh) w1 w2 w3) (pg_lst (o.x.calm hh) w1 w2 w3)
    rw [← o.x.K] at hg
    have P := rule_tup (k := kv) (pos := pv) o.x (fun ds e hd => by rw [qL.2.2.2.1 _ _ _ _ hd]; exact hl2) qL.2.1
    refine ps_weak (ps_asg P.share hg rfl hsw) fun D σ H ⟨e, he, q⟩ => ?_
    obtain ⟨he1, hs⟩ := he.clr k
    have q' : PostS c fr σ H e (outR ((evL c.cl false a (clrE k e)).bind fun ds => setAll is ds (clrE k e)) (clrE k e) .nx) D := q
    refine ⟨clrE k e, he1, ?_⟩
    show Post c .share σ H (clrE k e) ((evL c.cl false a (clrE k e)).bind fun ds => .ok (.tup ds)) _
    rw [outR_bind] at q'
    cases z : evL c.cl false a (clrE k e) with
    | bad => rw [z] at q'; exact q'.elim
    | exc n => rw [z] at q'; exact fun H1 s => q' σ H1 ⟨fun b o z _ => s b o z, fun b z => .inl (hs b z)⟩ (he1.same s)
    | ok ds =>
      rw [z] at q'
      intro v H1 s r
      have q2 : PostS c fr σ H e (outR (setAll is ds (clrE k e)) (clrE k e) .nx) D := q'
      cases z2 : setAll is ds (clrE k e) with
      | bad => rw [z2] at q2; exact q2.elim
      | exc n => exact absurd z2 unp_post.setAll_ne
      | ok e2 =>
        rw [z2] at q2
        exact gAny_tup (he1.same s) (show Rep c.tb c.K H1 (AV c.Xs (clrE k e) σ) (.tup ds) v from r) z2 fun σ1 B => q2 σ1 H1 ⟨fun b o z _ => s b o z, fun b z => .inl (hs b (B.own b z))⟩ B.env
  | some ns =>
    obtain ⟨h23, hlen, xs, et, en, hloc⟩ := swst_names hr
    subst et en
    obtain ⟨q1, q2⟩ := mNms_get ht
    have loc : ∀ p ∈ xs, X.env.scope.names.lookup p.1 = some .local := fun p hp => by rw [o.x.sc]; exact hloc p hp
    rw [List.length_map] at h23 hlen
    rcases h23 with h2 | h3
    · match xs, is, vs, h2, q1, hlen with
      | [x, y], [i, j], [a1, b1], _, _, _ =>
        have ij : i ≠ j := by simpa using hnd
        have hps : PS X (.Assign [.Tuple [.Name x.1 x.2, .Name y.1 y.2] kt pt] (.Tuple [a1, b1] kv pv) pos) (tPar i j (tXL c .share a)) :=
          ps_par (o.x.calm hh) o.nd (o.x.slot (q2 0 i x rfl rfl)) (o.x.slot (q2 1 j y rfl rfl)) ij (loc x (by simp)) (loc y (by simp)) qL.2.1 hsw rfl
        refine ps_weak hps fun D σ H ⟨e, he, q⟩ => ?_
        refine par_post he q fun ds vs H1 e2 s he1 r z kk => ?_
        obtain ⟨va, ra, ea, w⟩ := names_ok (Q := fun σ1 _ => Bnd c H1 [i, j] (clrE k e) σ e2 σ1) he1 r z fun σ1 B => B
        obtain ⟨vb, rb, eb, w⟩ := w
        obtain ⟨ed, w⟩ := w
        subst ed eb ea
        exact ⟨va, vb, rfl, kk _ w⟩
    · match xs, is, vs, h3, q1, hlen with
      | [x, y, z0], [i, j, l], [a1, b1, c1], _, _, _ =>
        have nd : i ≠ j ∧ i ≠ l ∧ j ≠ l := by
          simp at hnd
          exact ⟨hnd.1.1, hnd.1.2, hnd.2⟩
        have hps : PS X (.Assign [.Tuple [.Name x.1 x.2, .Name y.1 y.2, .Name z0.1 z0.2] kt pt] (.Tuple [a1, b1, c1] kv pv) pos) (tPar3 i j l (tXL c .share a)) :=
          ps_par3 (o.x.calm hh) o.nd (o.x.slot (q2 0 i x rfl rfl)) (o.x.slot (q2 1 j y rfl rfl)) (o.x.slot (q2 2 l z0 rfl rfl)) nd.1 nd.2.1 nd.2.2 (loc x (by simp)) (loc y (by simp)) (loc z0 (by simp)) qL.2.1 hsw rfl
        refine ps_weak hps fun D σ H ⟨e, he, q⟩ => ?_
        refine par_post he q fun ds vs H1 e2 s he1 r z kk => ?_
        obtain ⟨va, ra, ea, w⟩ := names_ok (Q := fun σ1 _ => Bnd c H1 [i, j, l] (clrE k e) σ e2 σ1) he1 r z fun σ1 B => B
        obtain ⟨vb, rb, eb, w⟩ := w
        obtain ⟨vc, rc, ec, w⟩ := w
        obtain ⟨ed, w⟩ := w
        subst ed ec eb ea
        exact ⟨va, vb, vc, rfl, kk _ w⟩
end
end VE
set_option maxHeartbeats 2000000
namespace VE
open PySem PySem.Spec PyProof.Rows L2
section
variable {cc : CC} {X : Cx} {c : Fx} {a b : T} {i : Nat} {k : List Nat} {pos : Pos} {ex : Expr}
theorem shV_ok {e : Ev} {d : D} (h : shV e i = .ok d) : e[i]? = some (.val d false) := by
  unfold shV at h
  split at h
  · cases h; assumption
  · cases h
theorem shV_ne {e : Ev} {n : Nat} : shV e i ≠ .exc n := by
  unfold shV
  split <;> first | exact ok_ne | exact bad_ne
theorem ownL_ok {e : Ev} {ds : List D} (h : ownL e i = .ok ds) : e[i]? = some (.val (.lst ds) true) := by
  unfold ownL at h
  split at h
  · cases h; assumption
  · cases h
theorem ownL_ne {e : Ev} {n : Nat} : ownL e i ≠ .exc n := by
  unfold ownL
  split <;> first | exact ok_ne | exact bad_ne
theorem dAug_ne {op : Operator} {x y : D} {n : Nat} : dAug op x y ≠ .exc n := by
  unfold dAug
  split <;> first | exact ok_ne | exact bad_ne
theorem rule_aug (o : SOk cc X c) {fr : Bool} {op : Operator} {x : Str} {px : Pos} (hi : cc.N[i]? = some x) (hst : stoB true cc.sc x = true) (hop : op = .Add ∨ op = .Sub) (hm : mE cc a ex = true) : PS X (.AugAssign (.Name x px) op ex pos) (tSx c fr (.aug i op k a)) := by
  have P := ((se a).E o.x hm).1.look
  have main : ∀ {f : Int → Int → Int}, PIp X op (ipI f) → (∀ x y, dAug op x y ≠ .bad → ∃ i j, x = .int i ∧ y = .int j ∧ dAug op x y = .ok (.int (f i j))) → PS X (.AugAssign (.Name x px) op ex pos) (tSx c fr (.aug i op k a)) := fun {f} hip hd => by
    refine ps_weak (ps_aug o.nd (o.x.slot hi) (o.loc hst) P hip (.inl (o.fnn x))) fun D σ H ⟨e, he, q⟩ => ?_
    obtain ⟨he1, hs⟩ := he.clr k
    have q' : PostS c fr σ H e (outR ((shV (clrE k e) i).bind fun x => (evX c.cl true a (clrE k e)).bind fun y => dAug op x y) (clrE k e) fun d => .nx ((clrE k e).set i (.val d false))) D := q
    rw [outR_bind] at q'
    cases z : shV (clrE k e) i with
    | bad => rw [z] at q'; exact q'.elim
    | exc n => exact absurd z shV_ne
    | ok d1 =>
      rw [z] at q'
      obtain ⟨v1, r1, r2⟩ := he1.val i d1 (shV_ok z)
      refine ⟨v1, r1, clrE k e, he1, ?_⟩
      have q2 : PostS c fr σ H e (outR ((evX c.cl true a (clrE k e)).bind fun y => dAug op d1 y) (clrE k e) fun d => .nx ((clrE k e).set i (.val d false))) D := q'
      rw [outR_bind] at q2
      refine outR_post (m := .look) q2 he1 hs fun d2 v2 H1 _ s rr q3 => ?_
      by_cases hb : dAug op d1 d2 = .bad
      · rw [hb] at q3; exact q3.elim
      · obtain ⟨n, m, e1, e2, e3⟩ := hd d1 d2 hb
        subst e1 e2
        rw [e3] at q3
        cases (show v1 = .int n from r2)
        refine ⟨n, m, rfl, rr.look.int, q3 _ H1 ⟨fun b o z _ => s b o z, fun b z => .inl (hs b (own_sub (s := .val _ false) (fun _ z => nomatch z) z))⟩ ((he1.same s).put ⟨_, rfl, rfl⟩)⟩
  rcases hop with rfl | rfl
  · refine main ip_add fun x y h => ?_
    cases x <;> first | exact absurd rfl h | skip
    cases y <;> first | exact absurd rfl h | skip
    exact ⟨_, _, rfl, rfl, rfl⟩
  · refine main ip_sub fun x y h => ?_
    cases x <;> first | exact absurd rfl h | skip
    cases y <;> first | exact absurd rfl h | skip
    exact ⟨_, _, rfl, rfl, rfl⟩
theorem sub_assign {o i : Expr} {p : Pos} (h : isSlice i = false) (env : Env) (v : Value) : assign (.Subscript o i p) env v = (do
      let ov ← holding [v] (eval o env)
      let iv ← holding [v, ov] (eval i env)
      standAt p
      holding [v, ov, iv] (setItem ov iv v)
      release [v, ov, iv] []) := by
  cases i <;> first | rfl | cases h
theorem rule_setix (o : SOk cc X c) {fr : Bool} {x : Str} {px sp : Pos} {ie : Expr} (hn : noComp ex = true) (hsl : isSlice ie = false) (hi : cc.N[i]? = some x) (hv : visB cc.sc x = true) (hd : dbg x = false) (hx : mE cc b ie = true) (hm : mE cc a ex = true) :
    PS X (.Assign [.Subscript (.Name x px) ie sp] ex pos) (tSx c fr (.setix i k b a)) := by
  have hO := pe_var (X := X) (pos := px) (o.x.slot hi) (o.x.vis hv) (dbg_no hd).1 (dbg_no hd).2
  refine ps_weak (ps_asg ((se a).E o.x hm).1.share (pg_sub hO ((se b).E o.x hx).1.look set_list (fun v => sub_assign hsl _ v)) (show swapsWith ex (some (.Subscript (.Name x px) ie sp)) pos.line X.env = pure false from sw_no hn) (show swappedStores [.Subscript (.Name x px) ie sp] ex X.env = pure none from rfl) rfl) fun D σ H ⟨e, he, q⟩ => ?_
  obtain ⟨he1, hs⟩ := he.clr k
  have q' : PostS c fr σ H e (outR ((evX c.cl false a (clrE k e)).bind fun d => (ownL (clrE k e) i).bind fun ds => (asInt (evX c.cl true b (clrE k e))).bind fun j => (rOpt (ixN ds.length j)).bind fun n => .ok (ds.set n d)) (clrE k e) fun ds => .nx ((clrE k e).set i (.val (.lst ds) true))) D := q
  rw [outR_bind] at q'
  refine ⟨clrE k e, he1, outR_post (m := .share) q' he1 hs fun d v H1 _ s r q2 => ?_⟩
  rw [outR_bind] at q2
  cases z : ownL (clrE k e) i with
  | bad => rw [z] at q2; exact q2.elim
  | exc n => exact absurd z ownL_ne
  | ok ds =>
    rw [z] at q2
    have q3 : PostS c fr σ H e (outR ((asInt (evX c.cl true b (clrE k e))).bind fun j => (rOpt (ixN ds.length j)).bind fun n => .ok (ds.set n d)) (clrE k e) fun ds => .nx ((clrE k e).set i (.val (.lst ds) true))) D := q2
    rw [outR_bind] at q3
    have he2 := he1.same s
    obtain ⟨p, r1, r2, vs, r3, r4⟩ := he2.own i _ (ownL_ok z)
    refine ⟨.ref p, r1, clrE k e, he2, ?_⟩
    show Post c .look σ H1 (clrE k e) (evX c.cl true b (clrE k e)) _
    cases zi : evX c.cl true b (clrE k e) with
    | bad => rw [zi] at q3; exact q3.elim
    | exc n =>
      rw [zi] at q3
      intro H2 s2
      exact q3 σ H2 ⟨fun b o z _ => s2 b o (s b o z), fun b z => .inl (hs b z)⟩ (he2.same s2)
    | ok dj =>
      rw [zi] at q3
      intro vj H2 s2 rj
      cases dj with
      | int j =>
        have q4 : PostS c fr σ H e (outR ((rOpt (ixN ds.length j)).bind fun n => .ok (ds.set n d)) (clrE k e) fun ds => .nx ((clrE k e).set i (.val (.lst ds) true))) D := q3
        cases zx : ixN ds.length j with
        | none => rw [zx] at q4; exact q4.elim
        | some n =>
          rw [zx] at q4
          have he3 := he2.same s2
          have r3' := s2 p _ r3
          refine ⟨p, vs, j, n, rfl, rj.look.int, r3', by rw [r4.length]; exact zx, ?_⟩
          obtain ⟨w1, w2⟩ := he3.mutL (ownL_ok z) r1 (RepL.set (Rep.evo (Evo.same s2) (show Rep c.tb c.K H1 (AV c.Xs (clrE k e) σ) d v from r)) n (r4.evo (Evo.same s2)))
          refine q4 σ _ (Evo.trans ⟨fun b o z _ => s2 b o (s b o z), fun b z => .inl (hs b z)⟩ w2) w1
      | _ => exact q3.elim
theorem few_lt {es : List Expr} (h : few es = true) : es.length < 25 := of_decide_eq_true h
def muN : Bm → Str
  | .lappend => "append" | .lextend => "extend" | .linsert => "insert" | .lpop => "pop" | _ => ""
theorem dMut_ne {m : Bm} {ds xs : List D} {n : Nat} : dMut m ds xs ≠ .exc n := by
  unfold dMut
  split <;> first | exact bad_ne | exact ite_ne ok_ne bad_ne | skip
  · refine ite_ne ?_ bad_ne
    split
    · split <;> first | exact ok_ne | exact bad_ne
    · exact bad_ne
theorem rule_mut (o : SOk cc X c) {fr : Bool} {m : Bm} {x : Str} {px ap p : Pos} {e0 : Expr} {er : List Expr} (hmm : m = .lappend ∨ m = .lextend ∨ m = .linsert ∨ m = .lpop) (hl : (ap.endLine == p.line) = true) (hf : few (e0 :: er) = true)
    (hi : cc.N[i]? = some x) (hv : visB cc.sc x = true) (hd : dbg x = false) (hm : mL cc a (e0 :: er) = true) : PS X (.Expr (.Call (.Attribute (.Name x px) (muN m) ap) (e0 :: er) [] p) pos) (tSx c fr (.mut m i k a)) := by
  have hO := pe_var (X := X) (pos := px) (o.x.slot hi) (o.x.vis hv) (dbg_no hd).1 (dbg_no hd).2
  have qL := (se a).L o.x hm
  obtain ⟨n1, n2⟩ := noStars_cons qL.2.2.1
  have key : ∀ {r : V → List V → Hp → VK → Prop} {md : Md}, lk md = isExt m → (∀ (p : Addr) (vs : List V) (us : List V) (ds xs : List D) (pr : D × List D) (H2 : Hp) (A : Addr → Prop) (Q : VK), H2 p = some (.lst vs) → RepL c.tb c.K H2 A ds vs → RepLM c.tb c.K md H2 A xs us → dMut m ds xs = .ok pr →
      (∀ w vs', RepL c.tb c.K H2 A pr.2 vs' → Q w (upd H2 p (.lst vs'))) → r (.ref p) us H2 Q) → ∀ D σ H, tSx c fr (.mut m i k a) D σ H → tDrop (tBM X.K "list" r (tVar i) (tXL c md a)) D σ H := fun {r md} hmd hr D σ H ⟨e, he, q⟩ => by
    obtain ⟨he1, hs⟩ := he.clr k
    have q' : PostS c fr σ H e (outR ((ownL (clrE k e) i).bind fun ds => (evL c.cl (isExt m) a (clrE k e)).bind fun xs => dMut m ds xs) (clrE k e) fun p => .nx ((clrE k e).set i (.val (.lst p.2) true))) D := q
    rw [outR_bind] at q'
    cases z : ownL (clrE k e) i with
    | bad => rw [z] at q'; exact q'.elim
    | exc n => exact absurd z ownL_ne
    | ok ds =>
      rw [z] at q'
      have q2 : PostS c fr σ H e (outR ((evL c.cl (isExt m) a (clrE k e)).bind fun xs => dMut m ds xs) (clrE k e) fun p => .nx ((clrE k e).set i (.val (.lst p.2) true))) D := q'
      rw [outR_bind] at q2
      obtain ⟨p0, r1, r2, vs, r3, r4⟩ := he1.own i _ (ownL_ok z)
      refine ⟨.ref p0, r1, .inl ⟨rfl, vs, SqL.of r3⟩, clrE k e, he1, ?_⟩
      rw [hmd]
      refine outR_postL (m := md) q2 he1 hs fun xs us H1 _ s rr q3 => ?_
      cases zd : dMut m ds xs with
      | bad => rw [zd] at q3; exact q3.elim
      | exc n => exact absurd zd dMut_ne
      | ok pr =>
        rw [zd] at q3
        refine hr p0 vs us ds xs pr H1 (AV c.Xs (clrE k e) σ) _ (s p0 _ r3) (r4.evo (Evo.same s)) rr zd fun _ vs' rv => ?_
        obtain ⟨w1, w2⟩ := (he1.same s).mutL (ownL_ok z) r1 rv
        exact q3 σ _ (Evo.trans ⟨fun b o z _ => s b o z, fun b z => .inl (hs b z)⟩ w2) w1
  have szl : ∀ n, n < SZ → n < sizeLine := fun n h => by rw [← sz_eq]; exact h
  rcases hmm with rfl | rfl | rfl | rfl
  · refine ps_weak (ps_expr (pe_bm PySem.F.plainAttrs_list PySem.F.slot_list_append PySem.F.type_list_append mt_append hO qL.2.1 rfl (few_ok qL.2.2.1 hf) hl (star_of n1 _ _) (back_any n2)) rfl) (key (md := .share) rfl ?_)
    intro p vs us ds xs pr H2 A Q h1 h2 h3 h4 h5
    have h3' : RepL c.tb c.K H2 A xs us := h3
    match xs, h4, h3' with
    | [x1], h4, h3' =>
      obtain ⟨u1, ur, e1, ru, rn⟩ := (show ∃ v r, us = v :: r ∧ Rep c.tb c.K H2 A x1 v ∧ RepL c.tb c.K H2 A [] r from h3')
      cases (show ur = [] from rn)
      subst e1
      have h4' : (if ds.length < SZ then R.ok (D.non, ds ++ [x1]) else .bad) = .ok pr := h4
      split at h4'
      · rename_i hlt
        cases h4'
        exact ⟨p, vs, u1, rfl, rfl, h1, szl _ (by rw [h2.length]; exact hlt), h5 _ _ ((RepL.cons ru .nil).append h2)⟩
      · cases h4'
    | [], h4, _ => cases h4
    | _ :: _ :: _, h4, _ => cases h4
  · refine ps_weak (ps_expr (pe_bm PySem.F.plainAttrs_list PySem.F.slot_list_extend PySem.F.type_list_extend mt_extend hO qL.1 rfl (few_ok qL.2.2.1 hf) hl (star_of n1 _ _) (back_any n2)) rfl) (key (md := .look) rfl ?_)
    intro p vs us ds xs pr H2 A Q h1 h2 h3 h4 h5
    match xs, h4, h3 with
    | [.lst zs], h4, h3 =>
      obtain ⟨u1, e1, ru⟩ := p1 h3
      subst e1
      obtain ⟨p2, ws, e2, g1, g2⟩ := ru.lst
      subst e2
      have h4' : (if ds.length + zs.length ≤ SZ then R.ok (D.non, ds ++ zs) else .bad) = .ok pr := h4
      split at h4'
      · rename_i hlt
        cases h4'
        exact ⟨p, p2, vs, ws, rfl, rfl, h1, g1, by rw [h2.length, g2.length, ← sz_eq]; exact hlt, h5 _ _ (g2.append h2)⟩
      · cases h4'
    | [], h4, _ => cases h4
    | .non :: _, h4, _ => cases h4
    | .bl _ :: _, h4, _ => cases h4
    | .int _ :: _, h4, _ => cases h4
    | .str _ :: _, h4, _ => cases h4
    | .tup _ :: _, h4, _ => cases h4
    | .frz _ :: _, h4, _ => cases h4
    | .obj _ _ _ :: _, h4, _ => cases h4
    | .dct _ _ :: _, h4, _ => cases h4
    | .lst _ :: _ :: _, h4, _ => cases h4
  · refine ps_weak (ps_expr (pe_bm PySem.F.plainAttrs_list PySem.F.slot_list_insert PySem.F.type_list_insert mt_insert hO qL.2.1 rfl (few_ok qL.2.2.1 hf) hl (star_of n1 _ _) (back_any n2)) rfl) (key (md := .share) rfl ?_)
    intro p vs us ds xs pr H2 A Q h1 h2 h3 h4 h5
    have h3' : RepL c.tb c.K H2 A xs us := h3
    match xs, h4, h3' with
    | [.int j, x1], h4, h3' =>
      obtain ⟨u0, ur, e1, r0, rn⟩ := (show ∃ v r, us = v :: r ∧ Rep c.tb c.K H2 A (.int j) v ∧ RepL c.tb c.K H2 A [x1] r from h3')
      obtain ⟨u1, ur2, e2, r1, rn2⟩ := (show ∃ v r, ur = v :: r ∧ Rep c.tb c.K H2 A x1 v ∧ RepL c.tb c.K H2 A [] r from rn)
      cases (show ur2 = [] from rn2)
      cases (show u0 = .int j from r0)
      subst e1 e2
      have h4' : (if ds.length < SZ ∧ 0 ≤ j ∧ j < 2 ^ 63 then R.ok (D.non, ds.take j.toNat ++ [x1] ++ ds.drop j.toNat) else .bad) = .ok pr := h4
      split at h4'
      · rename_i hlt
        cases h4'
        exact ⟨p, vs, j, u1, rfl, rfl, h1, szl _ (by rw [h2.length]; exact hlt.1), hlt.2.1, hlt.2.2, h5 _ _ ((h2.drop _).append ((RepL.cons r1 .nil).append (h2.take _)))⟩
      · cases h4'
    | [], h4, _ => cases h4
    | [.non, _], h4, _ => cases h4
    | [.bl _, _], h4, _ => cases h4
    | [.str _, _], h4, _ => cases h4
    | [.tup _, _], h4, _ => cases h4
    | [.lst _, _], h4, _ => cases h4
    | [.frz _, _], h4, _ => cases h4
    | [.obj _ _ _, _], h4, _ => cases h4
    | [.dct _ _, _], h4, _ => cases h4
    | [d], h4, _ => cases d <;> cases h4
    | d :: _ :: _ :: _, h4, _ => cases d <;> cases h4
  · refine ps_weak (ps_expr (pe_bm PySem.F.plainAttrs_list PySem.F.slot_list_pop PySem.F.type_list_pop mt_popAt hO qL.2.1 rfl (few_ok qL.2.2.1 hf) hl (star_of n1 _ _) (back_any n2)) rfl) (key (md := .share) rfl ?_)
    intro p vs us ds xs pr H2 A Q h1 h2 h3 h4 h5
    have h3' : RepL c.tb c.K H2 A xs us := h3
    match xs, h4, h3' with
    | [.int j], h4, h3' =>
      obtain ⟨u0, ur, e1, r0, rn⟩ := (show ∃ v r, us = v :: r ∧ Rep c.tb c.K H2 A (.int j) v ∧ RepL c.tb c.K H2 A [] r from h3')
      cases (show ur = [] from rn)
      cases (show u0 = .int j from r0)
      subst e1
      have h4' : (if -(2 ^ 63) ≤ j ∧ j < 2 ^ 63 then (match seqIndex? j ds.length with
        | some k => (match ds[k]? with
          | some d => R.ok (d, ds.eraseIdx k)
          | none => .bad)
        | none => .bad) else .bad) = .ok pr := h4
      split at h4'
      · rename_i hlt
        cases hk : seqIndex? j ds.length with
        | none => rw [hk] at h4'; cases h4'
        | some k =>
          rw [hk] at h4'
          have h4'' : (match ds[k]? with
            | some d => R.ok (d, ds.eraseIdx k)
            | none => .bad) = .ok pr := h4'
          cases hd' : ds[k]? with
          | none => rw [hd'] at h4''; cases h4''
          | some d =>
            rw [hd'] at h4''
            cases h4''
            obtain ⟨y, hy, _⟩ := h2.get hd'
            refine ⟨p, vs, j, k, y, rfl, rfl, h1, hlt.1, hlt.2, by rw [h2.length]; exact hk, hy, h5 _ _ ?_⟩
            show RepL c.tb c.K H2 A (ds.eraseIdx k) (vs.eraseIdx k)
            rw [List.eraseIdx_eq_take_drop_succ, List.eraseIdx_eq_take_drop_succ]
            exact (h2.drop _).append (h2.take _)
      · cases h4'
    | [], h4, _ => cases h4
    | [.non], h4, _ => cases h4
    | [.bl _], h4, _ => cases h4
    | [.str _], h4, _ => cases h4
    | [.tup _], h4, _ => cases h4
    | [.lst _], h4, _ => cases h4
    | [.frz _], h4, _ => cases h4
    | [.obj _ _ _], h4, _ => cases h4
    | [.dct _ _], h4, _ => cases h4
    | d :: _ :: _, h4, _ => cases d <;> cases h4
end
end VE
namespace VE
open PySem PySem.Spec PyProof.Rows L2
section
variable {tb : Tb} {K : PySem.W.Frag} {H : Hp} {A : Addr → Prop}
theorem putF_rep (nd : tb.fld.Nodup ∧ Str.empty ∉ tb.fld) {f : Nat} (hf : f < tb.fld.length) {x : D} {y : V} (rx : Rep tb K H A x y) : ∀ {fs : List Nat} {ds : List D} {gs : List (Str × V)}, gs.map (·.1) = fs.map (fNm tb) → RepL tb K H A ds (gs.map (·.2)) →
    (putF (fNm tb f) y gs).map (·.1) = (putFD f x fs ds).1.map (fNm tb) ∧ RepL tb K H A (putFD f x fs ds).2 ((putF (fNm tb f) y gs).map (·.2))
  | [], ds, gs, e, r => by
    have : gs = [] := by cases gs <;> first | rfl | cases e
    subst this
    have hd : ds = [] := by
      have := r.length
      exact List.eq_nil_of_length_eq_zero this.symm
    subst hd
    exact ⟨rfl, RepL.cons rx .nil⟩
  | g :: fs, ds, [], e, r => by cases e
  | g :: fs, ds, (n, v) :: gs, e, r => by
    have e1 : n = fNm tb g ∧ gs.map (·.1) = fs.map (fNm tb) := by
      have := e
      simp only [List.map_cons, List.cons.injEq] at this
      exact this
    obtain ⟨e1, e2⟩ := e1
    cases ds with
    | nil =>
      have := r.length
      simp at this
    | cons d ds =>
      obtain ⟨v', r', ev, r1, r2⟩ := (show ∃ v0 r0, v :: gs.map (·.2) = v0 :: r0 ∧ Rep tb K H A d v0 ∧ RepL tb K H A ds r0 from r)
      cases ev
      show (if n = fNm tb f then (n, y) :: gs else (n, v) :: putF (fNm tb f) y gs).map (·.1) = (if g = f then (g :: fs, x :: ds) else ((putFD f x fs ds).1.cons g, (putFD f x fs ds).2.cons d)).1.map (fNm tb) ∧ RepL tb K H A (if g = f then (g :: fs, x :: ds) else ((putFD f x fs ds).1.cons g, (putFD f x fs ds).2.cons d)).2 ((if n = fNm tb f then (n, y) :: gs else (n, v) :: putF (fNm tb f) y gs).map (·.2))
      by_cases hg : g = f
      · rw [if_pos hg, if_pos (by rw [e1, hg])]
        exact ⟨e, RepL.cons rx r2⟩
      · rw [if_neg hg, if_neg (by rw [e1]; exact fun z => hg (fNm_inj nd hf z))]
        obtain ⟨q1, q2⟩ := putF_rep nd hf rx e2 r2
        refine ⟨?_, RepL.cons r1 q2⟩
        show n :: (putF (fNm tb f) y gs).map (·.1) = fNm tb g :: (putFD f x fs ds).1.map (fNm tb)
        rw [e1, q1]
end
section
variable {cc : CC} {X : Cx} {c : Fx} {a b : T} {i f : Nat} {k : List Nat} {pos : Pos} {ex te : Expr} {body : List Stmt}
theorem putO_ok {fok : Nat → Nat → Bool} {x s s' : D} (h : putO fok f x s = .ok s') : ∃ c fs ds, s = .obj c fs ds ∧ fok c f = true ∧ fs.length < 900 ∧ s' = .obj c (putFD f x fs ds).1 (putFD f x fs ds).2 := by
  cases s with
  | obj c fs ds =>
    have h' : (if fok c f && decide (fs.length < 900) then R.ok (D.obj c (putFD f x fs ds).1 (putFD f x fs ds).2) else .bad) = .ok s' := h
    split at h'
    · rename_i z
      obtain ⟨z1, z2⟩ := and2 z
      cases h'
      exact ⟨c, fs, ds, rfl, z1, of_decide_eq_true z2, rfl⟩
    · cases h'
  | _ => cases h
theorem putO_ne {fok : Nat → Nat → Bool} {x s : D} {n : Nat} : putO fok f x s ≠ .exc n := by
  cases s <;> first | exact bad_ne | exact ite_ne ok_ne bad_ne
theorem fNm_at (o : XOk cc X c) {nm : Str} (h : cc.G.tb.fld[f]? = some nm) : fNm c.tb f = nm := by
  unfold fNm
  rw [o.tb, List.getD_eq_getElem?_getD, h]; rfl
theorem sto_fld (o : SOk cc X c) {H : Hp} {σ : L2.St} {e : Ev} {p : Addr} {kc : Nat} {fs : List Nat} {ds : List D} {x : D} {y : V} {dx : Addr} {gs : List (Str × V)} (he : EnvOk c H σ e) (hi : e[i]? = some (.val (.obj kc fs ds) true)) (ha : σ[i]? = some (some (.ref p))) (hf : c.cl.fok kc f = true)
    (h1 : H p = some (.ins (cAd c.tb c.K kc) dx gs)) (h2 : gs.map (·.1) = fs.map (fNm c.tb)) (h3 : RepL c.tb c.K H (AV c.Xs e σ) ds (gs.map (·.2))) (rx : Rep c.tb c.K H (AV c.Xs e σ) x y) :
    EnvOk c (upd H p (.ins (cAd c.tb c.K kc) dx (putF (fNm c.tb f) y gs))) σ (e.set i (.val (.obj kc (putFD f x fs ds).1 (putFD f x fs ds).2) true)) ∧ Evo (Own e σ) H (Own (e.set i (.val (.obj kc (putFD f x fs ds).1 (putFD f x fs ds).2) true)) σ) (upd H p (.ins (cAd c.tb c.K kc) dx (putF (fNm c.tb f) y gs))) := by
  have op : Own e σ p := ⟨i, _, hi, ha⟩
  obtain ⟨q1, q2⟩ := putF_rep o.x.fnd (o.x.fok kc f hf).2.2 rx h2 h3
  refine he.mutO hi ha ⟨fun b u hb n => by rw [upd_ne n]; exact hb, fun b z => .inl z⟩ ⟨dx, _, upd_same, q1, q2.evo ⟨fun b u hb n => by rw [upd_ne (fun z => n (by rw [z]; exact .inr op))]; exact hb, fun b z => .inl z⟩⟩
theorem rule_sfld (o : SOk cc X c) {fr : Bool} {nm xn : Str} {px ap : Pos} (hn : noComp ex = true) (hnm : cc.G.tb.fld[f]? = some nm) (hi : cc.N[i]? = some xn) (hv : visB cc.sc xn = true) (hd : dbg xn = false) (hm : mE cc a ex = true) :
    PS X (.Assign [.Attribute (.Name xn px) nm ap] ex pos) (tSx c fr (.sfld i f k a)) := by
  have hO := pe_var (X := X) (pos := px) (o.x.slot hi) (o.x.vis hv) (dbg_no hd).1 (dbg_no hd).2
  have en := fNm_at o.x hnm
  refine ps_weak (ps_fld hO ((se a).E o.x hm).1.share (sw_no hn)) fun D σ H ⟨e, he, q⟩ => ?_
  obtain ⟨he1, hs⟩ := he.clr k
  have q' : PostS c fr σ H e (outR ((evX c.cl false a (clrE k e)).bind fun d => (ownO (clrE k e) i).bind fun s => putO c.cl.fok f d s) (clrE k e) fun s => .nx ((clrE k e).set i (.val s true))) D := q
  rw [outR_bind] at q'
  refine ⟨clrE k e, he1, outR_post (m := .share) q' he1 hs fun d v H1 _ s r q2 => ?_⟩
  rw [outR_bind] at q2
  cases z : ownO (clrE k e) i with
  | bad => rw [z] at q2; exact q2.elim
  | exc n => exact absurd z ownO_ne
  | ok s0 =>
    rw [z] at q2
    have q3 : PostS c fr σ H e (outR (putO c.cl.fok f d s0) (clrE k e) fun s => .nx ((clrE k e).set i (.val s true))) D := q2
    cases z2 : putO c.cl.fok f d s0 with
    | bad => rw [z2] at q3; exact q3.elim
    | exc n => exact absurd z2 putO_ne
    | ok s1 =>
      rw [z2] at q3
      obtain ⟨kc, fs, ds, e1, f1, f2, e2⟩ := putO_ok z2
      subst e1 e2
      have he2 := he1.same s
      obtain ⟨w0, _⟩ := ownO_ok z
      obtain ⟨p, r1, r2, dx, gs, r3, r4, r5⟩ := he2.own i _ w0
      obtain ⟨c1, c2, c3⟩ := o.x.fok kc f f1
      obtain ⟨g1, g2⟩ := sto_fld o he2 w0 r1 f1 r3 r4 r5 (show Rep c.tb c.K H1 (AV c.Xs (clrE k e) σ) d v from r)
      refine ⟨.ref p, r1, p, _, dx, gs, rfl, r3, c1, by rw [← en]; exact c2, ?_, ?_⟩
      · have : gs.length = fs.length := by have := congrArg List.length r4; simpa using this
        omega
      · rw [← en]
        exact q3 σ _ (Evo.trans ⟨fun b o z _ => s b o z, fun b z => .inl (hs b z)⟩ g2) g1
theorem in_addI : InOp X .Add (fun x y H Q => ∃ i j, x = .int i ∧ y = .int j ∧ Q (.int (i + j)) H) := in_add
theorem rule_afld (o : SOk cc X c) {fr : Bool} {nm xn : Str} {px ap : Pos} (hnm : cc.G.tb.fld[f]? = some nm) (hi : cc.N[i]? = some xn) (hv : visB cc.sc xn = true) (hd : dbg xn = false) (hm : mE cc a ex = true) :
    PS X (.AugAssign (.Attribute (.Name xn px) nm ap) .Add ex pos) (tSx c fr (.afld i f .Add k a)) := by
  have hO := pe_var (X := X) (pos := px) (o.x.slot hi) (o.x.vis hv) (dbg_no hd).1 (dbg_no hd).2
  have en := fNm_at o.x hnm
  refine ps_weak (ps_fldaug hO ((se a).E o.x hm).1.look in_addI) fun D σ H ⟨e, he, q⟩ => ?_
  obtain ⟨he1, hs⟩ := he.clr k
  have q' : PostS c fr σ H e (outR ((ownO (clrE k e) i).bind fun s => (dFld c.cl.fok f s).bind fun x => (evX c.cl true a (clrE k e)).bind fun y => (dAug .Add x y).bind fun z => putO c.cl.fok f z s) (clrE k e) fun s => .nx ((clrE k e).set i (.val s true))) D := q
  rw [outR_bind] at q'
  cases z : ownO (clrE k e) i with
  | bad => rw [z] at q'; exact q'.elim
  | exc n => exact absurd z ownO_ne
  | ok s0 =>
    rw [z] at q'
    obtain ⟨w0, kc, fs, ds, es⟩ := ownO_ok z
    subst es
    obtain ⟨p, r1, r2, dx, gs, r3, r4, r5⟩ := he1.own i _ w0
    have q2 : PostS c fr σ H e (outR ((dFld c.cl.fok f (.obj kc fs ds)).bind fun x => (evX c.cl true a (clrE k e)).bind fun y => (dAug .Add x y).bind fun z => putO c.cl.fok f z (.obj kc fs ds)) (clrE k e) fun s => .nx ((clrE k e).set i (.val s true))) D := q'
    rw [outR_bind] at q2
    cases zf : dFld c.cl.fok f (.obj kc fs ds) with
    | bad => rw [zf] at q2; exact q2.elim
    | exc n => exact absurd zf dFld_ne
    | ok x0 =>
      rw [zf] at q2
      have zf' : (if c.cl.fok kc f then lookF f fs ds else R.bad) = .ok x0 := zf
      cases zk : c.cl.fok kc f with
      | false => rw [zk] at zf'; cases zf'
      | true =>
        rw [zk] at zf'
        obtain ⟨c1, c2, c3⟩ := o.x.fok kc f zk
        obtain ⟨v0, l1, l2⟩ := lookF_rep o.x.fnd c3 (show lookF f fs ds = .ok x0 from zf') r4 r5
        have q3 : PostS c fr σ H e (outR ((evX c.cl true a (clrE k e)).bind fun y => (dAug .Add x0 y).bind fun z => putO c.cl.fok f z (.obj kc fs ds)) (clrE k e) fun s => .nx ((clrE k e).set i (.val s true))) D := q2
        rw [outR_bind] at q3
        refine ⟨.ref p, r1, p, _, dx, gs, v0, rfl, r3, c1, by rw [← en]; exact c2, by rw [← en]; exact l1, clrE k e, he1, outR_post (m := .look) q3 he1 hs fun y v H1 _ s r q4 => ?_⟩
        have q5 : PostS c fr σ H e (outR ((dAug .Add x0 y).bind fun z => putO c.cl.fok f z (.obj kc fs ds)) (clrE k e) fun s => .nx ((clrE k e).set i (.val s true))) D := q4
        have hi2 : ∃ n m, x0 = .int n ∧ y = .int m := by
          cases x0 with
          | int n => cases y with
            | int m => exact ⟨n, m, rfl, rfl⟩
            | _ => exact q5.elim
          | _ => exact q5.elim
        obtain ⟨n, m, e1, e2⟩ := hi2
        subst e1 e2
        have q6 : PostS c fr σ H e (outR (putO c.cl.fok f (.int (n + m)) (.obj kc fs ds)) (clrE k e) fun s => .nx ((clrE k e).set i (.val s true))) D := q5
        cases zp : putO c.cl.fok f (.int (n + m)) (.obj kc fs ds) with
        | bad => rw [zp] at q6; exact q6.elim
        | exc n => exact absurd zp putO_ne
        | ok s1 =>
          rw [zp] at q6
          obtain ⟨kc', fs', ds', e1, f1, f2, e2⟩ := putO_ok zp
          cases e1
          subst e2
          have he2 := he1.same s
          have r3' := s p _ r3
          obtain ⟨g1, g2⟩ := sto_fld o he2 w0 r1 zk r3' r4 (r5.evo (Evo.same s)) (show Rep c.tb c.K H1 (AV c.Xs (clrE k e) σ) (.int (n + m)) (.int (n + m)) from rfl)
          refine ⟨n, m, l2, r.look.int, dx, gs, r3', ?_, ?_⟩
          · have : gs.length = fs.length := by have := congrArg List.length r4; simpa using this
            omega
          · rw [← en]
            exact q6 σ _ (Evo.trans ⟨fun b o z _ => s b o z, fun b z => .inl (hs b z)⟩ g2) g1
theorem evo_clr {e e1 e2 : Ev} {σ σ1 : L2.St} {H H1 : Hp} (hs : ∀ a, Own e1 σ a → Own e σ a) (ev : Evo (Own e1 σ) H (Own e2 σ1) H1) : Evo (Own e σ) H (Own e2 σ1) H1 := Evo.trans (Evo.less hs) ev
theorem outM_post {fr : Bool} {D : Ends} {H : Hp} {σ : L2.St} {e e1 : Ev} {r : RM VE.D} {kk : VE.D → Bool → Ev → Out} (h : PostS c fr σ H e (outM r kk) D) (hs : ∀ a, Own e1 σ a → Own e σ a) {Q : VK}
    (q : ∀ d f2 e2 v H1, Evo (Own e σ) H (Own e2 σ) H1 → RepQ c f2 (fun a => Own e σ a ∨ H a = none) H1 σ e2 d v → PostS c fr σ H e (kk d f2 e2) D → Q v H1) : PostMv c σ H e1 r Q := by
  cases r with
  | ok d f2 e2 =>
    refine fun v H1 ev rr => q d f2 e2 v H1 (evo_clr hs ev) ?_ h
    unfold RepQ at rr ⊢
    split
    · rename_i z
      rw [if_pos z] at rr
      obtain ⟨p, g1, g2, g3⟩ := rr
      exact ⟨p, g1, g2.imp (hs p) id, g3⟩
    · rename_i z
      rw [if_neg z] at rr
      exact rr
  | exc n e2 => exact fun H1 ev he => h σ H1 (evo_clr hs ev) he
  | bad => exact h
theorem rule_exM (o : SOk cc X c) {fr : Bool} (hn : noComp ex = true) (hm : mEM cc a ex = true) : PS X (.Expr ex pos) (tSx c fr (.exM k a)) := by
  refine ps_weak (ps_expr ((sm a).E o.x o.frf hm) (sw_no hn)) fun D σ H ⟨e, he, q⟩ => ?_
  obtain ⟨he1, hs⟩ := he.clr k
  have q' : PostS c fr σ H e (outM (evM c.cl a (clrE k e)) fun _ _ e1 => .nx e1) D := q
  exact ⟨clrE k e, he1, outM_post q' hs fun d f2 e2 v H1 ev rr qq => qq σ H1 ev rr.share.1⟩
theorem rule_retM (o : SOk cc X c) {fr : Bool} (hf : fr = false ∨ (borK k = true ∧ ∀ a, ¬ c.SA a)) (hm : mEM cc a ex = true) : PS X (.Return (some ex) pos) (tSx c fr (.retM k a)) := by
  refine ps_weak (ps_ret ((sm a).E o.x o.frf hm)) fun D σ H ⟨e, he, q⟩ => ?_
  obtain ⟨he1, hs⟩ := he.clr k
  have q' : PostS c fr σ H e (outM (evM c.cl a (clrE k e)) fun d f2 e1 => if borK k && !f2 && ownable d then .bad else .rt d e1) D := q
  refine ⟨clrE k e, he1, outM_post q' hs fun d f2 e2 v H1 ev rr qq => ?_⟩
  cases z : (borK k && !f2 && ownable d) with
  | true => rw [z] at qq; exact qq.elim
  | false =>
    rw [z] at qq
    refine qq v σ H1 ev rr.share.1 ?_
    rcases hf with hf | ⟨hb, hsa⟩
    · subst hf
      exact RepR.share rr.share.2
    · unfold RepR
      cases zo : ownable d with
      | false =>
        rw [if_neg (by rw [Bool.and_false]; exact Bool.false_ne_true)]
        exact rr.share.2
      | true =>
        rw [hb, zo] at z
        have zf : f2 = true := by cases f2 <;> simp_all
        subst zf
        cases fr with
        | false =>
          rw [if_neg (by simp)]
          exact rr.share.2
        | true =>
          rw [if_pos (by rfl)]
          unfold RepQ at rr
          rw [if_pos (by rw [zo]; rfl)] at rr
          obtain ⟨p, g1, g2, g3, g4, g5⟩ := rr
          exact ⟨p, g1, g2, fun b d' y => absurd y (hsa b), .inr g4, g5⟩
theorem rule_asgM (o : SOk cc X c) {fr ow : Bool} {x : Str} {px : Pos} (hi : cc.N[i]? = some x) (hst : stoB true cc.sc x = true) (hn : noComp ex = true) (hz : ow = true → (∀ a, ¬ c.SA a) ∨ i ≠ 0) (hm : mEM cc a ex = true) : PS X (.Assign [.Name x px] ex pos) (tSx c fr (.asgM i k ow a)) := by
  refine ps_weak (ps_set o.nd (o.x.slot hi) (o.loc hst) ((sm a).E o.x o.frf hm) (sw_no hn) (.inl (o.fnn x))) fun D σ H ⟨e, he, q⟩ => ?_
  obtain ⟨he1, hs⟩ := he.clr k
  have q' : PostS c fr σ H e (outM (evM c.cl a (clrE k e)) fun d f2 e1 => .nx (e1.set i (.val d (ow && f2 && ownable d)))) D := q
  refine ⟨clrE k e, he1, outM_post q' hs fun d f2 e2 v H1 ev rr qq => ?_⟩
  cases z : (ow && f2 && ownable d) with
  | false =>
    rw [z] at qq
    obtain ⟨g1, g2⟩ := rr.share
    exact qq (σ.set i (some v)) H1 (ev.trans (Evo.less fun b z => own_sub (s := .val d false) (fun _ z => nomatch z) z)) (g1.put ⟨v, rfl, g2⟩)
  | true =>
    rw [z] at qq
    obtain ⟨z1, z3⟩ := and2 z
    obtain ⟨z1, z2⟩ := and2 z1
    unfold RepQ at rr
    rw [if_pos (by rw [z2, z3]; rfl)] at rr
    obtain ⟨p, g1, g2, g3, g4, g5⟩ := rr
    subst g1
    obtain ⟨w1, w2⟩ := g4.own2 (i := i) (hz z1) g5 g3
    refine qq _ H1 ⟨ev.keep, fun b y => ?_⟩ w1
    rcases w2 b y with y | y
    · exact ev.old b y
    · rw [y]; exact g2
theorem rule_forM (o : SOk cc X c) (hh : cc.hot = false) {fr : Bool} {tg : List Nat} {tup : Bool} (ht : mTg true cc.N cc.sc tg tup te = true) (hT : isTupE ex = true) (hm : mEM cc a ex = true) (hx : PSs X body (tSx c fr b)) : PS X (.For te ex body [] pos) (tSx c fr (.forM k tg tup a b)) := by
  have hg := o.nok.tg (o.x.calm hh) ht
  rw [← o.x.K] at hg
  have hp := pi_tup (tg := te) ((sm a).E o.x o.frf hm)
  rw [← o.x.K] at hp
  refine ps_weak (ps_for o.pas (o.x.calm hh) hp hg hx (folded (by cases ex <;> first | rfl | cases hT) _)) fun D σ H ⟨e, he, q⟩ => ?_
  obtain ⟨he1, hs⟩ := he.clr k
  have q' : PostS c fr σ H e (outM (evM c.cl a (clrE k e)) fun d _ e1 => outR (tupOf d) e1 fun ds => forL (fun d e1 => outR (bindT tg tup d e1) e1 fun e2 => exS c.cl b e2) ds e1) D := q
  refine ⟨clrE k e, he1, outM_post q' hs fun d f2 e1 v H1 ev1 rr q2 => ?_⟩
  obtain ⟨he2, rd⟩ := rr.share
  cases d with
  | tup ds =>
    have q2' : PostS c fr σ H e (forL (fun d e1 => outR (bindT tg tup d e1) e1 fun e2 => exS c.cl b e2) ds e1) D := q2
    obtain ⟨p, vs, ep, r, hsq⟩ := srcT (w := false) (show RepM c.tb c.K (wMd false) H1 H1 (AV c.Xs e1 σ) (.tup ds) v from rd)
    have hJ := it_tup (w := false) r hsq
    refine ⟨p, ep, ⟨vs, hsq _ _ ⟨Evo.refl, fun _ => Same.refl⟩⟩, ?_⟩
    have q3 := PostS.trans ev1 q2'
    clear q q' q2 q2'
    generalize hb : (fun d e1 => outR (bindT tg tup d e1) e1 fun e2 => exS c.cl b e2) = bd at q3
    generalize hoo : forL bd ds e1 = oo at q3
    have nb : oo ≠ .bad := fun z => by rw [z] at q3; exact q3
    refine ⟨fun n m σ2 H2 => m = ds.length - n ∧ n ≤ ds.length ∧ ∃ e2, EnvOk c H2 σ2 e2 ∧ Evo (Own e1 σ) H1 (Own e2 σ2) H2 ∧ forL bd (ds.drop n) e2 = oo, ⟨ds.length, by simp, Nat.zero_le _, e1, he2, Evo.refl, hoo⟩, ?_⟩
    rintro n m σ2 H2 ⟨rfl, hn, e2, he3, ev, hf⟩
    have lat : Lat false (AV c.Xs e1 σ) H1 (AV c.Xs e2 σ2) H2 := ⟨Evo.or ev, fun z => nomatch z⟩
    by_cases hlt : n < ds.length
    · right
      have hd : ds[n]? = some ds[n] := by simp [hlt]
      obtain ⟨go, yl⟩ := hJ.1 _ H2 n _ he3.av lat hd
      rw [List.drop_eq_getElem_cons hlt] at hf
      refine ⟨go, fun σ3 H3 => n + 1 ≤ ds.length ∧ ∃ e3, EnvOk c H3 σ3 e3 ∧ Evo (Own e1 σ) H1 (Own e3 σ3) H3 ∧ forL bd (ds.drop (n + 1)) e3 = oo, fun σ3 H3 z => ⟨ds.length - (n + 1), by omega, rfl, z⟩, fun x H3 y => ?_⟩
      obtain ⟨s2, rx⟩ := yl x H3 y
      have he4 := he3.same s2
      have hf' : (match bd ds[n] e2 with
        | .nx e1 => forL bd (ds.drop (n + 1)) e1
        | .ct e1 => forL bd (ds.drop (n + 1)) e1
        | .bk e1 => .nx e1
        | o => o) = oo := hf
      have eb : bd ds[n] e2 = outR (bindT tg tup ds[n] e2) e2 fun e3 => exS c.cl b e3 := by rw [← hb]
      have ev2 : Evo (Own e1 σ) H1 (Own e2 σ2) H3 := ev.trans (Evo.same s2)
      have q4 := PostS.trans ev2 q3
      cases zb : bindT tg tup ds[n] e2 with
      | bad => rw [zb] at eb; rw [eb] at hf'; exact absurd hf'.symm nb
      | exc n2 =>
        exact absurd zb bindT_ne
      | ok e3 =>
        rw [zb] at eb
        have eb' : bd ds[n] e2 = exS c.cl b e3 := eb
        rw [eb'] at hf'
        refine gT_ok he4 rx zb fun σ3 B => ⟨e3, B.env, ?_⟩
        have ev3 : Evo (Own e2 σ2) H3 (Own e3 σ3) H3 := Evo.less B.own
        have q5 := PostS.trans ev3 q4
        have ev4 := ev2.trans ev3
        cases zz : exS c.cl b e3 with
        | nx e4 => rw [zz] at hf'; exact fun σ4 H4 ev5 he5 => ⟨hlt, e4, he5, ev4.trans ev5, hf'⟩
        | ct e4 => rw [zz] at hf'; exact fun σ4 H4 ev5 he5 => ⟨hlt, e4, he5, ev4.trans ev5, hf'⟩
        | bk e4 => rw [zz] at hf'; rw [← hf'] at q5; exact q5
        | rt d2 e4 => rw [zz] at hf'; rw [← hf'] at q5; exact q5
        | exc n2 e4 => rw [zz] at hf'; rw [← hf'] at q5; exact q5
        | bad => rw [zz] at hf'; exact absurd hf'.symm nb
    · left
      have e4 : n = ds.length := by omega
      subst e4
      rw [List.drop_length] at hf
      refine ⟨hJ.2 _ H2 lat, ?_⟩
      have q4 := PostS.trans ev q3
      rw [← hf] at q4
      exact q4 σ2 H2 Evo.refl he3
  | _ => exact q2.elim
end
end VE
namespace VE
open PySem PySem.Spec PyProof.Rows L2
section
variable {cc : CC} {X : Cx} {c : Fx}
def Fx.wish (c : Fx) (W : WX) : Fx := { c with W := W }
def Fx.suite (c : Fx) (a : Addr) (k : Nat) : Fx := { c with W := fun _ _ _ _ => False, EX := fun a' k' => a' = a ∧ k' = k }
theorem EnvOk.wish {H : Hp} {σ : L2.St} {e : Ev} (he : EnvOk c H σ e) (W : WX) : EnvOk (c.wish W) H σ e := ⟨he.len, he.val, he.own, he.inj, he.xs, he.exn, he.slf⟩
theorem EnvOk.unwish {H : Hp} {σ : L2.St} {e : Ev} {W : WX} (he : EnvOk (c.wish W) H σ e) : EnvOk c H σ e := ⟨he.len, he.val, he.own, he.inj, he.xs, he.exn, he.slf⟩
theorem EnvOk.toSuite {H : Hp} {σ : L2.St} {e : Ev} (he : EnvOk c H σ e) (hn : ∀ a k, ¬ c.EX a k) (a : Addr) (k : Nat) : EnvOk (c.suite a k) H σ e := ⟨he.len, he.val, he.own, he.inj, he.xs, fun i k q => by obtain ⟨b, _, h⟩ := he.exn i k q; exact (hn _ _ h).elim, he.slf⟩
theorem noex_get {e : Ev} {i : Nat} {s : Sl} (h : (noex e)[i]? = some s) : ∃ s', e[i]? = some s' ∧ s = noexS s' := by
  unfold noex at h
  rw [List.getElem?_map] at h
  cases z : e[i]? with
  | none => rw [z] at h; cases h
  | some s' => rw [z] at h; exact ⟨s', rfl, (Option.some.inj h).symm⟩
theorem noex_val {e : Ev} {i : Nat} {d : D} {b : Bool} (h : (noex e)[i]? = some (.val d b)) : e[i]? = some (.val d b) := by
  obtain ⟨s, h1, h2⟩ := noex_get h
  cases s with
  | val d' b' => cases h2; exact h1
  | _ => cases h2
theorem own_noex {e : Ev} {σ : L2.St} {a : Addr} : Own (noex e) σ a → Own e σ a := fun ⟨i, d, h1, h2⟩ => ⟨i, d, noex_val h1, h2⟩
theorem own_noex' {e : Ev} {σ : L2.St} {a : Addr} : Own e σ a → Own (noex e) σ a := fun ⟨i, d, h1, h2⟩ => ⟨i, d, by unfold noex; rw [List.getElem?_map, h1]; rfl, h2⟩
theorem EnvOk.ofSuite {H : Hp} {σ : L2.St} {e : Ev} {a : Addr} {k : Nat} (he : EnvOk (c.suite a k) H σ e) : EnvOk c H σ (noex e) := by
  have ev : Evo (AV c.Xs e σ) H (AV c.Xs (noex e) σ) H := Evo.less fun b z => z.imp id own_noex
  refine ⟨by rw [he.len]; unfold noex; simp, fun i d q => ?_, fun i d q => ?_, fun i j d d' b q1 q2 => he.inj i j d d' b (noex_val q1) (noex_val q2), he.xs, fun i k q => ?_, fun a d sa q => he.slf a d sa (noex_val q)⟩
  · obtain ⟨v, h1, h2⟩ := he.val i d (noex_val q)
    exact ⟨v, h1, h2.evo ev⟩
  · obtain ⟨b, h1, h2, h3⟩ := he.own i d (noex_val q)
    exact ⟨b, h1, h2, h3.evo' ev fun _ z => z⟩
  · obtain ⟨s, h1, h2⟩ := noex_get q
    cases s <;> cases h2
theorem RepR.suite {c : Fx} {a : Addr} {k : Nat} {fr : Bool} {P P' : Addr → Prop} {H : Hp} {σ : L2.St} {e : Ev} {d : D} {v : V} (hP : ∀ a, P a → P' a) (h : RepR (c.suite a k) fr P H σ e d v) : RepR c fr P' H σ (noex e) d v := by
  unfold RepR at h ⊢
  split
  · rename_i z
    rw [if_pos z] at h
    obtain ⟨b, q1, q2, q3, q5, q4⟩ := h
    exact ⟨b, q1, hP b q2, fun b d' sa y => q3 b d' sa (noex_val y), q5.imp own_noex' (fun z => EnvOk.ofSuite (c := c.plus b) z), RepO.evo' (Evo.less fun b z => z.imp (fun z => z.imp id own_noex) id) q4 fun _ z => z⟩
  · rename_i z
    rw [if_neg z] at h
    exact Rep.evo (Evo.less fun b z => z.imp id own_noex) h
theorem RepR.unwish {c : Fx} {W : WX} {fr : Bool} {P : Addr → Prop} {H : Hp} {σ : L2.St} {e : Ev} {d : D} {v : V} (h : RepR (c.wish W) fr P H σ e d v) : RepR c fr P H σ e d v := by
  unfold RepR at h ⊢
  split
  · rename_i z
    rw [if_pos z] at h
    obtain ⟨b, q1, q2, q3, q5, q4⟩ := h
    exact ⟨b, q1, q2, q3, q5.imp id (fun z => EnvOk.unwish (c := c.plus b) (W := W) z), q4⟩
  · rename_i z
    rw [if_neg z] at h
    exact h
def endN (i : Nat) (D : Ends) : Ends := { nx := fun σ' H' => D.nx (σ'.set i none) H', rt := D.rt, bk := fun σ' H' => D.bk (σ'.set i none) H', ct := fun σ' H' => D.ct (σ'.set i none) H' }
theorem unb_named {fr : Bool} {σ : L2.St} {H : Hp} {e : Ev} {o : Out} {D : Ends} {i : Nat} {a : Addr} {k : Nat} (q : PostS c fr σ H e (unb (some i) o) D) :
    PostS (c.suite a k) fr (σ.set i (some (.ref a))) H (e.set i (.exn k)) o (endN i D) := by
  have sub : ∀ b, Own (e.set i (.exn k)) (σ.set i (some (.ref a))) b → Own e σ b := fun b z => own_sub (s := .exn k) (fun _ z => nomatch z) z
  have ev0 : Evo (Own e σ) H (Own (e.set i (.exn k)) (σ.set i (some (.ref a)))) H := Evo.less sub
  have fin : ∀ {e2 : Ev} {σ2 : L2.St} {H2 : Hp}, Evo (Own (e.set i (.exn k)) (σ.set i (some (.ref a)))) H (Own e2 σ2) H2 → EnvOk (c.suite a k) H2 σ2 e2 → Evo (Own e σ) H (Own (wipN (some i) e2) (σ2.set i none)) H2 ∧ EnvOk c H2 (σ2.set i none) (wipN (some i) e2) := fun {e2 σ2 H2} ev he =>
    ⟨(ev0.trans ev).trans (Evo.less fun b z => own_noex (own_sub (s := .emp) (fun _ z => nomatch z) z)), (EnvOk.ofSuite he).put (s := .emp) trivial⟩
  cases o with
  | nx e2 => exact fun σ2 H2 ev he => let z := fin ev he; q _ H2 z.1 z.2
  | bk e2 => exact fun σ2 H2 ev he => let z := fin ev he; q _ H2 z.1 z.2
  | ct e2 => exact fun σ2 H2 ev he => let z := fin ev he; q _ H2 z.1 z.2
  | rt d e2 => exact fun v σ2 H2 ev he r => q v σ2 H2 ((ev0.trans ev).trans (Evo.less fun b z => own_noex z)) (EnvOk.ofSuite he) (r.suite fun b z => z.imp (sub b) (fun h => h))
  | exc n e2 => exact q.elim
  | bad => exact q
theorem unb_plain {fr : Bool} {σ : L2.St} {H : Hp} {e : Ev} {o : Out} {D : Ends} {a : Addr} {k : Nat} (q : PostS c fr σ H e (unb none o) D) : PostS (c.suite a k) fr σ H e o D := by
  cases o with
  | nx e2 => exact fun σ2 H2 ev he => q _ H2 (ev.trans (Evo.less fun b z => own_noex z)) (EnvOk.ofSuite he)
  | bk e2 => exact fun σ2 H2 ev he => q _ H2 (ev.trans (Evo.less fun b z => own_noex z)) (EnvOk.ofSuite he)
  | ct e2 => exact fun σ2 H2 ev he => q _ H2 (ev.trans (Evo.less fun b z => own_noex z)) (EnvOk.ofSuite he)
  | rt d e2 => exact fun v σ2 H2 ev he r => q v σ2 H2 (ev.trans (Evo.less fun b z => own_noex z)) (EnvOk.ofSuite he) (r.suite fun b z => z)
  | exc n e2 => exact q.elim
  | bad => exact q
theorem SOk.tr (o : SOk cc X c) (hh : cc.hot = false) {pn : List (Addr × Obj)} {xe : Value → Shared → Prop} {W : WX} (tk : Takes (X.tr pn xe) W) (hp : PassesOwn (model X.prog X.w) X.A X.env xe) : SOk cc (X.tr pn xe) (c.wish W) where
  x := { hN := o.x.hN, nd := o.x.nd, sc := o.x.sc, K := o.x.K, tb := o.x.tb, tk := tk, un := o.x.un, plr := fun h => let p := o.x.plr h; ⟨p.seer, p.tree, p.dp, p.fr⟩, bn := o.x.bn, gl := o.x.gl, cls := o.x.cls, kit := o.x.kit, big := o.x.big,
         ise := fun h => (by rw [hh] at h; cases h), calm := o.x.calm, fn := fun h f F n h1 h2 h3 h4 => o.x.fn h f F n h1 h2 h3 h4, me := o.x.me, fok := o.x.fok, fnd := o.x.fnd, dc := o.x.dc, isq := o.x.isq, mok := o.x.mok,
         ini := fun h k f x F h1 h2 h3 => o.x.ini h k f x F h1 h2 h3, inik := fun h k f x F kn h1 h2 h3 h4 => o.x.inik h k f x F kn h1 h2 h3 h4, kwc := fun h f F kn h1 h2 h3 => o.x.kwc h f F kn h1 h2 h3, mt := fun h k m f mu h1 => o.x.mt h k m f mu h1 }
  fnn := o.fnn
  kind := o.kind
  pas := hp
  stk := o.stk
  frm := o.frm
  exr := o.exr
  exm := o.exm
  exc := o.exc
  isx := o.isx
  noe := o.noe
  frf := o.frf
theorem SOk.suite (o : SOk cc X c) {a : Addr} {oe : Obj} {pn : List (Addr × Obj)} {k : Nat} (hk : k ∈ cc.G.exs) (hz : Zc (.ref (cAd c.tb c.K k)) none oe) (hf : ∃ vs, oe.data = .fields vs) : SOk { cc with hot := true } (X.suite a ((a, oe) :: pn)) (c.suite a k) where
  x := { hN := o.x.hN, nd := o.x.nd, sc := o.x.sc, K := o.x.K, tb := o.x.tb, tk := takes_no, un := o.x.un, plr := fun h => (nomatch h), bn := o.x.bn, gl := o.x.gl, cls := o.x.cls, kit := o.x.kit, big := o.x.big,
         ise := fun _ a' k' ⟨e1, e2⟩ => (by
           subst e1 e2
           exact ⟨hk, call_isE (o.exc k' hk) hz hf, call_isET (o.exc k' hk) hz hf⟩),
         calm := fun h => (nomatch h), fn := fun h => (nomatch h), me := o.x.me, fok := o.x.fok, fnd := o.x.fnd, dc := o.x.dc, isq := o.x.isq, mok := o.x.mok, ini := fun h => (nomatch h), inik := fun h => (nomatch h), kwc := fun h => (nomatch h), mt := fun h => (nomatch h) }
  fnn := o.fnn
  kind := o.kind
  pas := PassesOwn.never
  stk := o.stk
  frm := o.frm
  exr := o.exr
  exm := o.exm
  exc := o.exc
  isx := o.isx
  noe := fun h => (nomatch h)
  frf := o.frf
def tSu (cc : CC) (c : Fx) (s : T) (a : Addr) (cls : Value) (d : Option Addr) : TS := fun D σ H => ∃ k, cls = .ref (cAd c.tb c.K k) ∧ d = none ∧ k ∈ cc.G.exs ∧ tSx (c.suite a k) cc.fr s D σ H
def HdlOk (cc : CC) (X : Cx) (c : Fx) (t : T) (hds : List ExceptHandler) : Prop :=
  (∃ (k i : Nat) (s r : T) (x z : Str) (np pos' : Pos) (b0 : Stmt) (su : List Stmt), t = .hcons [k] (some i) s r ∧ isNilT r = true ∧ hds = [.ExceptHandler (some (.Name z np)) (some x) (b0 :: su) pos'] ∧ k ∈ cc.G.exs ∧ Names X z (.ref (cAd c.tb c.K k)) ∧ cc.N[i]? = some x ∧ cc.sc.names.lookup x = some .local ∧
    ∀ (a : Addr) (oe : Obj) (cls : Value) (d : Option Addr) (pn : List (Addr × Obj)), Zc cls d oe → (∃ vs, oe.data = .fields vs) → PSs (X.suite a ((a, oe) :: pn)) (b0 :: su) (tSu cc c s a cls d)) ∨
  (∃ l, HdsOk X hds l ∧ ∀ (D : Ends) (σ : L2.St) (H : Hp) (e : Ev) (k : Nat), EnvOk c H σ e → k ∈ cc.G.exs → PostS c cc.fr σ H e (exH c.cl k t e) D → wMany X.K c.W D l (.ref (cAd c.tb c.K k)) none σ H)
structure SSt (t : T) : Prop where
  P : ∀ {cc : CC} {X : Cx} {c : Fx} {st : Stmt}, SOk cc X c → mP cc t st = true → PS X st (tSx c cc.fr t)
  S : ∀ {cc : CC} {X : Cx} {c : Fx} {sts : List Stmt}, SOk cc X c → mS cc t sts = true → PSs X sts (tSx c cc.fr t)
  H : ∀ {cc : CC} {X : Cx} {c : Fx} {hds : List ExceptHandler}, SOk cc X c → cc.hot = false → mH cc t hds = true → HdlOk cc X c t hds
variable {a b it : T} {i : Nat} {k : List Nat} {pos : Pos} {ex te : Expr} {body : List Stmt}
theorem rule_iff (o : SOk cc X c) {fr : Bool} {x y : List Stmt} {d : T} (hm : mE cc d ex = true) (hx : PSs X x (tSx c fr a)) (hy : PSs X y (tSx c fr b)) : PS X (.If ex x y pos) (tSx c fr (.iff k d a b)) := by
  refine ps_weak (ps_if ((se d).E o.x hm).2.1 hx hy) fun D σ H ⟨e, he, q⟩ => ?_
  obtain ⟨he1, hs⟩ := he.clr k
  have q' : PostS c fr σ H e (outR (tst (evX c.cl true d (clrE k e))) (clrE k e) fun t => if t then exS c.cl a (bor k e) else exS c.cl b (bor k e)) D := q
  refine ⟨clrE k e, he1, outR_postT q' he1 hs fun t H1 _ s q2 => ?_⟩
  cases zb : borK k with
  | true =>
    have eb : bor k e = e := by unfold bor; rw [zb]; rfl
    rw [eb] at q2
    have ev : Evo (Own e σ) H (Own e σ) H1 := ⟨fun b o z _ => s b o z, fun b z => .inl z⟩
    cases t with
    | true => exact ⟨e, he.same s, PostS.trans ev q2⟩
    | false => exact ⟨e, he.same s, PostS.trans ev q2⟩
  | false =>
  have eb : bor k e = clrE k e := by unfold bor; rw [zb]; rfl
  rw [eb] at q2
  have ev : Evo (Own e σ) H (Own (clrE k e) σ) H1 := ⟨fun b o z _ => s b o z, fun b z => .inl (hs b z)⟩
  cases t with
  | true => exact ⟨clrE k e, he1.same s, PostS.trans ev q2⟩
  | false => exact ⟨clrE k e, he1.same s, PostS.trans ev q2⟩
theorem rule_whl (o : SOk cc X c) {fr : Bool} {d : T} (hm : mE cc d ex = true) (hx : PSs X body (tSx c fr b)) : PS X (.While ex body [] pos) (tSx c fr (.whl k d b)) := by
  refine ps_weak (ps_while o.pas ((se d).E o.x hm).2.1 hx) fun D σ H ⟨e, he, q⟩ => ?_
  obtain ⟨he1, hs⟩ := he.clr k
  generalize hst : whStep (fun e1 => tst (evX c.cl true d e1)) (fun e1 => exS c.cl b e1) = st
  have q' : PostS c fr σ H e (whl st (clrE k e)) D := by rw [← hst]; exact q
  have nb : whl st (clrE k e) ≠ .bad := fun z => by rw [z] at q'; exact q'
  obtain ⟨n, hn⟩ := whl_some nb
  generalize whl st (clrE k e) = oo at q' nb hn
  have ev0 : Evo (Own e σ) H (Own (clrE k e) σ) H := Evo.less hs
  refine ⟨fun m σ1 H1 => ∃ e1, EnvOk c H1 σ1 e1 ∧ Evo (Own e σ) H (Own e1 σ1) H1 ∧ whN st m e1 = some oo, ⟨n, clrE k e, he1, ev0, hn⟩, ?_⟩
  rintro m σ1 H1 ⟨e1, he2, ev, hm2⟩
  cases m with
  | zero => cases hm2
  | succ m =>
    have hm3 : (match st e1 with | .inl e2 => whN st m e2 | .inr o => some o) = some oo := hm2
    have q1 := PostS.trans ev q'
    rw [← hst] at hm3
    refine ⟨e1, he2, ?_⟩
    cases zc : tst (evX c.cl true d e1) with
    | bad =>
      have : whStep (fun e1 => tst (evX c.cl true d e1)) (fun e1 => exS c.cl b e1) e1 = .inr .bad := by unfold whStep; dsimp only; rw [zc]
      rw [this] at hm3
      exact absurd (Option.some.inj hm3).symm nb
    | exc n2 =>
      have : whStep (fun e1 => tst (evX c.cl true d e1)) (fun e1 => exS c.cl b e1) e1 = .inr (.exc n2 e1) := by unfold whStep; dsimp only; rw [zc]
      rw [this] at hm3
      rw [← Option.some.inj hm3] at q1
      exact fun H2 s => q1 σ1 H2 (Evo.same s) (he2.same s)
    | ok t =>
      intro H2 s
      have ev2 : Evo (Own e1 σ1) H1 (Own e1 σ1) H2 := Evo.same s
      have he3 := he2.same s
      have q2 := PostS.trans ev2 q1
      cases t with
      | false =>
        have : whStep (fun e1 => tst (evX c.cl true d e1)) (fun e1 => exS c.cl b e1) e1 = .inr (.nx e1) := by unfold whStep; dsimp only; rw [zc]
        rw [this] at hm3
        rw [← Option.some.inj hm3] at q2
        exact q2 σ1 H2 Evo.refl he3
      | true =>
        have hw : whStep (fun e1 => tst (evX c.cl true d e1)) (fun e1 => exS c.cl b e1) e1 = (match exS c.cl b e1 with
          | .nx e2 => .inl e2
          | .ct e2 => .inl e2
          | .bk e2 => .inr (.nx e2)
          | o => .inr o) := by
            unfold whStep; dsimp only; rw [zc]
            all_goals (cases exS c.cl b e1 <;> rfl)
        rw [hw] at hm3
        refine ⟨fun σ3 H3 => ∃ e3, EnvOk c H3 σ3 e3 ∧ Evo (Own e σ) H (Own e3 σ3) H3 ∧ whN st m e3 = some oo, fun σ3 H3 z => ⟨m, by omega, z⟩, e1, he3, ?_⟩
        have evA := ev.trans ev2
        cases zb : exS c.cl b e1 with
        | nx e2 => rw [zb] at hm3; exact fun σ3 H3 ev3 he4 => ⟨e2, he4, evA.trans ev3, by rw [hst] at hm3; exact hm3⟩
        | ct e2 => rw [zb] at hm3; exact fun σ3 H3 ev3 he4 => ⟨e2, he4, evA.trans ev3, by rw [hst] at hm3; exact hm3⟩
        | bk e2 => rw [zb] at hm3; rw [← Option.some.inj hm3] at q2; exact q2
        | rt d2 e2 => rw [zb] at hm3; rw [← Option.some.inj hm3] at q2; exact q2
        | exc n2 e2 => rw [zb] at hm3; rw [← Option.some.inj hm3] at q2; exact q2
        | bad => rw [zb] at hm3; exact absurd (Option.some.inj hm3).symm nb
theorem rule_for (o : SOk cc X c) (hh : cc.hot = false) {fr : Bool} {tg : List Nat} {tup : Bool} (ht : mTg true cc.N cc.sc tg tup te = true) (hm : mI cc it te ex = true) (hx : PSs X body (tSx c fr b)) : PS X (.For te ex body [] pos) (tSx c fr (.for_ k tg tup it b)) := by
  have qi := (se it).I false o.x hm
  have hg := o.nok.tg (o.x.calm hh) ht
  rw [← o.x.K] at hg
  refine ps_weak (ps_for o.pas (o.x.calm hh) qi.1 hg hx (folded qi.2.2 _)) fun D σ H ⟨e, he, q⟩ => ?_
  obtain ⟨he1, hs⟩ := he.clr k
  have q' : PostS c fr σ H e (outR (evI c.cl false it (clrE k e)) (clrE k e) fun ds => forL (fun d e1 => outR (bindT tg tup d e1) e1 fun e2 => exS c.cl b e2) ds (clrE k e)) D := q
  refine ⟨clrE k e, he1, outR_postI (w := false) q' he1 hs fun ds J H1 _ s hJ q2 => ?_⟩
  have ev1 : Evo (Own e σ) H (Own (clrE k e) σ) H1 := ⟨fun b o z _ => s b o z, fun b z => .inl (hs b z)⟩
  have q3 := PostS.trans ev1 q2
  have he2 := he1.same s
  clear q q' q2
  generalize hb : (fun d e1 => outR (bindT tg tup d e1) e1 fun e2 => exS c.cl b e2) = bd at q3
  generalize hoo : forL bd ds (clrE k e) = oo at q3
  have nb : oo ≠ .bad := fun z => by rw [z] at q3; exact q3
  refine ⟨fun n m σ2 H2 => m = ds.length - n ∧ n ≤ ds.length ∧ ∃ e2, EnvOk c H2 σ2 e2 ∧ Evo (Own (clrE k e) σ) H1 (Own e2 σ2) H2 ∧ forL bd (ds.drop n) e2 = oo, ⟨ds.length, by simp, Nat.zero_le _, clrE k e, he2, Evo.refl, hoo⟩, ?_⟩
  rintro n m σ2 H2 ⟨rfl, hn, e2, he3, ev, hf⟩
  have lat : Lat false (AV c.Xs (clrE k e) σ) H1 (AV c.Xs e2 σ2) H2 := ⟨Evo.or ev, fun z => nomatch z⟩
  by_cases hlt : n < ds.length
  · right
    have hd : ds[n]? = some ds[n] := by simp [hlt]
    obtain ⟨go, yl⟩ := hJ.1 _ H2 n _ he3.av lat hd
    rw [List.drop_eq_getElem_cons hlt] at hf
    refine ⟨go, fun σ3 H3 => n + 1 ≤ ds.length ∧ ∃ e3, EnvOk c H3 σ3 e3 ∧ Evo (Own (clrE k e) σ) H1 (Own e3 σ3) H3 ∧ forL bd (ds.drop (n + 1)) e3 = oo, fun σ3 H3 z => ⟨ds.length - (n + 1), by omega, rfl, z⟩, fun x H3 y => ?_⟩
    obtain ⟨s2, rx⟩ := yl x H3 y
    have he4 := he3.same s2
    have hf' : (match bd ds[n] e2 with
      | .nx e1 => forL bd (ds.drop (n + 1)) e1
      | .ct e1 => forL bd (ds.drop (n + 1)) e1
      | .bk e1 => .nx e1
      | o => o) = oo := hf
    have eb : bd ds[n] e2 = outR (bindT tg tup ds[n] e2) e2 fun e3 => exS c.cl b e3 := by rw [← hb]
    have ev2 : Evo (Own (clrE k e) σ) H1 (Own e2 σ2) H3 := ev.trans (Evo.same s2)
    have q4 := PostS.trans ev2 q3
    cases zb : bindT tg tup ds[n] e2 with
    | bad => rw [zb] at eb; rw [eb] at hf'; exact absurd hf'.symm nb
    | exc n2 =>
      exact absurd zb bindT_ne
    | ok e3 =>
      rw [zb] at eb
      have eb' : bd ds[n] e2 = exS c.cl b e3 := eb
      rw [eb'] at hf'
      refine gT_ok he4 rx zb fun σ3 B => ⟨e3, B.env, ?_⟩
      have ev3 : Evo (Own e2 σ2) H3 (Own e3 σ3) H3 := Evo.less B.own
      have q5 := PostS.trans ev3 q4
      have ev4 := ev2.trans ev3
      cases zz : exS c.cl b e3 with
      | nx e4 => rw [zz] at hf'; exact fun σ4 H4 ev5 he5 => ⟨hlt, e4, he5, ev4.trans ev5, hf'⟩
      | ct e4 => rw [zz] at hf'; exact fun σ4 H4 ev5 he5 => ⟨hlt, e4, he5, ev4.trans ev5, hf'⟩
      | bk e4 => rw [zz] at hf'; rw [← hf'] at q5; exact q5
      | rt d2 e4 => rw [zz] at hf'; rw [← hf'] at q5; exact q5
      | exc n2 e4 => rw [zz] at hf'; rw [← hf'] at q5; exact q5
      | bad => rw [zz] at hf'; exact absurd hf'.symm nb
  · left
    have e4 : n = ds.length := by omega
    subst e4
    rw [List.drop_length] at hf
    refine ⟨hJ.2 _ H2 lat, ?_⟩
    have q4 := PostS.trans ev q3
    rw [← hf] at q4
    exact q4 σ2 H2 Evo.refl he3
theorem exc_name (o : SOk cc X c) {n : Nat} {z : Str} (h1 : n ∈ cc.G.exs) (h2 : cc.G.tb.cls[n]? = some z) (hg : glB cc.sc z = true) (hd : dbg z = false) : Names X z (.ref (cAd c.tb c.K n)) := ⟨o.x.glo hg, (dbg_no hd).1, .inl (o.x.cls n z h1 h2)⟩
theorem rule_rse (o : SOk cc X c) (hh : cc.hot = false) {fr : Bool} {n : Nat} (h : excM cc n ex = true) : PS X (.Raise (some ex) none pos) (tSx c fr (.rse n)) := by
  unfold excM at h
  split at h
  · rename_i x px m j p2 p
    obtain ⟨h123, h4⟩ := and2 h
    obtain ⟨h12, h3⟩ := and2 h123
    obtain ⟨h1, h2⟩ := and2 h12
    have h1 := of_decide_eq_true h1
    have h2 := of_decide_eq_true h2
    obtain ⟨f1, f2, f3, f4⟩ := o.exr n h1
    refine ps_weak (ps_raise (o.x.calm hh) o.x.tk (L2.pmk_own PySem.F.excBase_ValueError f1 (o.x.cls n x h1 h2) f2 (raises_own f3 f4) (o.x.glo h3) (dbg_no (bang h4)).1)) fun D σ H ⟨e, he, q⟩ => ?_
    exact q σ H Evo.refl he
  · cases h
theorem rule_try (o : SOk cc X c) (hh : cc.hot = false) {hds : List ExceptHandler} {hs : T} (hx : ∀ {X' : Cx} {c' : Fx}, SOk cc X' c' → PSs X' body (tSx c' cc.fr b)) (hH : HdlOk cc X c hs hds) (hne : hds ≠ []) : PS X (.Try body hds [] [] pos) (tSx c cc.fr (.try_ b hs)) := by
  have hb : ∀ (W : WX) (pn : List (Addr × Obj)) (xe : Value → Shared → Prop), Takes (X.tr pn xe) W → PassesOwn (model X.prog X.w) X.A X.env xe → PSs (X.tr pn xe) body (tSx (c.wish W) cc.fr b) := fun W pn xe tk hp => hx (o.tr hh tk hp)
  have bodyR : ∀ {D : Ends} {σ : L2.St} {H : Hp} {W : WX}, tSx c cc.fr (.try_ b hs) D σ H → (∀ σ1 H1 e1 n, EnvOk c H1 σ1 e1 → n ∈ cc.G.exs → PostS c cc.fr σ1 H1 e1 (exH c.cl n hs e1) D → W (.ref (cAd c.tb c.K n)) none σ1 H1) → tSx (c.wish W) cc.fr b D σ H := fun {D σ H W} ⟨e, he, q⟩ hw => by
    refine ⟨e, he.wish W, ?_⟩
    have q' : PostS c cc.fr σ H e (match exS c.cl b e with
      | .exc n e1 => if c.cl.isx n then exH c.cl n hs e1 else .bad
      | o => o) D := q
    show PostS (c.wish W) cc.fr σ H e (exS c.cl b e) D
    cases z : exS c.cl b e with
    | exc n e1 =>
      rw [z] at q'
      have q2 : PostS c cc.fr σ H e (if c.cl.isx n then exH c.cl n hs e1 else .bad) D := q'
      cases zi : c.cl.isx n with
      | false => rw [zi] at q2; exact q2.elim
      | true =>
        rw [zi] at q2
        exact fun σ1 H1 ev he1 => hw σ1 H1 e1 n he1.unwish (o.isx n zi) (PostS.trans ev q2)
    | nx e1 => rw [z] at q'; exact fun σ1 H1 ev he1 => q' σ1 H1 ev he1.unwish
    | bk e1 => rw [z] at q'; exact fun σ1 H1 ev he1 => q' σ1 H1 ev he1.unwish
    | ct e1 => rw [z] at q'; exact fun σ1 H1 ev he1 => q' σ1 H1 ev he1.unwish
    | rt d e1 => rw [z] at q'; exact fun v σ1 H1 ev he1 r => q' v σ1 H1 ev he1.unwish r.unwish
    | bad => rw [z] at q'; exact q'
  rcases hH with ⟨t, i, s, r, x, z, np, pos', b0, su, e1, e2, e3, ht, hnm, hi, hloc, hsu⟩ | ⟨l, hl, hw⟩
  · subst e1 e3
    have er : r = .nil := by cases r <;> first | rfl | cases e2
    subst er
    refine ps_weak (ps_try_as (i := i) (Wout := c.W) o.stk o.frm o.nd (o.x.slot hi) (by show X.env.scope.names.lookup x = _; rw [o.x.sc]; exact hloc) hnm o.x.tk hb hsu) fun D σ H h => bodyR h fun σ1 H1 e1 n he1 hn q => ?_
    have q' : PostS c cc.fr σ1 H1 e1 (if [t].any (c.cl.su n) then unb (some i) (exS c.cl s (e1.set i (.exn n))) else .exc n e1) D := q
    have ea : [t].any (c.cl.su n) = c.cl.su n t := by simp
    rw [ea] at q'
    refine ⟨c.cl.su n t, o.exm n hn t ht, fun hb2 a ha => ?_, fun hb2 => ?_⟩
    · rw [hb2] at q'
      refine ⟨n, rfl, rfl, hn, e1.set i (.exn n), (he1.toSuite (o.noe hh) a n).put (s := .exn n) ⟨a, rfl, rfl, rfl⟩, unb_named q'⟩
    · rw [hb2] at q'
      exact q' σ1 H1 Evo.refl he1
  · cases hds with
    | nil => exact absurd rfl hne
    | cons h0 hr => exact ps_weak (ps_try_many (Wout := c.W) o.stk o.frm o.x.tk hb hl) fun D σ H h => bodyR h fun σ1 H1 e1 n he1 hn q => hw D σ1 H1 e1 n he1 hn q
end
end VE
namespace VE
open PySem PySem.Spec PyProof.Rows L2
theorem noP {cc : CC} {t : T} {st : Stmt} (h : mP cc t st = true) : True := trivial
theorem ss (t : T) : SSt t := by
  induction t with
  | pass =>
    refine ⟨fun {cc X c st} o h => ?_, fun {cc X c sts} o h => ?_, fun o hh h => (by cases h)⟩
    · cases st with
      | Pass p => exact ps_weak ps_pass fun D σ H ⟨e, he, q⟩ => q σ H Evo.refl he
      | Expr ex p => cases ex with
        | Constant v j p2 => cases v with
          | str s => exact ps_weak ps_doc fun D σ H ⟨e, he, q⟩ => q σ H Evo.refl he
          | _ => cases h
        | _ => cases h
      | _ => cases h
    · cases sts with
      | nil => exact pss_weak pss_nil fun D σ H ⟨e, he, q⟩ => q σ H Evo.refl he
      | cons _ _ => cases h
  | brk =>
    refine ⟨fun {cc X c st} o h => ?_, fun o h => (by cases h), fun o hh h => (by cases h)⟩
    cases st with
    | Break p => exact ps_weak ps_break fun D σ H ⟨e, he, q⟩ => q σ H Evo.refl he
    | _ => cases h
  | cnt =>
    refine ⟨fun {cc X c st} o h => ?_, fun o h => (by cases h), fun o hh h => (by cases h)⟩
    cases st with
    | Continue p => exact ps_weak ps_continue fun D σ H ⟨e, he, q⟩ => q σ H Evo.refl he
    | _ => cases h
  | seq a b iha ihb =>
    refine ⟨fun o h => (by cases h), fun {cc X c sts} o h => ?_, fun o hh h => (by cases h)⟩
    cases sts with
    | nil => cases h
    | cons s r =>
      obtain ⟨h1, h2⟩ := and2 (show (mP cc a s && mS cc b r) = true from h)
      refine pss_weak (pss_cons (iha.P o h1) (ihb.S o h2)) fun D σ H ⟨e, he, q⟩ => ⟨e, he, ?_⟩
      have q' : PostS c cc.fr σ H e (match exS c.cl a e with
        | .nx e1 => exS c.cl b e1
        | o => o) D := q
      show PostS c cc.fr σ H e (exS c.cl a e) _
      cases z : exS c.cl a e with
      | nx e1 => rw [z] at q'; exact fun σ1 H1 ev he1 => ⟨e1, he1, PostS.trans ev q'⟩
      | bk e1 => rw [z] at q'; exact q'
      | ct e1 => rw [z] at q'; exact q'
      | rt d e1 => rw [z] at q'; exact q'
      | exc n e1 => rw [z] at q'; exact q'
      | bad => rw [z] at q'; exact q'
  | ret fr k a iha =>
    refine ⟨fun {cc X c st} o h => ?_, fun o h => (by cases h), fun o hh h => (by cases h)⟩
    cases st with
    | Return v p => cases v with
      | none => cases h
      | some ex =>
        obtain ⟨h12, h3⟩ := and2 (show (decide (fr = cc.fr) && (!fr || !cc.me || !isV0 a) && (!fr || frT cc.G a || isV a) && mE cc a ex) = true from h)
        obtain ⟨h1, h2⟩ := and2 h12
        obtain ⟨h1, h0⟩ := and2 h1
        have e := of_decide_eq_true h1
        subst e
        refine rule_ret o (fun z => ?_) (fun z => ?_) h3
        · rw [z] at h0
          simp only [Bool.not_true, Bool.false_or, Bool.or_eq_true] at h0
          exact h0.imp (fun y => o.x.me (bang y)) bang
        · rw [z] at h2
          simpa [Bool.or_eq_true] using h2
    | _ => cases h
  | ex k a iha =>
    refine ⟨fun {cc X c st} o h => ?_, fun o h => (by cases h), fun o hh h => (by cases h)⟩
    cases st with
    | Expr ex p =>
      obtain ⟨h1, h2⟩ := and2 (show (noComp ex && mE cc a ex) = true from h)
      exact rule_ex o h1 h2
    | _ => cases h
  | asg i k ow a iha =>
    refine ⟨fun {cc X c st} o h => ?_, fun o h => (by cases h), fun o hh h => (by cases h)⟩
    cases st with
    | Assign tgs ex p => cases tgs with
      | nil => cases h
      | cons t r => cases t with
        | Name x px => cases r with
          | cons _ _ => cases h
          | nil =>
            obtain ⟨h, h4⟩ := and2 h
            obtain ⟨h, h3⟩ := and2 h
            obtain ⟨h1, h2⟩ := and2 h
            refine rule_asg o (of_decide_eq_true h1) h2 (fun z => ?_) (fun z => ?_) h4
            · rw [z] at h3
              simp only [Bool.not_true, Bool.false_or, Bool.and_eq_true] at h3
              exact h3.1
            · rw [z] at h3
              simp only [Bool.not_true, Bool.false_or, Bool.and_eq_true, Bool.or_eq_true, decide_eq_true_eq] at h3
              exact h3.2.imp (fun y => o.x.me (bang y)) id
        | _ => cases h
    | _ => cases h
  | unp is k a iha =>
    refine ⟨fun {cc X c st} o h => ?_, fun o h => (by cases h), fun o hh h => (by cases h)⟩
    cases st with
    | Assign tgs ex p => cases tgs with
      | nil => cases h
      | cons t r => cases r with
        | cons _ _ => cases h
        | nil =>
          obtain ⟨h, h5⟩ := and2 h
          obtain ⟨h, h4⟩ := and2 h
          obtain ⟨h, h3⟩ := and2 h
          obtain ⟨h1, h2⟩ := and2 h
          exact rule_unp o (bang h1) h4 h2 h3 h5
    | _ => cases h
  | par is k as iha =>
    refine ⟨fun {cc X c st} o h => ?_, fun o h => (by cases h), fun o hh h => (by cases h)⟩
    cases st with
    | Assign tgs ex p => cases tgs with
      | nil => cases h
      | cons t r => cases t with
        | Tuple ts kt pt => cases r with
          | cons _ _ => cases h
          | nil => cases ex with
            | Tuple vs kv pv =>
              obtain ⟨h, h7⟩ := and2 h
              obtain ⟨h, h6⟩ := and2 h
              obtain ⟨h, h5⟩ := and2 h
              obtain ⟨h, h4⟩ := and2 h
              obtain ⟨h, h3⟩ := and2 h
              obtain ⟨h1, h2⟩ := and2 h
              refine rule_par o (bang h1) h2 (of_decide_eq_true h3) (of_decide_eq_true h4) (of_decide_eq_true h5) h6 ?_
              revert h7
              cases swst cc.sc ts vs with
              | none => intro h7; cases h7
              | some r => intro _; exact ⟨r, rfl⟩
            | _ => cases h
        | _ => cases h
    | _ => cases h
  | aug i op k a iha =>
    refine ⟨fun {cc X c st} o h => ?_, fun o h => (by cases h), fun o hh h => (by cases h)⟩
    cases st with
    | AugAssign t op' ex p => cases t with
      | Name x px =>
        obtain ⟨h, h5⟩ := and2 h
        obtain ⟨h, h4⟩ := and2 h
        obtain ⟨h, h3⟩ := and2 h
        obtain ⟨h1, h2⟩ := and2 h
        have e := of_decide_eq_true h1
        subst e
        exact rule_aug o (of_decide_eq_true h3) h4 ((Bool.or_eq_true_iff.mp h2).imp of_decide_eq_true of_decide_eq_true) h5
      | _ => cases h
    | _ => cases h
  | setix i k ix a ihx iha =>
    refine ⟨fun {cc X c st} o h => ?_, fun o h => (by cases h), fun o hh h => (by cases h)⟩
    cases st with
    | Assign tgs ex p => cases tgs with
      | nil => cases h
      | cons t r => cases t with
        | Subscript b ie sp => cases b with
          | Name x px => cases r with
            | cons _ _ => cases h
            | nil =>
              obtain ⟨h, h8⟩ := and2 h
              obtain ⟨h, h7⟩ := and2 h
              obtain ⟨h, h6⟩ := and2 h
              obtain ⟨h, h5⟩ := and2 h
              obtain ⟨h, h4⟩ := and2 h
              obtain ⟨h, h3⟩ := and2 h
              obtain ⟨h1, h2⟩ := and2 h
              exact rule_setix o h1 (bang h2) (of_decide_eq_true h4) h5 (bang h6) h7 h8
          | _ => cases h
        | _ => cases h
    | _ => cases h
  | «mut» m i k as iha =>
    refine ⟨fun {cc X c st} o h => ?_, fun o h => (by cases h), fun o hh h => (by cases h)⟩
    cases st with
    | Expr ex p => cases ex with
      | Call fn es kws p2 => cases fn with
        | Attribute b nm ap => cases b with
          | Name x px => cases kws with
            | cons _ _ => cases h
            | nil =>
              obtain ⟨h, h8⟩ := and2 h
              obtain ⟨h, h7⟩ := and2 h
              obtain ⟨h, h6⟩ := and2 h
              obtain ⟨h, h5⟩ := and2 h
              obtain ⟨h, h4⟩ := and2 h
              obtain ⟨h, h3⟩ := and2 h
              obtain ⟨h1, h2⟩ := and2 h
              cases es with
              | nil => cases h4
              | cons e0 er =>
                cases m with
                | lappend => have e := of_decide_eq_true h1; subst e; exact rule_mut o (.inl rfl) h2 h3 (of_decide_eq_true h5) h6 (bang h7) h8
                | lextend => have e := of_decide_eq_true h1; subst e; exact rule_mut o (.inr (.inl rfl)) h2 h3 (of_decide_eq_true h5) h6 (bang h7) h8
                | linsert => have e := of_decide_eq_true h1; subst e; exact rule_mut o (.inr (.inr (.inl rfl))) h2 h3 (of_decide_eq_true h5) h6 (bang h7) h8
                | lpop => have e := of_decide_eq_true h1; subst e; exact rule_mut o (.inr (.inr (.inr rfl))) h2 h3 (of_decide_eq_true h5) h6 (bang h7) h8
                | _ => cases h1
          | _ => cases h
        | _ => cases h
      | _ => cases h
    | _ => cases h
  | sfld i f k a iha =>
    refine ⟨fun {cc X c st} o h => ?_, fun o h => (by cases h), fun o hh h => (by cases h)⟩
    cases st with
    | Assign tgs ex p => cases tgs with
      | nil => cases h
      | cons t r => cases t with
        | Attribute b nm ap => cases b with
          | Name x px => cases r with
            | cons _ _ => cases h
            | nil =>
              obtain ⟨h, h7⟩ := and2 h
              obtain ⟨h, h6⟩ := and2 h
              obtain ⟨h, h5⟩ := and2 h
              obtain ⟨h, h4⟩ := and2 h
              obtain ⟨h, h3⟩ := and2 h
              obtain ⟨h1, h2⟩ := and2 h
              exact rule_sfld o h2 (of_decide_eq_true h3) (of_decide_eq_true h4) h5 (bang h6) h7
          | _ => cases h
        | _ => cases h
    | _ => cases h
  | afld i f op k a iha =>
    refine ⟨fun {cc X c st} o h => ?_, fun o h => (by cases h), fun o hh h => (by cases h)⟩
    cases st with
    | AugAssign t op' ex p => cases t with
      | Attribute b nm ap => cases b with
        | Name x px =>
          obtain ⟨h, h8⟩ := and2 h
          obtain ⟨h, h7⟩ := and2 h
          obtain ⟨h, h6⟩ := and2 h
          obtain ⟨h, h5⟩ := and2 h
          obtain ⟨h, h4⟩ := and2 h
          obtain ⟨h, h3⟩ := and2 h
          obtain ⟨h1, h2⟩ := and2 h
          have e := of_decide_eq_true h2
          subst e
          have e := of_decide_eq_true h3
          subst e
          exact rule_afld o (of_decide_eq_true h4) (of_decide_eq_true h5) h6 (bang h7) h8
        | _ => cases h
      | _ => cases h
    | _ => cases h
  | exM k a iha =>
    refine ⟨fun {cc X c st} o h => ?_, fun o h => (by cases h), fun o hh h => (by cases h)⟩
    cases st with
    | Expr ex p =>
      obtain ⟨h1, h2⟩ := and2 (show (noComp ex && mEM cc a ex) = true from h)
      exact rule_exM o h1 h2
    | _ => cases h
  | retM k a iha =>
    refine ⟨fun {cc X c st} o h => ?_, fun o h => (by cases h), fun o hh h => (by cases h)⟩
    cases st with
    | Return v p => cases v with
      | none => cases h
      | some ex =>
        obtain ⟨h1, h2⟩ := and2 (show ((!cc.fr || (borK k && !cc.me)) && mEM cc a ex) = true from h)
        exact rule_retM o ((Bool.or_eq_true_iff.mp h1).imp bang fun y => ⟨(and2 y).1, o.x.me (bang (and2 y).2)⟩) h2
    | _ => cases h
  | asgM i k ow a iha =>
    refine ⟨fun {cc X c st} o h => ?_, fun o h => (by cases h), fun o hh h => (by cases h)⟩
    cases st with
    | Assign tgs ex p => cases tgs with
      | nil => cases h
      | cons t r => cases t with
        | Name x px => cases r with
          | cons _ _ => cases h
          | nil =>
            obtain ⟨h, h5⟩ := and2 h
            obtain ⟨h, h4⟩ := and2 h
            obtain ⟨h, h3⟩ := and2 h
            obtain ⟨h1, h2⟩ := and2 h
            refine rule_asgM o (of_decide_eq_true h1) h2 h3 (fun z => ?_) h5
            rw [z] at h4
            simp only [Bool.not_true, Bool.false_or, Bool.or_eq_true, decide_eq_true_eq] at h4
            exact h4.imp (fun y => o.x.me (bang y)) id
        | _ => cases h
    | _ => cases h
  | forM k tg tup a b iha ihb =>
    refine ⟨fun {cc X c st} o h => ?_, fun o h => (by cases h), fun o hh h => (by cases h)⟩
    cases st with
    | For te ex x y p => cases y with
      | cons _ _ => cases h
      | nil =>
        obtain ⟨h, h5⟩ := and2 h
        obtain ⟨h, h4⟩ := and2 h
        obtain ⟨h, h3⟩ := and2 h
        obtain ⟨h1, h2⟩ := and2 h
        exact rule_forM o (bang h1) h2 h3 h4 (ihb.S o h5)
    | _ => cases h
  | iff k d a b ihd iha ihb =>
    refine ⟨fun {cc X c st} o h => ?_, fun o h => (by cases h), fun o hh h => (by cases h)⟩
    cases st with
    | If ex x y p =>
      obtain ⟨h12, h3⟩ := and2 (show (mE cc d ex && mS cc a x && mS cc b y) = true from h)
      obtain ⟨h1, h2⟩ := and2 h12
      exact rule_iff o h1 (iha.S o h2) (ihb.S o h3)
    | _ => cases h
  | whl k d b ihd ihb =>
    refine ⟨fun {cc X c st} o h => ?_, fun o h => (by cases h), fun o hh h => (by cases h)⟩
    cases st with
    | While ex x y p => cases y with
      | cons _ _ => cases h
      | nil =>
        obtain ⟨h1, h2⟩ := and2 (show (mE cc d ex && mS cc b x) = true from h)
        exact rule_whl o h1 (ihb.S o h2)
    | _ => cases h
  | for_ k tg tup it b iht ihb =>
    refine ⟨fun {cc X c st} o h => ?_, fun o h => (by cases h), fun o hh h => (by cases h)⟩
    cases st with
    | For te ex x y p => cases y with
      | cons _ _ => cases h
      | nil =>
        obtain ⟨h, h4⟩ := and2 h
        obtain ⟨h, h3⟩ := and2 h
        obtain ⟨h1, h2⟩ := and2 h
        exact rule_for o (bang h1) h2 h3 (ihb.S o h4)
    | _ => cases h
  | rse n =>
    refine ⟨fun {cc X c st} o h => ?_, fun o h => (by cases h), fun o hh h => (by cases h)⟩
    cases st with
    | Raise e cs p => cases e with
      | none => cases h
      | some ex => cases cs with
        | some _ => cases h
        | none =>
          obtain ⟨h1, h2⟩ := and2 (show (!cc.hot && excM cc n ex) = true from h)
          exact rule_rse o (bang h1) h2
    | _ => cases h
  | try_ b hs ihb ihh =>
    refine ⟨fun {cc X c st} o h => ?_, fun o h => (by cases h), fun o hh h => (by cases h)⟩
    cases st with
    | Try x hds oe fin p => cases oe with
      | cons _ _ => cases h
      | nil => cases fin with
        | cons _ _ => cases h
        | nil =>
          obtain ⟨h12, h3⟩ := and2 (show (!cc.hot && mS cc b x && mH cc hs hds) = true from h)
          obtain ⟨h1, h2⟩ := and2 h12
          refine rule_try o (bang h1) (fun o' => ihb.S o' h2) (ihh.H o (bang h1) h3) ?_
          rintro rfl
          cases hs <;> cases h3
    | _ => cases h
  | hcons cs nm s r ihs ihr =>
    refine ⟨fun o h => (by cases h), fun o h => (by cases h), fun {cc X c hds} o hh h => ?_⟩
    cases hds with
    | nil => cases h
    | cons hd hr =>
      obtain ⟨ty, n, su, p⟩ := hd
      cases su with
      | nil => cases h
      | cons b0 su =>
        obtain ⟨h, h4⟩ := and2 h
        obtain ⟨h, h3⟩ := and2 h
        obtain ⟨h1, h2⟩ := and2 h
        cases cs with
        | nil => cases h1
        | cons t cr => cases cr with
          | cons _ _ => cases h1
          | nil =>
            have h1 : excN cc t ty = true := h1
            cases ty with
            | none => cases h1
            | some ez => cases ez with
              | Name z np =>
                obtain ⟨h1, h8⟩ := and2 h1
                obtain ⟨h1, h7⟩ := and2 h1
                obtain ⟨h5, h6⟩ := and2 h1
                have h5 := of_decide_eq_true h5
                have nmz := exc_name o h5 (of_decide_eq_true h6) h7 (bang h8)
                have hsu : ∀ (a : Addr) (oe : Obj) (cls : Value) (d : Option Addr) (pn : List (Addr × Obj)), Zc cls d oe → (∃ vs, oe.data = .fields vs) → PSs (X.suite a ((a, oe) :: pn)) (b0 :: su) (tSu cc c s a cls d) := fun a oe cls d pn hz hf =>
                  ⟨fun pins s' σ H D I ⟨k, e1, e2, hk, q⟩ => by
                    subst e1 e2
                    exact (ihs.S (o.suite hk hz hf) h2).run pins s' σ H D I q⟩
                cases nm with
                | some i => cases n with
                  | none => cases h3
                  | some x =>
                    obtain ⟨h9, h11⟩ := and2 h3
                    obtain ⟨h9, h10⟩ := and2 h9
                    have hnil : hr = [] := by
                      rw [h9] at h4
                      cases hr with
                      | nil => rfl
                      | cons _ _ => cases h4
                    subst hnil
                    exact .inl ⟨t, i, s, r, x, z, np, p, b0, su, rfl, h9, rfl, h5, nmz, of_decide_eq_true h10, loc_of h11, hsu⟩
                | none => cases n with
                  | some _ => cases h3
                  | none =>
                    have rest : ∃ l, HdsOk X hr l ∧ ∀ (D : Ends) (σ : L2.St) (H : Hp) (e : Ev) (k : Nat), EnvOk c H σ e → k ∈ cc.G.exs → PostS c cc.fr σ H e (exH c.cl k r e) D → wMany X.K c.W D l (.ref (cAd c.tb c.K k)) none σ H := by
                      cases zr : isNilT r with
                      | true =>
                        have er : r = .nil := by cases r <;> first | rfl | cases zr
                        subst er
                        have hnil : hr = [] := by
                          cases hr with
                          | nil => rfl
                          | cons _ _ => cases h4
                        subst hnil
                        exact ⟨[], .nil, fun D σ H e k he hk q => q σ H Evo.refl he⟩
                      | false =>
                        rw [zr] at h3
                        obtain ⟨h3', h3n⟩ := and2 (show (mH cc r hr && noNm r) = true from h3)
                        rcases ihr.H o hh h3' with ⟨t2, i2, s2, r2, x2, z2, np2, p2, b2, su2, e1, e2, e3, _⟩ | q
                        · rw [e1] at h3n; cases h3n
                        · exact q
                    obtain ⟨l, hl, hw⟩ := rest
                    refine .inr ⟨(.ref (cAd c.tb c.K t), fun a cls d => tSu cc c s a cls d) :: l, .cons nmz hsu hl, fun D σ H e k he hk q => ?_⟩
                    have q' : PostS c cc.fr σ H e (if [t].any (c.cl.su k) then unb none (exS c.cl s e) else exH c.cl k r e) D := q
                    have ea : [t].any (c.cl.su k) = c.cl.su k t := by simp
                    rw [ea] at q'
                    refine ⟨c.cl.su k t, o.exm k hk t h5, fun hb a ha => ?_, fun hb => ?_⟩
                    · rw [hb] at q'
                      exact ⟨k, rfl, rfl, hk, e, he.toSuite (o.noe hh) a k, unb_plain q'⟩
                    · rw [hb] at q'
                      exact hw D σ H e k he hk q'
              | _ => cases h1
  | _ => exact ⟨fun o h => (by cases h), fun o h => (by cases h), fun o hh h => (by cases h)⟩
end VE
namespace VE
open PySem PySem.Spec PyProof.Rows L2
structure FD where
  nm : Str
  gn : Str
  st : Stmt
  N : List Str
  ps : List Str
  lo : Nat
  dfl : List D
  fr : Bool
  body : T
  ow : Option (Nat × Bool)
def FD.mu (F : FD) : Bool := match F.ow with
  | some (_, b) => b
  | none => false
structure Prg where
  tb : Tb
  exs : List Nat
  su : Nat → Nat → Bool
  fs : List FD
  glo : List (Str × D)
  cs : List (Nat × Nat)
  fk : List (Nat × Nat)
  ms : List ((Nat × Nat) × (Nat × Bool))
  kws : List (Nat × List Nat)
  isq : Bool
def FD.hi (F : FD) : Nat := if F.dfl.isEmpty then F.ps.length else F.lo
def FD.fi (F : FD) : FI := ⟨F.gn, F.lo, F.hi, F.fr, F.ow.isNone, F.ps⟩
def Prg.pg (S : Prg) : Pg := ⟨S.tb, S.fs.map FD.fi, S.cs, S.kws, S.glo.map (·.1), S.exs, S.isq⟩
def FD.cn (tb : Tb) (F : FD) : Option Str := match F.ow with
  | some (c, _) => some (cNm tb c)
  | none => none
def FD.at_ (tb : Tb) (F : FD) : Str × Option Str := match F.ow with
  | some (c, _) => (cNm tb c, some F.nm)
  | none => (F.gn, none)
def FD.qual (tb : Tb) (F : FD) : Str := match F.ow with
  | some (c, _) => cNm tb c ++ "." ++ F.nm
  | none => F.nm
def e0 (N : List Str) (ds : List D) : Ev := ds.map (fun d => Sl.val d false) ++ List.replicate (N.length - ds.length) .emp
def e0M (N : List Str) : List D → Ev
  | [] => e0 N []
  | d :: ds => .val d true :: (ds.map (fun d => Sl.val d false) ++ List.replicate (N.length - (ds.length + 1)) .emp)
def outF : Out → R D
  | .rt d _ => .ok d
  | .nx _ => .ok .non
  | .exc k _ => .exc k
  | _ => .bad
def pairM (d : D) (e : Ev) : R D := match e[0]? with
  | some (Sl.val s true) => R.ok (D.tup [d, s])
  | _ => R.bad
def Prg.frf (S : Prg) (f : Nat) : Bool := match S.fs[f]? with
  | some F => F.fr
  | none => false
def outMu : Out → R D
  | .rt d e => pairM d e
  | .nx e => pairM .non e
  | .exc k _ => .exc k
  | _ => .bad
noncomputable def runF (cl : Pr) (F : FD) (ds : List D) : R D :=
  if F.lo ≤ ds.length ∧ ds.length ≤ F.ps.length then (if F.mu then outMu (exS cl F.body (e0M F.N (ds ++ F.dfl.drop (ds.length - F.lo)))) else outF (exS cl F.body (e0 F.N (ds ++ F.dfl.drop (ds.length - F.lo))))) else .bad
def fillK (lo : Nat) (kn : List Nat) (zs : List D) : Nat → List D → List D
  | _, [] => []
  | i, d :: r => (match kn.idxOf? (lo + i) with
    | some j => zs.getD j d
    | none => d) :: fillK lo kn zs (i + 1) r
def Prg.kwf (S : Prg) (f : Nat) (kn : List Nat) (ds zs : List D) : Option (List D) := match S.fs[f]? with
  | some F => if ds.length = F.lo ∧ zs.length = kn.length then some (ds ++ fillK F.lo kn zs 0 F.dfl) else none
  | none => none
def Prg.base (S : Prg) (fn : Nat → List D → R D) : Pr := { fn := fn, mt := fun c m => S.ms.lookup (c, m), frf := S.frf, ini := fun c => S.cs.lookup c, kwf := S.kwf, fok := fun c f => decide ((c, f) ∈ S.fk), dc := fun _ => none, su := S.su, isx := fun k => decide (k ∈ S.exs), gl := fun k => (S.glo[k]?).map (·.2) }
noncomputable def callN (S : Prg) : Nat → Nat → List D → R D
  | 0, _, _ => .bad
  | n + 1, f, ds => match S.fs[f]? with
    | some F => runF (S.base (callN S n)) F ds
    | none => .bad
def chkF (S : Prg) (F : FD) : Bool := C8.scC F.N F.ps (defScope F.st) && decide (F.lo + F.dfl.length = F.ps.length) && decide (F.ps.length ≤ F.N.length) && (!F.mu || decide (0 < F.lo)) && mS ⟨F.N, defScope F.st, false, F.fr, F.mu, S.pg⟩ F.body (defBody F.st)
structure PgOk (S : Prg) (K : PySem.W.Frag) (mg : Str → Option Value) (w : World) : Prop where
  dh : ∀ x ∈ S.tb.tab, DicOk w K (He.ga K x)
  isq : S.isq = true → mg "isqrt" = some (.builtin "math.isqrt")
  bn : ∀ x ∈ bnames, mg x = none
  gl : ∀ (k : Nat) (x : Str) (d : D), S.glo[k]? = some (x, d) → ∃ u v, mg x = some u ∧ RelV v u ∧ ∀ H A, Rep S.tb K H A d v
  cls : ∀ (t : Nat) (z : Str), t ∈ S.exs → S.tb.cls[t]? = some z → mg z = some (.ref (cAd S.tb K t))
  kit : ∀ (k t : Nat), k ∈ S.exs → t ∈ S.exs ∨ t = 1000 → PySem.W.kitOne K (.ref (cAd S.tb K k)) (clsV S.tb K t) = some (S.su k t)
  big : ∀ t ∈ S.exs, t ≠ 1000
  exr : ∀ k ∈ S.exs, PySem.W.excIn K (cAd S.tb K k) [.type "ValueError", .type "Exception", .type "BaseException", .type "object"] "ValueError.__new__" = true ∧ PySem.W.keepIn K (.ref (cAd S.tb K k)) = true ∧
    PySem.W.subIn K (.ref (cAd S.tb K k)) (.type "BaseException") = some true ∧ PySem.W.typeIn K (.ref (cAd S.tb K k)) = some (.type "type")
  exm : ∀ k ∈ S.exs, ∀ t ∈ S.exs, PySem.W.exmOne K (.ref (cAd S.tb K k)) (.ref (cAd S.tb K t)) = some (S.su k t)
  exc : ∀ k ∈ S.exs, ExcC K (cAd S.tb K k)
  fn : ∀ (f : Nat) (F : FD), S.fs[f]? = some F → ∃ (fd : FuncData) (dvs : List V) (kws : List (Str × V)), FunD K F.nm (F.qual S.tb) (defArgs F.st) (defBody F.st) (defScope F.st) dvs kws (He.fAd K (F.at_ S.tb)) fd ∧ (F.ow = none → mg F.gn = some (.ref (He.ga K F.gn))) ∧
    (∀ n, F.lo ≤ n → n ≤ F.hi → ∃ vs us, Binds K fd F.ps us ∧ Vals vs us ∧ ∀ H A, RepL S.tb K H A (F.dfl.drop (n - F.lo)) vs) ∧
    ∀ kn, (f, kn) ∈ S.kws → ∃ (ks : List Str) (g : List Value → List Value → List Value) (gV : List V → List V → List V) (gR : List V → List V), KBn K fd F.ps F.lo ks g gV ∧ kn.map (fun i => F.ps[i]?) = ks.map some ∧ (∀ vs ws, vs.length = F.lo → gV vs ws = vs ++ gR ws) ∧ ∀ (Xs : Addr → Prop) (zs : List D) (ws : List V) (H : Hp), zs.length = kn.length → RepL S.tb K H Xs zs ws → RepL S.tb K H Xs (fillK F.lo kn zs 0 F.dfl) (gR ws)
  own : ∀ (c f : Nat), (c, f) ∈ S.fk → Cls K (cAd S.tb K c) ∧ NoAttr K (cAd S.tb K c) (fNm S.tb f) ∧ f < S.tb.fld.length
  fnd : S.tb.fld.Nodup ∧ Str.empty ∉ S.tb.fld
  mok : ∀ (c m : Nat), S.ms.lookup (c, m) ≠ none → mtN S.tb m ≠ Str.empty ∧ mtN S.tb m ∉ S.tb.fld
  cs : ∀ (c f : Nat), S.cs.lookup c = some f → Mk K (cAd S.tb K c) (He.ma K (cAd S.tb K c) "__init__") ∧ ∃ F, S.fs[f]? = some F ∧ F.ow = some (c, true) ∧ F.nm = "__init__"
  mgc : ∀ (c f : Nat) (x : Str), S.cs.lookup c = some f → S.tb.cls[c]? = some x → mg x = some (.ref (cAd S.tb K c))
  ms : ∀ (c m f : Nat) (mu : Bool), S.ms.lookup (c, m) = some (f, mu) → Cls K (cAd S.tb K c) ∧ Meth K (cAd S.tb K c) (mtN S.tb m) (He.ma K (cAd S.tb K c) (mtN S.tb m)) ∧ ∃ F, S.fs[f]? = some F ∧ F.ow = some (c, mu) ∧ F.nm = mtN S.tb m ∧ F.dfl = []
  chk : ∀ (f : Nat) (F : FD), S.fs[f]? = some F → chkF S F = true
section
variable {S : Prg} {K : PySem.W.Frag} {mg : Str → Option Value} {P : Program} {w : World} {base : Heap}
noncomputable def fx (S : Prg) (K : PySem.W.Frag) (n : Nat) (Xs : Addr → Prop) (SA : Addr → Prop) (E : XK) : Fx := ⟨S.tb, K, S.base (callN S n), Xs, fun _ _ => False, SA, fun cls d _ H => E cls d H⟩
theorem start_get {N : List Str} {vs : List V} {i : Nat} {v : V} (h : vs[i]? = some v) : (L2.start N vs)[i]? = some (some v) := by
  unfold L2.start
  rw [List.getElem?_append_left (by rw [List.length_map]; exact get_lt h), List.getElem?_map, h]; rfl
theorem e0_get {N : List Str} {ds : List D} {i : Nat} {s : Sl} (h : (e0 N ds)[i]? = some s) : s = .emp ∨ ∃ d, s = .val d false ∧ ds[i]? = some d := by
  unfold e0 at h
  by_cases hi : i < ds.length
  · rw [List.getElem?_append_left (by rw [List.length_map]; exact hi), List.getElem?_map] at h
    cases z : ds[i]? with
    | none => rw [z] at h; cases h
    | some d => rw [z] at h; exact .inr ⟨d, (Option.some.inj h).symm, rfl⟩
  · rw [List.getElem?_append_right (by rw [List.length_map]; omega)] at h
    obtain ⟨h1, h2⟩ := List.getElem?_eq_some_iff.mp h
    rw [List.getElem_replicate] at h2
    exact .inl h2.symm
theorem own_e0 {N : List Str} {ds : List D} {σ : L2.St} {a : Addr} : ¬ Own (e0 N ds) σ a := fun ⟨i, d, h, _⟩ => by
  rcases e0_get h with z | ⟨_, z, _⟩ <;> cases z
theorem env_start {n : Nat} {Xs SA : Addr → Prop} {E : XK} {H : Hp} {N : List Str} {ds : List D} {vs : List V} (hl : ds.length ≤ N.length) (hx : ∀ a, Xs a → H a ≠ none) (r : RepL S.tb K H Xs ds vs) : EnvOk (fx S K n Xs SA E) H (L2.start N vs) (e0 N ds) := by
  have ev : Evo Xs H (AV Xs (e0 N ds) (L2.start N vs)) H := ⟨fun _ _ h _ => h, fun b z => .inl (z.elim id fun z => (own_e0 z).elim)⟩
  refine ⟨?_, fun i d h => ?_, fun i d h => ?_, fun i j d d' a h => ?_, hx, fun i k h => ?_, fun a d sa h => ?_⟩
  · unfold L2.start e0
    rw [List.length_append, List.length_append, List.length_map, List.length_map, List.length_replicate, List.length_replicate, r.length]
  · rcases e0_get h with z | ⟨d', z, hd⟩
    · cases z
    · cases z
      obtain ⟨v, h1, h2⟩ := r.get hd
      exact ⟨v, start_get h1, h2.evo ev⟩
  · rcases e0_get h with z | ⟨_, z, _⟩ <;> cases z
  · rcases e0_get h with z | ⟨_, z, _⟩ <;> cases z
  · rcases e0_get h with z | ⟨_, z, _⟩ <;> cases z
  · rcases e0_get h with z | ⟨_, z, _⟩ <;> cases z
theorem e0M_get {N : List Str} {d0 : D} {ds : List D} {i : Nat} {s : Sl} (h : (e0M N (d0 :: ds))[i]? = some s) : (i = 0 ∧ s = .val d0 true) ∨ (∃ j, i = j + 1 ∧ (s = .emp ∨ ∃ d, s = .val d false ∧ ds[j]? = some d)) := by
  cases i with
  | zero => exact .inl ⟨rfl, (Option.some.inj h).symm⟩
  | succ j =>
    refine .inr ⟨j, rfl, ?_⟩
    have h' : (ds.map (fun d => Sl.val d false) ++ List.replicate (N.length - (ds.length + 1)) .emp)[j]? = some s := h
    by_cases hi : j < ds.length
    · rw [List.getElem?_append_left (by rw [List.length_map]; exact hi), List.getElem?_map] at h'
      cases z : ds[j]? with
      | none => rw [z] at h'; cases h'
      | some d => rw [z] at h'; exact .inr ⟨d, (Option.some.inj h').symm, rfl⟩
    · rw [List.getElem?_append_right (by rw [List.length_map]; omega)] at h'
      obtain ⟨h1, h2⟩ := List.getElem?_eq_some_iff.mp h'
      rw [List.getElem_replicate] at h2
      exact .inl h2.symm
theorem own_e0M {N : List Str} {d0 : D} {ds : List D} {a : Addr} {vs : List V} {b : Addr} : Own (e0M N (d0 :: ds)) (L2.start N (.ref a :: vs)) b ↔ b = a := by
  constructor
  · rintro ⟨i, d, h1, h2⟩
    rcases e0M_get h1 with ⟨z, _⟩ | ⟨j, _, z | ⟨d', z, _⟩⟩
    · subst z
      have : (L2.start N (.ref a :: vs))[0]? = some (some (V.ref a)) := start_get rfl
      rw [this] at h2
      cases h2; rfl
    · cases z
    · cases z
  · intro e
    subst e
    exact ⟨0, d0, rfl, start_get rfl⟩
theorem env_startM {n : Nat} {Xs : Addr → Prop} {E : XK} {H : Hp} {N : List Str} {a : Addr} {d0 : D} {ds : List D} {vs : List V} (hl : ds.length + 1 ≤ N.length) (hx : ∀ a, Xs a → H a ≠ none) (na : ¬ Xs a) (ro : RepO S.tb K H (fun b => Xs b ∨ b = a) a d0) (r : RepL S.tb K H (fun b => Xs b ∨ b = a) ds vs) :
    EnvOk (fx S K n Xs (fun b => b = a) E) H (L2.start N (.ref a :: vs)) (e0M N (d0 :: ds)) := by
  have ev : Evo (fun b => Xs b ∨ b = a) H (AV Xs (e0M N (d0 :: ds)) (L2.start N (.ref a :: vs))) H := Evo.less fun b z => z.imp id own_e0M.mp
  have s0 : (L2.start N (.ref a :: vs))[0]? = some (some (V.ref a)) := start_get rfl
  refine ⟨?_, fun i d h => ?_, fun i d h => ?_, fun i j d d' b h1 h2 _ _ => ?_, hx, fun i k h => ?_, fun b d sa h => ?_⟩
  · unfold L2.start e0M
    simp only [List.length_append, List.length_map, List.length_replicate, List.length_cons, r.length]
    omega
  · rcases e0M_get h with ⟨_, z⟩ | ⟨j, e, z | ⟨d', z, hd⟩⟩
    · cases z
    · cases z
    · cases z
      obtain ⟨v, h1, h2⟩ := r.get hd
      subst e
      exact ⟨v, start_get (by simpa using h1), h2.evo ev⟩
  · rcases e0M_get h with ⟨e, z⟩ | ⟨j, _, z | ⟨_, z, _⟩⟩
    · cases z
      subst e
      exact ⟨a, s0, na, RepO.evo' ev ro fun _ z => z⟩
    · cases z
    · cases z
  · rcases e0M_get h1 with ⟨e, _⟩ | ⟨j, _, z | ⟨_, z, _⟩⟩
    · rcases e0M_get h2 with ⟨e', _⟩ | ⟨j, _, z | ⟨_, z, _⟩⟩
      · rw [e, e']
      · cases z
      · cases z
    · cases z
    · cases z
  · rcases e0M_get h with ⟨e, z⟩ | ⟨j, _, z | ⟨_, z, _⟩⟩ <;> cases z
  · rw [s0, show b = a from sa]
def lv (n : Nat) : Nat := 2 * n + 40
theorem RepR.toM {c : Fx} {fr : Bool} {H H1 : Hp} {σ : L2.St} {e : Ev} {d : D} {v : V} {P : Addr → Prop} (hP : ∀ a, P a → H a = none) (h : RepR c fr P H1 σ e d v) : RepM c.tb c.K (if fr then .fresh else .share) H H1 c.Xs d v := by
  unfold RepR at h
  cases fr with
  | false => exact Rep.evo (Evo.less fun b z => .inl z) h
  | true =>
    cases z : ownable d with
    | false =>
      rw [if_neg (by rw [z]; simp)] at h
      have h' := Rep.evo (A' := c.Xs) (H' := H1) (Evo.less fun b z => .inl z) h
      cases d <;> first | exact h' | cases z
    | true =>
      rw [if_pos (by rw [z]; rfl)] at h
      obtain ⟨a, q1, q2, _, _, q3⟩ := h
      have q3' := RepO.evo' (A' := fun b => c.Xs b ∨ b = a) (Evo.less fun b z => z.imp .inl id) q3 fun _ z => z
      cases d <;> first | exact ⟨a, q1, hP a q2, q3'⟩ | cases z
noncomputable def spF (S : Prg) (K : PySem.W.Frag) (n f : Nat) (F : FD) : Sp := if F.mu then spM S.tb K F.fr F.ps.length (callN S n f) else spV S.tb K F.fr F.ps.length (callN S n f)
theorem callN_len {n f : Nat} {F : FD} (hf : S.fs[f]? = some F) {ds : List D} (h : callN S n f ds ≠ .bad) : F.lo ≤ ds.length ∧ ds.length ≤ F.ps.length := by
  cases n with
  | zero => exact absurd rfl h
  | succ n =>
    have e : callN S (n + 1) f ds = runF (S.base (callN S n)) F ds := by
      show (match S.fs[f]? with | some F => runF (S.base (callN S n)) F ds | none => .bad) = _
      rw [hf]
    rw [e] at h
    unfold runF at h
    split at h
    · assumption
    · exact absurd rfl h
theorem callN_full {n f : Nat} {F : FD} (hf : S.fs[f]? = some F) (c2 : F.lo + F.dfl.length = F.ps.length) {ds : List D} (h1 : F.lo ≤ ds.length) (h2 : ds.length ≤ F.ps.length) : callN S n f (ds ++ F.dfl.drop (ds.length - F.lo)) = callN S n f ds := by
  cases n with
  | zero => rfl
  | succ n =>
    show (match S.fs[f]? with | some F => runF (S.base (callN S n)) F _ | none => .bad) = (match S.fs[f]? with | some F => runF (S.base (callN S n)) F _ | none => .bad)
    rw [hf]
    show runF _ F _ = runF _ F _
    have hlen : (ds ++ F.dfl.drop (ds.length - F.lo)).length = F.ps.length := by rw [List.length_append, List.length_drop]; omega
    unfold runF
    have : F.dfl.drop (F.ps.length - F.lo) = [] := by rw [List.drop_eq_nil_iff]; omega
    have a1 : F.lo ≤ F.ps.length ∧ F.ps.length ≤ F.ps.length := ⟨by omega, Nat.le_refl _⟩
    have a2 : F.lo ≤ ds.length ∧ ds.length ≤ F.ps.length := ⟨h1, h2⟩
    rw [hlen, this, List.append_nil, if_pos a1, if_pos a2]
theorem fillK_len {lo : Nat} {kn : List Nat} {zs : List D} : ∀ (i : Nat) (l : List D), (fillK lo kn zs i l).length = l.length
  | _, [] => rfl
  | i, _ :: r => by
    show (fillK lo kn zs (i + 1) r).length + 1 = _
    rw [fillK_len (i + 1) r]; rfl
theorem kwf_len {f : Nat} {F : FD} (hf : S.fs[f]? = some F) (c2 : F.lo + F.dfl.length = F.ps.length) {kn : List Nat} {ds zs l : List D} (h : S.kwf f kn ds zs = some l) : l.length = F.ps.length := by
  unfold Prg.kwf at h
  rw [hf] at h
  have h' : (if ds.length = F.lo ∧ zs.length = kn.length then some (ds ++ fillK F.lo kn zs 0 F.dfl) else none) = some l := h
  split at h'
  · rename_i z
    cases h'
    rw [List.length_append, fillK_len]
    omega
  · cases h'
theorem kwf_ok {f : Nat} {F : FD} (hf : S.fs[f]? = some F) {kn : List Nat} {ds zs l : List D} (h : S.kwf f kn ds zs = some l) : l = ds ++ fillK F.lo kn zs 0 F.dfl ∧ ds.length = F.lo ∧ zs.length = kn.length := by
  unfold Prg.kwf at h
  rw [hf] at h
  have h' : (if ds.length = F.lo ∧ zs.length = kn.length then some (ds ++ fillK F.lo kn zs 0 F.dfl) else none) = some l := h
  split at h'
  · rename_i z
    cases h'
    exact ⟨rfl, z.1, z.2⟩
  · cases h'
theorem chkF_ok {F : FD} (h : chkF S F = true) : C8.scC F.N F.ps (defScope F.st) = true ∧ F.lo + F.dfl.length = F.ps.length ∧ F.ps.length ≤ F.N.length ∧ (F.mu = true → 0 < F.lo) ∧ mS ⟨F.N, defScope F.st, false, F.fr, F.mu, S.pg⟩ F.body (defBody F.st) = true := by
  obtain ⟨h, h5⟩ := and2 h
  obtain ⟨h, h4⟩ := and2 h
  obtain ⟨h, h3⟩ := and2 h
  obtain ⟨h1, h2⟩ := and2 h
  exact ⟨h1, of_decide_eq_true h2, of_decide_eq_true h3, fun z => by rw [z] at h4; exact of_decide_eq_true h4, h5⟩
theorem fn_get {g : Nat} {F0 : FI} (h : (S.fs.map FD.fi)[g]? = some F0) : ∃ G, S.fs[g]? = some G ∧ F0 = G.fi := by
  rw [List.getElem?_map] at h
  cases z : S.fs[g]? with
  | none => rw [z] at h; cases h
  | some G => rw [z] at h; exact ⟨G, rfl, (Option.some.inj h).symm⟩
theorem hi_le {G : FD} (c2 : G.lo + G.dfl.length = G.ps.length) : G.hi ≤ G.ps.length := by
  unfold FD.hi
  split <;> omega
theorem sok_of (O : PgOk S K mg w) (hs : base.NoSeer) (ht : P.given.tree = none) (n : Nat) (ih : ∀ (f : Nat) (F : FD), S.fs[f]? = some F → ∀ fd dvs kws, FunD K F.nm (F.qual S.tb) (defArgs F.st) (defBody F.st) (defScope F.st) dvs kws (He.fAd K (F.at_ S.tb)) fd → FnOk P w K mg base (L2.CX P w) (lv n) (He.fAd K (F.at_ S.tb)) fd F.ps (spF S K n f F))
    {F : FD} (ck : chkF S F = true) {cdv : Value} {A : Around} {outer : List Env} {s : Shared} {H : Hp} {E : XK} {Xs SA : Addr → Prop} (hme : F.mu = false → ∀ a, ¬ SA a) (hr : Room (lv n + 1) (A.deeper (envOfC (F.qual S.tb) (defScope F.st) s.heap.objs.size (He.fAd K (F.at_ S.tb)) cdv))) :
    SOk ⟨F.N, defScope F.st, false, F.fr, F.mu, S.pg⟩ (cxOf (L2.CX P w) P w K mg base F.N (F.qual S.tb) (defScope F.st) (He.fAd K (F.at_ S.tb)) cdv A outer s H E) (fx S K n Xs SA E) := by
  obtain ⟨c1, c2, c3, c4, c5⟩ := chkF_ok ck
  have S1 := C8.fnScope_by c1
  have hr0 : Room (lv n) (A.deeper (envOfC (F.qual S.tb) (defScope F.st) s.heap.objs.size (He.fAd K (F.at_ S.tb)) cdv)) := hr.mono (by omega)
  exact {
    x := {
      hN := rfl
      nd := S1.nd
      sc := rfl
      K := rfl
      tb := rfl
      tk := takes_of rfl rfl rfl rfl
      un := by
        have := hr.un
        show (A.deeper _).units + 65 < cLine
        omega
      plr := fun _ => ⟨hs, ht, (by
        have := hr.dp
        have e : Builtin.pylongFrames = 100 := rfl
        show (A.deeper _).depth + Builtin.pylongFrames < recursionLimit
        rw [e]
        unfold lv at this
        omega), ⟨_, _, rfl, S1.gen, S1.co, rfl, rfl⟩⟩
      bn := O.bn
      gl := fun k x d h1 h2 => by
        have h1' : (S.glo.map (·.1))[k]? = some x := h1
        have h2' : (S.glo[k]?).map (·.2) = some d := h2
        rw [List.getElem?_map] at h1'
        cases z : S.glo[k]? with
        | none => rw [z] at h1'; cases h1'
        | some p =>
          rw [z] at h1' h2'
          cases h1'
          cases h2'
          exact O.gl k p.1 p.2 z
      cls := O.cls
      kit := O.kit
      big := O.big
      ise := fun h => (nomatch h)
      calm := fun _ => rfl
      fn := fun _ g F0 m h1 hg h2 h3 => by
        obtain ⟨G, z, e0⟩ := fn_get h1
        subst e0
        obtain ⟨gd, dv2, kw2, GD, gm, gb, _⟩ := O.fn g G z
        have hgo : G.ow = none := Option.isNone_iff_eq_none.mp hg
        obtain ⟨vs2, us2, b1, b2, b3⟩ := gb m h2 h3
        obtain ⟨_, c2G, _, _, _⟩ := chkF_ok (O.chk g G z)
        have hh : G.hi ≤ G.ps.length := hi_le c2G
        have h2' : G.lo ≤ m := h2
        have h3' : m ≤ G.hi := h3
        have hmu : G.mu = false := by unfold FD.mu; rw [hgo]
        have at0 : G.at_ S.tb = (G.gn, none) := by unfold FD.at_; rw [hgo]
        have fn := ih g G z gd dv2 kw2 GD
        unfold spF at fn
        rw [hmu] at fn
        refine ⟨_, gd, G.ps, _, vs2, us2, lv n, hr0, ?_, GD.kp, fn, b1, b2, fun vs' H' Q' E' ⟨Xs', ds', l1, l2, l3, l4⟩ => ⟨Xs', ds' ++ G.dfl.drop (m - G.lo), ?_, l2, (b3 H' Xs').append l3, ?_⟩⟩
        · rw [at0]; exact gm hgo
        · rw [List.length_append, List.length_drop, l1]; omega
        · have l4' : PostF S.tb K G.fr Xs' H' (callN S n g ds') Q' E' := l4
          have := callN_full (n := n) z c2G (ds := ds') (by omega) (by omega)
          rw [l1] at this
          rw [this]
          exact l4'
      me := hme
      fok := fun k f h => O.own k f (of_decide_eq_true h)
      fnd := O.fnd
      dc := O.dh
      isq := O.isq
      mok := O.mok
      ini := fun _ k f x F0 h1 h2 h3 => by
        refine ⟨h1, ?_⟩
        obtain ⟨G, z, e0⟩ := fn_get h2
        subst e0
        obtain ⟨M, G', z', o1, o2⟩ := O.cs k f h1
        rw [z] at z'
        cases z'
        obtain ⟨gd, dv2, kw2, GD, gm, gb, _⟩ := O.fn f G z
        obtain ⟨_, c2G, _, _, _⟩ := chkF_ok (O.chk f G z)
        have hh : G.lo ≤ G.hi := by unfold FD.hi; split <;> omega
        obtain ⟨vs2, us2, b1, b2, b3⟩ := gb G.lo (Nat.le_refl _) hh
        have hmu : G.mu = true := by unfold FD.mu; rw [o1]
        have at0 : He.fAd K (G.at_ S.tb) = He.ma K (cAd S.tb K k) "__init__" := by unfold FD.at_; rw [o1, o2]; rfl
        have fn := ih f G z gd dv2 kw2 GD
        unfold spF at fn
        rw [hmu] at fn
        rw [← at0] at M
        refine ⟨_, gd, G.ps, _, vs2, us2, lv n, M, hr, O.mgc k f x h1 h3, fn, b1, b2, fun vs' H' Q' E' ⟨Xs', a, d0, ds', ws, l0, l1, l2, l3, l4, l5, l6⟩ => ⟨Xs', a, d0, ds' ++ G.dfl.drop (G.lo - G.lo), ws ++ vs2, by rw [l0]; rfl, ?_, l2, l3, l4, (b3 H' _).append l5, ?_⟩⟩
        · have l1' : ds'.length + 1 = G.lo := l1
          rw [List.length_append, List.length_drop]; omega
        · have l1' : ds'.length + 1 = G.lo := l1
          have l6' : PostMu S.tb K G.fr Xs' a H' (callN S n f (d0 :: ds')) Q' E' := l6
          have := callN_full (n := n) z c2G (ds := d0 :: ds') (by simp; omega) (by simp; omega)
          rw [show (d0 :: ds').length - G.lo = G.lo - G.lo by simp; omega] at this
          rw [← this] at l6'
          exact l6'
      inik := fun _ k f x F0 kn h1 h2 h3 h4 => by
        obtain ⟨G, z, e0⟩ := fn_get h2
        subst e0
        obtain ⟨M, G', z', o1, o2⟩ := O.cs k f h1
        rw [z] at z'
        cases z'
        obtain ⟨gd, dv2, kw2, GD, gm, _, gk⟩ := O.fn f G z
        obtain ⟨ks, g, gV, gR, kb, kn1, kg, kr⟩ := gk kn h4
        obtain ⟨_, c2G, _, _, _⟩ := chkF_ok (O.chk f G z)
        have hmu : G.mu = true := by unfold FD.mu; rw [o1]
        have at0 : He.fAd K (G.at_ S.tb) = He.ma K (cAd S.tb K k) "__init__" := by unfold FD.at_; rw [o1, o2]; rfl
        have fn := ih f G z gd dv2 kw2 GD
        unfold spF at fn
        rw [hmu] at fn
        rw [← at0] at M
        refine ⟨_, gd, G.ps, ks, _, lv n, g, gV, M, hr, O.mgc k f x h1 h3, fn, kb, kn1, fun Xs a d0 ds zs l vs ws H Q E q1 q2 q3 q4 q5 q6 q7 q8 => ?_⟩
        have q7' : S.kwf f kn (d0 :: ds) zs = some l := q7
        obtain ⟨e1, e2, e3⟩ := kwf_ok z q7'
        subst e1
        have rt := kr (fun b => Xs b ∨ b = a) zs ws H e3 q6
        have ev : gV (.ref a :: vs) ws = .ref a :: (vs ++ gR ws) := by
          rw [kg _ _ (by rw [← e2]; simp [q5.length])]; rfl
        rw [ev]
        exact ⟨Xs, a, d0, ds ++ fillK G.lo kn zs 0 G.dfl, vs ++ gR ws, rfl, by have := kwf_len z c2G q7'; simpa using this, q1, q2, q3, rt.append q5, q8⟩
      kwc := fun _ f F0 kn h1 hg h2 => by
        obtain ⟨G, z, e0⟩ := fn_get h1
        subst e0
        have hgo : G.ow = none := Option.isNone_iff_eq_none.mp hg
        obtain ⟨gd, dv2, kw2, GD, gm, _, gk⟩ := O.fn f G z
        obtain ⟨ks, g, gV, gR, kb, kn1, kg, kr⟩ := gk kn h2
        obtain ⟨_, c2G, _, _, _⟩ := chkF_ok (O.chk f G z)
        have hmu : G.mu = false := by unfold FD.mu; rw [hgo]
        have at0 : G.at_ S.tb = (G.gn, none) := by unfold FD.at_; rw [hgo]
        have fn := ih f G z gd dv2 kw2 GD
        unfold spF at fn
        rw [hmu] at fn
        refine ⟨_, gd, G.ps, ks, _, lv n, g, gV, hr0, by rw [at0]; exact gm hgo, GD.kp, fn, kb, kn1, fun Xs ds zs l vs ws H Q E q1 q2 q3 q4 q5 q6 => ⟨Xs, l, kwf_len z c2G q5, q1, ?_, q6⟩⟩
        obtain ⟨e1, e2, e3⟩ := kwf_ok z q5
        subst e1
        rw [kg _ _ (by rw [← e2, q3.length])]
        exact (kr Xs zs ws H e3 q4).append q3
      mt := fun _ k m f mu h1 => by
        obtain ⟨g1, g2, G, z, o1, o2, o3⟩ := O.ms k m f mu h1
        obtain ⟨gd, dv2, kw2, GD, gm, gb, _⟩ := O.fn f G z
        obtain ⟨_, c2G, _, _, _⟩ := chkF_ok (O.chk f G z)
        rw [o3] at c2G
        have c2G : G.lo = G.ps.length := by simpa using c2G
        have hhi : G.hi = G.ps.length := by unfold FD.hi; rw [o3]; rfl
        obtain ⟨vs2, us2, b1, b2, b3⟩ := gb G.lo (Nat.le_refl _) (by omega)
        have hv : vs2 = [] := by
          have := (b3 (fun _ => none) (fun _ => False)).length
          rw [o3] at this
          exact List.eq_nil_of_length_eq_zero (by simpa using this)
        subst hv
        cases b2
        have hmu : G.mu = mu := by unfold FD.mu; rw [o1]
        have at0 : He.fAd K (G.at_ S.tb) = He.ma K (cAd S.tb K k) (mtN S.tb m) := by unfold FD.at_; rw [o1, o2]; rfl
        have fn := ih f G z gd dv2 kw2 GD
        unfold spF at fn
        rw [hmu] at fn
        rw [← at0] at g2
        refine ⟨g1, G.fr, _, gd, G.ps, _, lv n, G.ps.length, g2, hr0, fn, b1, ?_, fun ds hd => ?_, fun vs H Q E q => ?_⟩
        · show S.frf f = G.fr
          unfold Prg.frf
          rw [z]
        · obtain ⟨q1, q2⟩ := callN_len z hd
          omega
        · cases mu with
          | true => exact q
          | false => exact q
    }
    fnn := fun _ => rfl
    kind := S1.kind
    pas := passes_of rfl
    stk := rfl
    frm := rfl
    exr := O.exr
    exm := O.exm
    exc := O.exc
    isx := fun k h => of_decide_eq_true h
    noe := fun _ a k h => h
    frf := fun f F0 h => by
      obtain ⟨G, z, e0⟩ := fn_get h
      subst e0
      show S.frf f = G.fr
      unfold Prg.frf
      rw [z] }
theorem callN_eq {n f : Nat} {F : FD} (hf : S.fs[f]? = some F) (ds : List D) : callN S (n + 1) f ds = runF (S.base (callN S n)) F ds := by
  show (match S.fs[f]? with | some F => runF (S.base (callN S n)) F ds | none => .bad) = _
  rw [hf]
theorem pairM_ok {d : D} {e : Ev} {r : R D} (h : pairM d e = r) (hb : r ≠ .bad) : ∃ s, e[0]? = some (Sl.val s true) ∧ r = .ok (.tup [d, s]) := by
  unfold pairM at h
  split at h
  · exact ⟨_, by assumption, h.symm⟩
  · exact absurd h.symm hb
theorem fn_sound (O : PgOk S K mg w) (hs : base.NoSeer) (ht : P.given.tree = none) : ∀ (n f : Nat) (F : FD), S.fs[f]? = some F → ∀ fd dvs kws, FunD K F.nm (F.qual S.tb) (defArgs F.st) (defBody F.st) (defScope F.st) dvs kws (He.fAd K (F.at_ S.tb)) fd →
    FnOk P w K mg base (L2.CX P w) (lv n) (He.fAd K (F.at_ S.tb)) fd F.ps (spF S K n f F) := by
  intro n
  induction n with
  | zero =>
    intro f F hf fd dvs kws FD
    have no : ∀ {vs H Q E}, ¬ spF S K 0 f F vs H Q E := fun {vs H Q E} h => by
      unfold spF at h
      split at h
      · obtain ⟨_, _, _, _, _, _, _, _, _, _, _, q⟩ := h
        exact q
      · obtain ⟨Xs, ds, _, _, _, q⟩ := h
        exact q
    exact ⟨fun vs H Q E h => (no h).elim, fun A outer s H args us vs Q E _ _ _ _ h => (no h).elim⟩
  | succ n ih =>
    intro f F hf fd dvs kws FD
    have ck := O.chk f F hf
    obtain ⟨c1, c2, c3, c4, c5⟩ := chkF_ok ck
    have S1 := C8.fnScope_by c1
    cases hmu : F.mu with
    | false =>
      have hsp : spF S K (n + 1) f F = spV S.tb K F.fr F.ps.length (callN S (n + 1) f) := by unfold spF; rw [hmu]; rfl
      rw [hsp]
      refine FD.ok (k := lv n + 1) S1 (fun vs H Q E ⟨Xs, ds, h1, _, h2, _⟩ => by rw [h2.length, h1]) fun cdv A outer s H vs Q E hr ⟨Xs, ds, hl, hx, hrep, hq⟩ => ?_
      have hck := sok_of O hs ht n ih ck (outer := outer) (s := s) (H := H) (E := E) (Xs := Xs) (SA := fun _ => False) (fun _ _ z => z) hr
      refine ⟨_, (ss F.body).S hck c5, e0 F.N ds, env_start (by rw [hl]; exact c3) hx hrep, ?_⟩
      have hq' : PostF S.tb K F.fr Xs H (outF (exS (S.base (callN S n)) F.body (e0 F.N ds))) Q E := by
        have : callN S (n + 1) f ds = outF (exS (S.base (callN S n)) F.body (e0 F.N ds)) := by
          rw [callN_eq hf]
          unfold runF
          have a1 : F.lo ≤ ds.length ∧ ds.length ≤ F.ps.length := ⟨by omega, by omega⟩
          have : F.dfl.drop (ds.length - F.lo) = [] := by rw [List.drop_eq_nil_iff]; omega
          rw [if_pos a1, hmu, this, List.append_nil]
          rfl
        rw [← this]
        exact hq
      have same : ∀ {σ1 : L2.St} {H1 : Hp} {e1 : Ev}, Evo (Own (e0 F.N ds) (L2.start F.N vs)) H (Own e1 σ1) H1 → Same H H1 := fun {σ1 H1 e1} ev b o h => ev.keep b o h own_e0
      show PostS (fx S K n Xs (fun _ => False) E) F.fr (L2.start F.N vs) H (e0 F.N ds) (exS (S.base (callN S n)) F.body (e0 F.N ds)) _
      cases zz : exS (S.base (callN S n)) F.body (e0 F.N ds) with
      | bad => rw [zz] at hq'; exact hq'
      | bk e1 => rw [zz] at hq'; exact hq'.elim
      | ct e1 => rw [zz] at hq'; exact hq'.elim
      | exc k e1 => rw [zz] at hq'; exact fun σ1 H1 ev he => hq' H1 (same ev)
      | nx e1 =>
        rw [zz] at hq'
        exact fun σ1 H1 ev he => hq' _ H1 (same ev) (by cases F.fr <;> rfl)
      | rt d e1 =>
        rw [zz] at hq'
        exact fun v σ1 H1 ev he r => hq' v H1 (same ev) (RepR.toM (fun a z => z.elim (fun z => (own_e0 z).elim) id) r)
    | true =>
      have hsp : spF S K (n + 1) f F = spM S.tb K F.fr F.ps.length (callN S (n + 1) f) := by unfold spF; rw [hmu]; rfl
      rw [hsp]
      refine FD.ok (k := lv n + 1) S1 (fun vs H Q E ⟨Xs, a, d0, ds, ws, h0, h1, _, _, _, h2, _⟩ => by rw [h0, List.length_cons, h2.length, h1]) fun cdv A outer s H vs Q E hr ⟨Xs, a, d0, ds, ws, h0, hl, hx, na, ro, hrep, hq⟩ => ?_
      subst h0
      have hck := sok_of O hs ht n ih ck (outer := outer) (s := s) (H := H) (E := E) (Xs := Xs) (SA := fun b => b = a) (fun z => by rw [hmu] at z; cases z) hr
      refine ⟨_, (ss F.body).S hck c5, e0M F.N (d0 :: ds), env_startM (by omega) hx na ro hrep, ?_⟩
      have hq' : PostMu S.tb K F.fr Xs a H (outMu (exS (S.base (callN S n)) F.body (e0M F.N (d0 :: ds)))) Q E := by
        have : callN S (n + 1) f (d0 :: ds) = outMu (exS (S.base (callN S n)) F.body (e0M F.N (d0 :: ds))) := by
          rw [callN_eq hf]
          unfold runF
          have a1 : F.lo ≤ (d0 :: ds).length ∧ (d0 :: ds).length ≤ F.ps.length := by rw [List.length_cons]; omega
          have : F.dfl.drop ((d0 :: ds).length - F.lo) = [] := by rw [List.drop_eq_nil_iff, List.length_cons]; omega
          rw [if_pos a1, hmu, this, List.append_nil]
          rfl
        rw [← this]
        exact hq
      have evo : ∀ {σ1 : L2.St} {H1 : Hp} {e1 : Ev}, Evo (Own (e0M F.N (d0 :: ds)) (L2.start F.N (.ref a :: ws))) H (Own e1 σ1) H1 → Evo (fun b => b = a) H (fun b => b = a) H1 := fun {σ1 H1 e1} ev => ⟨fun b o h n => ev.keep b o h fun z => n (own_e0M.mp z), fun b z => .inl z⟩
      have back : ∀ {σ1 : L2.St} {H1 : Hp} {e1 : Ev} {s : D}, EnvOk (fx S K n Xs (fun b => b = a) E) H1 σ1 e1 → e1[0]? = some (Sl.val s true) → Own e1 σ1 a ∧ RepO S.tb K H1 (AV Xs e1 σ1) a s := fun {σ1 H1 e1 s} he hz => by
        obtain ⟨b, q1, _, q3⟩ := he.own 0 s hz
        have := he.slf a s rfl hz
        rw [this] at q1
        cases q1
        exact ⟨⟨0, s, hz, this⟩, q3⟩
      show PostS (fx S K n Xs (fun b => b = a) E) F.fr (L2.start F.N (.ref a :: ws)) H (e0M F.N (d0 :: ds)) (exS (S.base (callN S n)) F.body (e0M F.N (d0 :: ds))) _
      cases zz : exS (S.base (callN S n)) F.body (e0M F.N (d0 :: ds)) with
      | bad => rw [zz] at hq'; exact hq'
      | bk e1 => rw [zz] at hq'; exact hq'.elim
      | ct e1 => rw [zz] at hq'; exact hq'.elim
      | exc k e1 => rw [zz] at hq'; exact fun σ1 H1 ev he => hq' H1 (evo ev)
      | nx e1 =>
        rw [zz] at hq'
        have hq2 : PostMu S.tb K F.fr Xs a H (pairM .non e1) Q E := hq'
        generalize hg : pairM .non e1 = r at hq2
        obtain ⟨s1, hs1, e2⟩ := pairM_ok hg fun z => by rw [z] at hq2; exact hq2
        subst e2
        intro σ1 H1 ev he
        obtain ⟨oa, ra⟩ := back he hs1
        refine hq2 .non H1 (evo ev) (RepO.evo' (Evo.less fun b z => ?_) ra fun _ z => z) (by cases F.fr <;> rfl)
        rcases z with (z | z) | ⟨_, z, _⟩
        · exact .inl z
        · rw [z]; exact .inr oa
        · cases z
      | rt d e1 =>
        rw [zz] at hq'
        have hq2 : PostMu S.tb K F.fr Xs a H (pairM d e1) Q E := hq'
        generalize hg : pairM d e1 = r at hq2
        obtain ⟨s1, hs1, e2⟩ := pairM_ok hg fun z => by rw [z] at hq2; exact hq2
        subst e2
        intro v σ1 H1 ev he r
        obtain ⟨oa, ra⟩ := back he hs1
        by_cases hfd : (F.fr && ownable d) = true
        · obtain ⟨f1, f2⟩ := and2 hfd
          unfold RepR at r
          rw [if_pos hfd] at r
          obtain ⟨p, q1, q2, q3, q5, q4⟩ := r
          subst q1
          have npa : p ≠ a := q3 a s1 rfl hs1
          have hp : H p = none := by
            rcases q2 with q2 | q2
            · exact absurd (own_e0M.mp q2) npa
            · exact q2
          have ra' : RepO S.tb K H1 (fun b => (Xs b ∨ b = a) ∨ b = p) a s1 := by
            rcases q5 with q5 | q5
            · refine RepO.evo' (Evo.less fun b z => ?_) ra fun _ z => z
              rcases z with (z | z) | z
              · exact .inl z
              · rw [z]; exact .inr oa
              · rw [z]; exact .inr q5
            · obtain ⟨b, w1, _, w3⟩ := q5.own 0 s1 hs1
              have := he.slf a s1 rfl hs1
              rw [this] at w1
              cases w1
              refine RepO.evo' (Evo.less fun b z => ?_) w3 fun _ z => z
              rcases z with (z | z) | z
              · exact .inl (.inl z)
              · rw [z]; exact .inr oa
              · exact .inl (.inr z)
          have rd : RepO S.tb K H1 (fun b => (Xs b ∨ b = a) ∨ b = p) p d := RepO.evo' (Evo.less fun b z => by
            rcases z with (z | z) | z
            · exact .inl (.inl z)
            · rw [z]; exact .inl (.inr oa)
            · exact .inr z) q4 fun _ z => z
          refine hq2 (.ref p) H1 (evo ev) (RepO.evo' (Evo.less fun b z => ?_) ra' fun _ z => z) ?_
          · rcases z with z | ⟨_, _, z⟩
            · exact .inl z
            · cases z; exact .inr rfl
          · rw [f1]
            cases d <;> first | exact ⟨p, rfl, hp, rd⟩ | cases f2
        · unfold RepR at r
          rw [if_neg hfd] at r
          have rr : Rep S.tb K H1 (fun b => Xs b ∨ b = a) d v := Rep.evo (Evo.less fun b z => z.imp id fun z => by rw [z]; exact oa) r
          refine hq2 v H1 (evo ev) (RepO.evo' (Evo.less fun b z => ?_) ra fun _ z => z) ?_
          · rcases z with (z | z) | ⟨z1, z2, _⟩
            · exact .inl z
            · rw [z]; exact .inr oa
            · exact absurd (by rw [z1, z2]; rfl) hfd
          · cases hfr : F.fr with
            | false => exact rr
            | true => rw [hfr] at hfd; cases d <;> first | exact rr | exact absurd rfl hfd
end
end VE
namespace VE
open PySem PySem.Spec PyProof.Rows L2
def dvOf : D → He.Dv
  | .bl b => .bl b
  | .int i => .int i
  | .str s => .str (dS s)
  | _ => .non
def isScal : D → Bool
  | .non => true | .bl _ => true | .int _ => true | .str _ => true | _ => false
theorem dv_rep {tb : Tb} {K : PySem.W.Frag} {d : D} (h : isScal d = true) (H : Hp) (A : Addr → Prop) : Rep tb K H A d ((dvOf d).v K) := by
  cases d <;> first | rfl | cases h
theorem dvs_rep {tb : Tb} {K : PySem.W.Frag} : ∀ {ds : List D}, ds.all isScal = true → ∀ H A, RepL tb K H A ds (ds.map fun d => (dvOf d).v K)
  | [], _, _, _ => .nil
  | d :: ds, h, H, A => by
    obtain ⟨h1, h2⟩ := and2 (show (isScal d && ds.all isScal) = true from h)
    exact RepL.cons (dv_rep h1 H A) (dvs_rep h2 H A)
def tupA (K : PySem.W.Frag) (a : Addr) (vs : List He.Dv) : Bool := match K.lookup a with
  | some ⟨.type c, _, .seq its _, _⟩ => decide (c = "tuple") && (decide (its.size ≤ sizeLine) && He.relAll (vs.map (He.Dv.v K)) its.toList)
  | _ => false
theorem tupA_ok {K : PySem.W.Frag} {a : Addr} {vs : List He.Dv} (h : tupA K a vs = true) : KTup K a (vs.map (He.Dv.v K)) := by
  unfold tupA at h
  cases q : K.lookup a with
  | none =>
    rw [q] at h
    cases h
  | some o =>
    obtain ⟨oc, od, dt, osl⟩ := o
    rw [q] at h
    cases oc with
    | type c =>
      cases dt with
      | seq its n =>
        obtain ⟨h1, h2⟩ := and2 (show (decide (c = "tuple") && (decide (its.size ≤ sizeLine) && He.relAll (vs.map (He.Dv.v K)) its.toList)) = true from h)
        obtain ⟨h3, h4⟩ := and2 h2
        exact ⟨_, its, n, q, congrArg Value.type (of_decide_eq_true h1), rfl, of_decide_eq_true h3, He.relAll_ok h4⟩
      | _ => cases h
    | _ => cases dt <;> cases h
def keyB (K : PySem.W.Frag) : List (List Nat) → Value → Bool
  | [s], .str x _ => decide (x.cps.toList = s)
  | [s, z], .ref b => (match K.lookup b with
    | some ⟨.type c, _, .seq it _, _⟩ => (match it.toList with
      | [.str x _, .str y _] => decide (c = "tuple") && (decide (x.cps.toList = s) && decide (y.cps.toList = z))
      | _ => false)
    | _ => false)
  | _, _ => false
theorem keyB_ok {K : PySem.W.Frag} {k : List (List Nat)} {u : Value} (h : keyB K k u = true) : KeyT K k u := by
  unfold keyB at h
  split at h
  · rename_i s x t
    have := of_decide_eq_true h
    exact ⟨t, by rw [← this]⟩
  · rename_i s z b
    split at h
    · rename_i c od it n sl q
      split at h
      · rename_i x t1 y t2 q2
        obtain ⟨h1, h2⟩ := and2 h
        obtain ⟨h2, h3⟩ := and2 h2
        have h1 := of_decide_eq_true h1
        have h2 := of_decide_eq_true h2
        have h3 := of_decide_eq_true h3
        subst h1
        exact ⟨b, _, it, n, t1, t2, rfl, q, rfl, rfl, by rw [q2, ← h2, ← h3]⟩
      · cases h
    · cases h
  · cases h
def valB (K : PySem.W.Frag) : D → Value → Bool
  | .tup ds, .ref b => ds.all isScal && tupA K b (ds.map dvOf)
  | .tup _, _ => false
  | d, u => isScal d && He.relB ((dvOf d).v K) u
theorem valB_ok {tb : Tb} {K : PySem.W.Frag} {d : D} {u : Value} (h : valB K d u = true) : ∃ v, L2.RelV v u ∧ ∀ H A, Rep tb K H A d v := by
  unfold valB at h
  split at h
  · rename_i ds b
    obtain ⟨h1, h2⟩ := and2 h
    exact ⟨.ref b, rfl, fun H A => ⟨b, _, rfl, .inr (tupA_ok h2), by rw [List.map_map]; exact dvs_rep h1 H A⟩⟩
  · cases h
  · obtain ⟨h1, h2⟩ := and2 h
    exact ⟨_, He.relB_ok h2, fun H A => dv_rep h1 H A⟩
def rowsB (K : PySem.W.Frag) : List (List (List Nat)) → List D → List DictEntry → Bool
  | [], [], [] => true
  | k :: ks, d :: ds, e :: es => keyB K k e.key && (valB K d e.val && rowsB K ks ds es)
  | _, _, _ => false
theorem rowsB_ok {tb : Tb} {K : PySem.W.Frag} : ∀ {ks : List (List (List Nat))} {ds : List D} {es : List DictEntry}, rowsB K ks ds es = true → ∃ vs, DcE K ks es vs ∧ ∀ H A, RepL tb K H A ds vs
  | [], [], [], _ => ⟨[], ⟨rfl, rfl⟩, fun _ _ => .nil⟩
  | k :: ks, d :: ds, e :: es, h => by
    obtain ⟨h1, h2⟩ := and2 (show (keyB K k e.key && (valB K d e.val && rowsB K ks ds es)) = true from h)
    obtain ⟨h2, h3⟩ := and2 h2
    obtain ⟨v, q1, q2⟩ := valB_ok (tb := tb) h2
    obtain ⟨vs, r1, r2⟩ := rowsB_ok (tb := tb) h3
    exact ⟨v :: vs, ⟨e, es, v, vs, rfl, rfl, keyB_ok h1, q1, r1⟩, fun H A => RepL.cons (q2 H A) (r2 H A)⟩
  | [], [], _ :: _, h => by cases h
  | [], _ :: _, _, h => by cases h
  | _ :: _, [], _, h => by cases h
  | _ :: _, _ :: _, [], h => by cases h
def dctB (K : PySem.W.Frag) (x : Str) (ks : List (List (List Nat))) (ds : List D) : Bool := decide ks.Nodup && ((He.Fa.glo x).ok K && match K.lookup (He.ga K x) with
  | some ⟨.type c, none, .dict es _, sl⟩ => decide (c = "dict") && (sl.isEmpty && rowsB K ks ds es.toList)
  | _ => false)
theorem dctB_ok {tb : Tb} {K : PySem.W.Frag} {x : Str} {ks : List (List (List Nat))} {ds : List D} (ht : x ∈ tb.tab) (h : dctB K x ks ds = true) : (He.Fa.glo x).ok K = true ∧ ∃ vs, KDc tb K (He.ga K x) ks vs ∧ ∀ H A, RepL tb K H A ds vs := by
  unfold dctB at h
  obtain ⟨h1, h⟩ := and2 h
  obtain ⟨h2, h⟩ := and2 h
  refine ⟨h2, ?_⟩
  split at h
  · rename_i c es n sl q
    obtain ⟨h3, h⟩ := and2 h
    obtain ⟨h4, h5⟩ := and2 h
    have h3 := of_decide_eq_true h3
    have h4 := Array.isEmpty_iff.mp h4
    subst h3 h4
    obtain ⟨vs, r1, r2⟩ := rowsB_ok (tb := tb) h5
    exact ⟨vs, ⟨of_decide_eq_true h1, x, ht, rfl, es, n, q, r1⟩, r2⟩
  · cases h
def gloB (K : PySem.W.Frag) (x : Str) : D → Bool
  | .int i => (He.Fa.int x i).ok K
  | .str s => (He.Fa.str x (dS s)).ok K
  | .tup ds => ds.all isScal && (He.Fa.glo x).ok K && He.tupB K x (ds.map dvOf)
  | .frz ds => ds.all isScal && (He.Fa.glo x).ok K && He.lstB K x (ds.map dvOf)
  | .dct ks ds => dctB K x ks ds
  | _ => false
def excCB (K : PySem.W.Frag) (D : Addr) : Bool :=
  He.eqO (PySem.W.findIn K (.ref D) "__getattribute__") (some (some (.builtin "BaseException.__getattribute__"))) && He.eqO (PySem.W.findIn K (.ref D) "__getattr__") (some none) && decide (PySem.W.subIn K (.ref D) (.type "BaseException") = some true) &&
    PySem.W.hasDictIn K D && He.eqO (PySem.W.findIn K (.ref D) "__class__") (some (some (.builtin "object.__class__"))) && He.eqO (PySem.W.specialIn K (.builtin "object.__class__") "__get__") (some (some (.builtin "getset_descriptor.__get__"))) &&
    decide (PySem.W.takesIn K (.builtin "object.__class__") = some true) && decide (PySem.W.mroIn K D (.type "object") = some true)
theorem excCB_ok {K : PySem.W.Frag} {D : Addr} (h : excCB K D = true) : ExcC K D := by
  obtain ⟨h, h8⟩ := and2 h
  obtain ⟨h, h7⟩ := and2 h
  obtain ⟨h, h6⟩ := and2 h
  obtain ⟨h, h5⟩ := and2 h
  obtain ⟨h, h4⟩ := and2 h
  obtain ⟨h, h3⟩ := and2 h
  obtain ⟨h1, h2⟩ := and2 h
  exact ⟨He.eqO_ok h1, He.eqO_ok h2, of_decide_eq_true h3, h4, He.eqO_ok h5, He.eqO_ok h6, of_decide_eq_true h7, of_decide_eq_true h8⟩
def kwA (p : Str × Option Str) (x : Str) (K : PySem.W.Frag) : Addr := match K.lookup (He.fAd K p) with
  | some ⟨_, _, .func fd, _⟩ => (match fd.kwdefaults with
    | .ref D => (match PySem.W.nsIn K D x with
      | some (some (.ref a)) => a
      | _ => 0)
    | _ => 0)
  | _ => 0
def dvD (p : Str × Option Str) (x : Str) : D → He.Dv
  | .tup _ => .adr (kwA p x)
  | d => dvOf d
def dfOk (K : PySem.W.Frag) (p : Str × Option Str) (x : Str) : D → Bool
  | .tup ds => ds.all isScal && tupA K (kwA p x K) (ds.map dvOf)
  | d => isScal d
theorem df_rep {tb : Tb} {K : PySem.W.Frag} {p : Str × Option Str} {x : Str} {d : D} (h : dfOk K p x d = true) (H : Hp) (A : Addr → Prop) : Rep tb K H A d ((dvD p x d).v K) := by
  cases d with
  | tup ds =>
    obtain ⟨h1, h2⟩ := and2 (show (ds.all isScal && tupA K (kwA p x K) (ds.map dvOf)) = true from h)
    exact ⟨_, _, rfl, .inr (tupA_ok h2), by rw [List.map_map]; exact dvs_rep h1 H A⟩
  | non => rfl
  | bl _ => rfl
  | int _ => rfl
  | str _ => rfl
  | _ => cases h
def FD.kwp (F : FD) : List (Str × D) := (F.ps.drop F.lo).zip F.dfl
def FD.kwd (tb : Tb) (F : FD) : List (Str × He.Dv) := F.kwp.map fun q => (q.1, dvD (F.at_ tb) q.1 q.2)
def FD.kwv (tb : Tb) (K : PySem.W.Frag) (F : FD) : List (Str × V) := (F.kwd tb).map fun q => (q.1, q.2.v K)
def faOf (S : Prg) : List He.Fa := bnames.map .free ++ (S.fs.filter fun F => F.ow.isNone).map (fun F => .glo F.gn) ++ S.exs.map (fun k => .glo (cNm S.tb k)) ++ S.exs.map (fun k => .exc (cNm S.tb k)) ++ (S.exs.flatMap fun k => S.exs.map fun t => .exm (cNm S.tb k) (cNm S.tb t) (S.su k t)) ++
  S.cs.map (fun c => .glo (cNm S.tb c.1)) ++ S.cs.map (fun c => .cls (cNm S.tb c.1)) ++ S.cs.map (fun c => .mkr (cNm S.tb c.1)) ++ S.fk.map (fun c => .noat (cNm S.tb c.1) (fNm S.tb c.2)) ++ S.ms.map (fun c => .meth (cNm S.tb c.1.1) (mtN S.tb c.1.2)) ++ S.fk.map (fun c => .cls (cNm S.tb c.1)) ++ S.ms.map (fun c => .cls (cNm S.tb c.1.1))
def fnOf (S : Prg) : List He.DefD := S.fs.map fun F => ⟨F.at_ S.tb, F.nm, F.qual S.tb, defArgs F.st, defBody F.st, defScope F.st, [], F.kwd S.tb⟩
def exOf (S : Prg) (K : PySem.W.Frag) : Bool := (S.exs.all fun k => excCB K (cAd S.tb K k)) && (S.exs.all fun k => (S.exs.all fun t => decide (PySem.W.kitOne K (.ref (cAd S.tb K k)) (.ref (cAd S.tb K t)) = some (S.su k t))) && decide (PySem.W.kitOne K (.ref (cAd S.tb K k)) (.type "ValueError") = some (S.su k 1000))) &&
  (S.glo.all fun p => gloB K p.1 p.2) && (!S.isq || He.eqO (PySem.W.nsIn K mainGlobals "isqrt") (some (some (.builtin "math.isqrt")))) && S.fs.all fun F => F.kwp.all fun q => dfOk K (F.at_ S.tb) q.1 q.2
def keyV (K : PySem.W.Frag) (e : DictEntry) : Option (List (List Nat) × Int) := match e.key with
  | .str x _ => some ([x.cps.toList], e.hash)
  | .ref b => (match K.lookup b with
    | some ⟨.type c, _, .seq it _, _⟩ => (match it.toList with
      | [.str x _, .str y _] => if c = "tuple" then some ([x.cps.toList, y.cps.toList], e.hash) else none
      | _ => none)
    | _ => none)
  | _ => none
def dicV (K : PySem.W.Frag) (a : Addr) : Option (List (Option (List (List Nat) × Int))) := match K.lookup a with
  | some ⟨.type c, none, .dict es _, sl⟩ => if c = "dict" ∧ sl.isEmpty = true ∧ (a == sysModules) = false then some (es.toList.map (keyV K)) else none
  | _ => none
def tkeys (S : Prg) (x : Str) : List (List (List Nat)) := match S.glo.lookup x with
  | some (.dct ks _) => ks
  | _ => []
def refsV (o : Obj) : List Addr := He.refsD o ++ match o.data with
  | .dict es _ => es.toList.flatMap fun e => He.refV e.key
  | _ => []
def addV {α : Type} (k : Nat → List Addr → α) : List Addr → Nat → List Addr → α
  | [], m, nw => k m nw
  | a :: as, m, nw => HandSHeadRun.frNat a fun a => (match Nat.beq (Nat.land (Nat.shiftRight m a) 1) 0 with
    | true => HandSHeadRun.frNat (Nat.lor m (Nat.shiftLeft 1 a)) fun m => addV k as m (a :: nw)
    | false => addV k as m nw)
def expV {α : Type} (g : Addr → Option Obj) (k : Nat → List Addr → α) : List Addr → Nat → List Addr → α
  | [], m, nw => k m nw
  | a :: as, m, nw => addV (fun m nw => expV g k as m nw) (match g a with
    | some o => refsV o
    | none => []) m nw
def asW (g : Addr → Option Obj) : Nat → List Addr → Nat → List Addr → List Addr
  | 0, fr, _, acc => acc ++ fr
  | n + 1, fr, m, acc => expV g (fun m nw => asW g n nw.reverse m (acc ++ fr)) fr m []
def asV (g : Addr → Option Obj) (n : Nat) : List Addr := asW g n [mainGlobals] (Nat.shiftLeft 1 mainGlobals) []
abbrev AlV : Type := (He.AlD × Bool) × List (Option (List (Option (List (List Nat) × Int))))
def obsK (S : Prg) (K : PySem.W.Frag) : AlV := ((He.obsD (faOf S) (fnOf S) K, exOf S K), S.tb.tab.map fun x => dicV K (He.ga K x))
def valK (S : Prg) (w : World) : AlV := ((He.valD (fnOf S), true), S.tb.tab.map fun x => some ((tkeys S x).map fun k => some (k, KeyHs w.params k)))
def hookV (n : Nat) (S : Prg) : PySem.W.Hook where
  α := AlV
  obs := fun s => obsK S (He.frG s.heap.get? (asV s.heap.get? n))
  val := fun w => valK S w
  says := fun w h => ∃ K : PySem.W.Frag, K.In h ∧ obsK S K = valK S w
  of := fun _ _ e => ⟨_, He.frG_in, e⟩
  keeps := fun _ _ _ ⟨K, hK, c⟩ k => ⟨K, PySem.W.Frag.In.keeps hK k, c⟩
def obV (n : Nat) (S : Prg) (g : Addr → Option Obj) : AlV := obsK S (He.frG g (asV g n))
theorem obV_eq {n : Nat} {S : Prg} {g : Addr → Option Obj} {s : Shared} (h : ∀ a, g a = s.heap.get? a) : obV n S g = (hookV n S).obs s := by
  have e : g = s.heap.get? := funext h
  subst e
  rfl
theorem keyV_ok {K : PySem.W.Frag} {e : DictEntry} {k : List (List Nat)} {i : Int} (h : keyV K e = some (k, i)) : KeyT K k e.key ∧ e.hash = i := by
  obtain ⟨eh, ek, ev⟩ := e
  unfold keyV at h
  cases ek with
  | str x t =>
    have h' : some ([x.cps.toList], eh) = some (k, i) := h
    cases h'
    exact ⟨⟨t, by simp⟩, rfl⟩
  | ref b =>
    have h' : (match K.lookup b with
      | some ⟨.type c, _, .seq it _, _⟩ => (match it.toList with
        | [.str x _, .str y _] => if c = "tuple" then some ([x.cps.toList, y.cps.toList], eh) else none
        | _ => none)
      | _ => none) = some (k, i) := h
    split at h'
    · rename_i c od it n sl q
      split at h'
      · rename_i x t1 y t2 q2
        split at h'
        · rename_i ec
          cases h'
          subst ec
          exact ⟨⟨b, _, it, n, t1, t2, rfl, q, rfl, rfl, by rw [q2]⟩, rfl⟩
        · cases h'
      · cases h'
    · cases h'
  | _ => cases h
theorem dicV_ok {K : PySem.W.Frag} {w : World} {a : Addr} {ks : List (List (List Nat))} (h : dicV K a = some (ks.map fun k => some (k, KeyHs w.params k))) : DicOk w K a := by
  unfold dicV at h
  split at h
  · rename_i c es n sl q
    split at h
    · rename_i z
      obtain ⟨z1, z2, z3⟩ := z
      refine ⟨z3, fun es' n' lo e he => ?_⟩
      rw [q] at lo
      cases lo
      have h1 : es.toList.map (keyV K) = ks.map fun k => some (k, KeyHs w.params k) := Option.some.inj h
      have : keyV K e ∈ ks.map fun k => some (k, KeyHs w.params k) := by rw [← h1]; exact List.mem_map_of_mem he
      obtain ⟨k, _, ek⟩ := List.mem_map.mp this
      obtain ⟨q1, q2⟩ := keyV_ok ek.symm
      exact ⟨k, q1, q2⟩
    · cases h
  · cases h
def BindF (tb : Tb) (F : FD) : Prop := ∀ (K : PySem.W.Frag) (fd : FuncData), FunD K F.nm (F.qual tb) (defArgs F.st) (defBody F.st) (defScope F.st) [] (F.kwv tb K) (He.fAd K (F.at_ tb)) fd → ∀ n, F.lo ≤ n → n ≤ F.hi → ∃ us, Binds K fd F.ps us ∧ Vals (((F.kwv tb K).map (·.2)).drop (n - F.lo)) us
def BindAll (tb : Tb) : List FD → Prop
  | [] => True
  | F :: r => BindF tb F ∧ BindAll tb r
theorem BindAll.get {tb : Tb} : ∀ {l : List FD}, BindAll tb l → ∀ {i : Nat} {F : FD}, l[i]? = some F → BindF tb F
  | [], _, _, _, h => by simp at h
  | _ :: _, ⟨h, _⟩, 0, _, e => by simp at e; subst e; exact h
  | _ :: _, ⟨_, h⟩, i + 1, _, e => BindAll.get h (i := i) (by simpa using e)
theorem kwv_nil {tb : Tb} {K : PySem.W.Frag} {F : FD} (h0 : F.dfl = []) : F.kwv tb K = [] := by
  unfold FD.kwv FD.kwd FD.kwp
  rw [h0, List.zip_nil_right]
  rfl
theorem bindF_of {tb : Tb} {F : FD} (h0 : F.dfl = []) (hl : F.lo = F.ps.length) (h : ∀ (kV doc pm : Value) (an : Option Addr) (cdv ct : Value) (us : List Value), us.length = F.ps.length → bindArgs (PySem.W.fnOf F.nm (F.qual tb) (defArgs F.st) (defBody F.st) (defScope F.st) .none kV doc pm an cdv ct) ⟨us, []⟩ = pure (F.ps.zip us)) : BindF tb F := by
  intro K fd FD n h1 h2
  rw [kwv_nil h0] at FD ⊢
  refine ⟨[], FunD.bindsN FD h, ?_⟩
  rw [List.map_nil, List.drop_nil]
  exact .nil
theorem kwv_names {tb : Tb} {K : PySem.W.Frag} {F : FD} (hl : F.lo + F.dfl.length = F.ps.length) : (F.kwv tb K).map (·.1) = F.ps.drop F.lo ∧ (F.kwv tb K).length = F.dfl.length := by
  unfold FD.kwv FD.kwd FD.kwp
  rw [List.map_map, List.map_map]
  constructor
  · show ((F.ps.drop F.lo).zip F.dfl).map (fun q => q.1) = _
    exact List.map_fst_zip (by rw [List.length_drop]; omega)
  · simp; omega
theorem bindF_kw {tb : Tb} {F : FD} (hd : F.dfl ≠ []) (hl : F.lo + F.dfl.length = F.ps.length) (h : ∀ (D : Addr) (doc pm : Value) (an : Option Addr) (cdv ct : Value) (us ks : List Value), us.length = F.lo → ks.length = F.dfl.length →
    KwChain D ((F.ps.drop F.lo).zip ks) (bindArgs (PySem.W.fnOf F.nm (F.qual tb) (defArgs F.st) (defBody F.st) (defScope F.st) .none (.ref D) doc pm an cdv ct) ⟨us, []⟩) (F.ps.zip (us ++ ks))) : BindF tb F := by
  intro K fd FD n h1 h2
  obtain ⟨n1, n2⟩ := kwv_names (tb := tb) (K := K) hl
  have hh : F.hi = F.lo := by
    unfold VE.FD.hi
    cases e : F.dfl with
    | nil => exact absurd e hd
    | cons _ _ => rfl
  have en : n = F.lo := by omega
  subst en
  obtain ⟨ds, d1, d2⟩ := FunD.binds0 FD F.lo (fun z => hd (List.eq_nil_of_length_eq_zero (by rw [← n2, z]; rfl))) (by rw [n2]; exact hl) fun D doc pm an cdv ct us ks l1 l2 => by
    rw [n1]
    exact h D doc pm an cdv ct us ks l1 (by rw [l2, n2])
  exact ⟨ds, d2, by rw [Nat.sub_self, List.drop_zero]; exact d1⟩
def BindK (tb : Tb) (F : FD) (kn : List Nat) : Prop := ∀ (K : PySem.W.Frag) (fd : FuncData), FunD K F.nm (F.qual tb) (defArgs F.st) (defBody F.st) (defScope F.st) [] (F.kwv tb K) (He.fAd K (F.at_ tb)) fd → (∀ q ∈ F.kwp, dfOk K (F.at_ tb) q.1 q.2 = true) →
  ∃ (ks : List Str) (g : List Value → List Value → List Value) (gV : List V → List V → List V) (gR : List V → List V), KBn K fd F.ps F.lo ks g gV ∧ kn.map (fun i => F.ps[i]?) = ks.map some ∧ (∀ vs ws, vs.length = F.lo → gV vs ws = vs ++ gR ws) ∧
    ∀ (Xs : Addr → Prop) (zs : List D) (ws : List V) (H : Hp), zs.length = kn.length → RepL tb K H Xs zs ws → RepL tb K H Xs (fillK F.lo kn zs 0 F.dfl) (gR ws)
def BindsK (tb : Tb) (fs : List FD) : List (Nat × List Nat) → Prop
  | [] => True
  | p :: r => (∀ F, fs[p.1]? = some F → BindK tb F p.2) ∧ BindsK tb fs r
theorem BindsK.get {tb : Tb} {fs : List FD} : ∀ {l : List (Nat × List Nat)}, BindsK tb fs l → ∀ {p : Nat × List Nat}, p ∈ l → ∀ {F : FD}, fs[p.1]? = some F → BindK tb F p.2
  | _ :: _, ⟨h, hr⟩, p, hp, F, hF => by
    rcases List.mem_cons.mp hp with e | e
    · subst e; exact h F hF
    · exact BindsK.get hr e hF
def chkS (S : Prg) : Bool := (S.glo.all fun p => match p.2 with
  | .dct _ _ => decide (p.1 ∈ S.tb.tab)
  | _ => true) && (S.fs.all (fun F => chkF S F) && S.exs.all (fun t => decide (t < 1000) && decide (t < S.tb.cls.length)) && decide (S.tb.fld.Nodup) && decide (Str.empty ∉ S.tb.fld) && S.fk.all (fun p => decide (p.2 < S.tb.fld.length)) &&
  S.cs.all (fun p => decide (p.1 < S.tb.cls.length) && (match S.fs[p.2]? with
    | some F => decide (F.ow = some (p.1, true)) && decide (F.nm = "__init__")
    | none => false)) &&
  S.ms.all (fun p => decide (mtN S.tb p.1.2 ≠ Str.empty) && decide (mtN S.tb p.1.2 ∉ S.tb.fld) && (match S.fs[p.2.1]? with
    | some F => decide (F.ow = some (p.1.1, p.2.2)) && decide (F.nm = mtN S.tb p.1.2) && F.dfl.isEmpty
    | none => false)))
theorem kga {K : PySem.W.Frag} {h : Heap} {mg : Str → Option Value} (X : K.In h) (G : h.Ns mainGlobals mg) {fa : List He.Fa} {fn : List He.DefD} (c : He.SaysD fa fn K) {x : Str} (hx : He.Fa.glo x ∈ fa) : mg x = some (.ref (He.ga K x)) := He.glo_ok X G (c.facts hx)
theorem lookup_memP {α β : Type} [BEq α] [LawfulBEq α] {a : α} {b : β} : ∀ {l : List (α × β)}, l.lookup a = some b → (a, b) ∈ l
  | [], h => by cases h
  | (x, y) :: r, h => by
    rw [List.lookup_cons] at h
    cases q : a == x with
    | true =>
      rw [q] at h
      cases h
      rw [beq_iff_eq.mp q]
      exact List.mem_cons_self
    | false =>
      rw [q] at h
      exact List.mem_cons_of_mem _ (lookup_memP h)
theorem pgOk {S : Prg} {K : PySem.W.Frag} {h : Heap} {w : World} {mg : Str → Option Value} (X : K.In h) (G : h.Ns mainGlobals mg) (ho : obsK S K = valK S w) (hc : chkS S = true) (hb : BindAll S.tb S.fs) (hk : BindsK S.tb S.fs S.kws) : PgOk S K mg w := by
  have c : He.SaysD (faOf S) (fnOf S) K := congrArg (fun z : AlV => z.1.1) ho
  have hex : exOf S K = true := congrArg (fun z : AlV => z.1.2) ho
  have htb : (S.tb.tab.map fun x => dicV K (He.ga K x)) = S.tb.tab.map fun x => some ((tkeys S x).map fun k => some (k, KeyHs w.params k)) := congrArg (fun z : AlV => z.2) ho
  obtain ⟨hc0, hc⟩ := and2 hc
  have hc0 := List.all_eq_true.mp hc0
  obtain ⟨hex, hx4⟩ := and2 hex
  obtain ⟨hex, hx5⟩ := and2 hex
  obtain ⟨hex, hx3⟩ := and2 hex
  obtain ⟨hx1, hx2⟩ := and2 hex
  obtain ⟨hc, hc7⟩ := and2 hc
  obtain ⟨hc, hc6⟩ := and2 hc
  obtain ⟨hc, hc5⟩ := and2 hc
  obtain ⟨hc, hc4⟩ := and2 hc
  obtain ⟨hc, hc3⟩ := and2 hc
  obtain ⟨hc1, hc2⟩ := and2 hc
  have hc1 := List.all_eq_true.mp hc1
  have hc2 := List.all_eq_true.mp hc2
  have hc5 := List.all_eq_true.mp hc5
  have hc6 := List.all_eq_true.mp hc6
  have hc7 := List.all_eq_true.mp hc7
  have hx4 := List.all_eq_true.mp hx4
  have nm : ∀ {t : Nat} {z : Str}, S.tb.cls[t]? = some z → cNm S.tb t = z := fun {t z} e => by
    unfold cNm
    rw [List.getD_eq_getElem?_getD, e]; rfl
  have fa : ∀ {f : He.Fa}, f ∈ faOf S → f.ok K = true := fun {f} hf => c.facts hf
  exact {
    dh := fun x hx => by
      have e := List.map_inj_left.mp htb x hx
      exact dicV_ok e
    isq := fun h => by
      rw [h] at hx5
      exact PySem.W.mg_of X G (He.eqO_ok hx5)
    bn := fun x hx => He.free_ok X G (fa (f := .free x) (by unfold faOf; simp only [List.mem_append, List.mem_map]; exact .inl (.inl (.inl (.inl (.inl (.inl (.inl (.inl (.inl (.inl (.inl ⟨x, hx, rfl⟩))))))))))))
    gl := fun k x d hk => by
      have g := List.all_eq_true.mp hx3 (x, d) (List.mem_of_getElem? hk)
      cases d with
      | int i => obtain ⟨t, e⟩ := He.int_ok X G (show (He.Fa.int x i).ok K = true from g); exact ⟨_, .int i, e, ⟨t, rfl⟩, fun H A => rfl⟩
      | str s => obtain ⟨t, e⟩ := He.str_ok X G (show (He.Fa.str x (dS s)).ok K = true from g); exact ⟨_, .str (dS s), e, ⟨t, rfl⟩, fun H A => rfl⟩
      | tup ds =>
        obtain ⟨g, g3⟩ := and2 (show (ds.all isScal && (He.Fa.glo x).ok K && He.tupB K x (ds.map dvOf)) = true from g)
        obtain ⟨g1, g2⟩ := and2 g
        refine ⟨_, .ref (He.ga K x), He.glo_ok X G g2, rfl, fun H A => ⟨_, (ds.map dvOf).map (He.Dv.v K), rfl, .inr ?_, by rw [List.map_map]; exact dvs_rep g1 H A⟩⟩
        rcases He.tupB_ok g3 (fun _ => none) with (z | ⟨_, z⟩) | z
        · cases z
        · cases z
        · exact z
      | frz ds =>
        obtain ⟨g, g3⟩ := and2 (show (ds.all isScal && (He.Fa.glo x).ok K && He.lstB K x (ds.map dvOf)) = true from g)
        obtain ⟨g1, g2⟩ := and2 g
        refine ⟨_, .ref (He.ga K x), He.glo_ok X G g2, rfl, fun H A => ⟨_, (ds.map dvOf).map (He.Dv.v K), rfl, .inr ?_, by rw [List.map_map]; exact dvs_rep g1 H A⟩⟩
        rcases He.lstB_ok g3 (fun _ => none) with (z | ⟨_, z⟩) | z
        · cases z
        · cases z
        · exact z
      | dct ks ds =>
        have ht : x ∈ S.tb.tab := of_decide_eq_true (hc0 (x, .dct ks ds) (List.mem_of_getElem? hk))
        obtain ⟨g2, vs, r1, r2⟩ := dctB_ok (tb := S.tb) ht g
        exact ⟨_, .ref (He.ga K x), He.glo_ok X G g2, rfl, fun H A => ⟨_, vs, rfl, .inr r1, r2 H A⟩⟩
      | _ => cases g
    cls := fun t z ht hz => by
      have := kga X G c (x := cNm S.tb t) (by unfold faOf; simp only [List.mem_append, List.mem_map]; exact .inl (.inl (.inl (.inl (.inl (.inl (.inl (.inl (.inl (.inr ⟨t, ht, rfl⟩))))))))))
      rw [nm hz] at this
      unfold cAd
      rw [nm hz]
      exact this
    kit := fun k t hk ht => by
      have g := List.all_eq_true.mp hx2 k hk
      obtain ⟨g1, g2⟩ := and2 g
      unfold clsV
      rcases ht with ht | ht
      · have lt := of_decide_eq_true (and2 (hc2 t ht)).1
        rw [if_neg (by omega)]
        exact of_decide_eq_true (List.all_eq_true.mp g1 t ht)
      · subst ht
        rw [if_pos rfl]
        exact of_decide_eq_true g2
    big := fun t ht => by
      have lt := of_decide_eq_true (and2 (hc2 t ht)).1
      omega
    exr := fun k hk => He.exc_ok (fa (f := .exc (cNm S.tb k)) (by unfold faOf; simp only [List.mem_append, List.mem_map]; exact .inl (.inl (.inl (.inl (.inl (.inl (.inl (.inl (.inr ⟨k, hk, rfl⟩))))))))))
    exm := fun k hk t ht => He.exm_ok (fa (f := .exm (cNm S.tb k) (cNm S.tb t) (S.su k t)) (by unfold faOf; simp only [List.mem_append, List.mem_flatMap, List.mem_map]; exact .inl (.inl (.inl (.inl (.inl (.inl (.inl (.inr ⟨k, hk, t, ht, rfl⟩)))))))))
    exc := fun k hk => excCB_ok (List.all_eq_true.mp hx1 k hk)
    fn := fun f F hf => by
      have hF := List.mem_of_getElem? hf
      obtain ⟨fd, FD⟩ := c.defs (d := ⟨F.at_ S.tb, F.nm, F.qual S.tb, defArgs F.st, defBody F.st, defScope F.st, [], F.kwd S.tb⟩) (List.mem_map.mpr ⟨F, hF, rfl⟩)
      have FD' : FunD K F.nm (F.qual S.tb) (defArgs F.st) (defBody F.st) (defScope F.st) [] (F.kwv S.tb K) (He.fAd K (F.at_ S.tb)) fd := FD
      obtain ⟨_, c2, _, _, _⟩ := chkF_ok (hc1 F hF)
      have hd := List.all_eq_true.mp (hx4 F hF)
      refine ⟨fd, _, _, FD', fun ho => kga X G c (by unfold faOf; simp only [List.mem_append, List.mem_map]; exact .inl (.inl (.inl (.inl (.inl (.inl (.inl (.inl (.inl (.inl (.inr ⟨F, List.mem_filter.mpr ⟨hF, by rw [ho]; rfl⟩, rfl⟩))))))))))), fun n h1 h2 => ?_, fun kn h1 => hk.get h1 hf K fd FD' hd⟩
      obtain ⟨us, b1, b2⟩ := hb.get hf K fd FD' n h1 h2
      refine ⟨_, us, b1, b2, fun H A => RepL.drop _ ?_⟩
      have key : ∀ (l : List (Str × D)), (∀ q ∈ l, dfOk K (F.at_ S.tb) q.1 q.2 = true) → RepL S.tb K H A (l.map (·.2)) (((l.map fun q => (q.1, dvD (F.at_ S.tb) q.1 q.2)).map fun q => (q.1, q.2.v K)).map (·.2)) := fun l => by
        induction l with
        | nil => exact fun _ => .nil
        | cons q r ih => exact fun hl => RepL.cons (df_rep (hl q (by simp)) H A) (ih fun p hp => hl p (by simp [hp]))
      have e : F.kwp.map (·.2) = F.dfl := List.map_snd_zip (by rw [List.length_drop]; omega)
      have := key F.kwp hd
      rw [e] at this
      exact this
    own := fun k f h => ⟨He.cls_ok (fa (f := .cls (cNm S.tb k)) (by unfold faOf; simp only [List.mem_append, List.mem_map]; exact .inl (.inr ⟨(k, f), h, rfl⟩))), He.noat_ok (fa (f := .noat (cNm S.tb k) (fNm S.tb f)) (by unfold faOf; simp only [List.mem_append, List.mem_map]; exact .inl (.inl (.inl (.inr ⟨(k, f), h, rfl⟩))))), of_decide_eq_true (hc5 (k, f) h)⟩
    fnd := ⟨of_decide_eq_true hc3, of_decide_eq_true hc4⟩
    mok := fun k m h => by
      cases q : S.ms.lookup (k, m) with
      | none => exact absurd q h
      | some p =>
        obtain ⟨g, _⟩ := and2 (hc7 _ (lookup_memP q))
        obtain ⟨g1, g2⟩ := and2 g
        exact ⟨of_decide_eq_true g1, of_decide_eq_true g2⟩
    cs := fun k f h => by
      have hm := lookup_memP h
      obtain ⟨_, g⟩ := and2 (hc6 _ hm)
      refine ⟨He.mkr_ok (fa (f := .mkr (cNm S.tb k)) (by unfold faOf; simp only [List.mem_append, List.mem_map]; exact .inl (.inl (.inl (.inl (.inr ⟨(k, f), hm, rfl⟩)))))), ?_⟩
      have g' : (match S.fs[f]? with
        | some F => decide (F.ow = some (k, true)) && decide (F.nm = "__init__")
        | none => false) = true := g
      cases z : S.fs[f]? with
      | none => rw [z] at g'; cases g'
      | some F =>
        rw [z] at g'
        obtain ⟨g1, g2⟩ := and2 g'
        exact ⟨F, rfl, of_decide_eq_true g1, of_decide_eq_true g2⟩
    mgc := fun k f x h hx => by
      have := kga X G c (x := cNm S.tb k) (by unfold faOf; simp only [List.mem_append, List.mem_map]; exact .inl (.inl (.inl (.inl (.inl (.inl (.inr ⟨(k, f), lookup_memP h, rfl⟩)))))))
      rw [nm hx] at this
      unfold cAd
      rw [nm hx]
      exact this
    ms := fun k m f mu h => by
      have hm := lookup_memP h
      obtain ⟨_, g⟩ := and2 (hc7 _ hm)
      refine ⟨He.cls_ok (fa (f := .cls (cNm S.tb k)) (by unfold faOf; simp only [List.mem_append, List.mem_map]; exact .inr ⟨((k, m), (f, mu)), hm, rfl⟩)), He.meth_ok (fa (f := .meth (cNm S.tb k) (mtN S.tb m)) (by unfold faOf; simp only [List.mem_append, List.mem_map]; exact .inl (.inl (.inr ⟨((k, m), (f, mu)), hm, rfl⟩)))), ?_⟩
      have g' : (match S.fs[f]? with
        | some F => decide (F.ow = some (k, mu)) && decide (F.nm = mtN S.tb m) && F.dfl.isEmpty
        | none => false) = true := g
      cases z : S.fs[f]? with
      | none => rw [z] at g'; cases g'
      | some F =>
        rw [z] at g'
        obtain ⟨g1, g3⟩ := and2 g'
        obtain ⟨g1, g2⟩ := and2 g1
        exact ⟨F, rfl, of_decide_eq_true g1, of_decide_eq_true g2, List.isEmpty_iff.mp g3⟩
    chk := fun f F hf => hc1 F (List.mem_of_getElem? hf) }
theorem lookup_app {K E : PySem.W.Frag} (a : Addr) : List.lookup a (K ++ E) = (List.lookup a K).or (List.lookup a E) := by
  induction K with
  | nil => rfl
  | cons p r ih =>
    obtain ⟨b, o⟩ := p
    rw [List.cons_append, List.lookup_cons, List.lookup_cons, ih]
    cases a == b <;> rfl
theorem FnOk.wide {P : Program} {w : World} {K K' : PySem.W.Frag} {mg : Str → Option Value} {base : Heap} {CX : CXT} {k : Nat} {f : Addr} {fd : FuncData} {ps : List Str} {sp : Sp} (h : ∀ b, K'.In b → K.In b) (F : FnOk P w K mg base CX k f fd ps sp) : FnOk P w K' mg base CX k f fd ps sp :=
  ⟨F.len, fun A outer s H args us vs Q E hr e => F.run A outer s H args us vs Q E hr ⟨e.frames, ⟨h _ e.mod.kin, e.mod.glob, e.mod.blt, e.mod.nolimit⟩, e.bs, e.bsz, e.funs, e.frf, e.hok, e.bare⟩⟩
theorem ns_move {h h' : Heap} {a : Addr} {m : Str → Option Value} (n : h.Ns a m) (k : ∀ o, h.get? a = some o → h'.get? a = some o) : h'.Ns a m := let ⟨o, es, ep, e, r⟩ := n; ⟨o, es, ep, k o e, r⟩
theorem walk_V {l : PySem.W.OpenLaw} {n k : Nat} {q : Program} {loose : List Str} {XP : (Str → Option Value) → Heap → Prop} {YP : World → Heap → Prop} {d : DefRec} {x : Str}
    (hn : l.most = some n) (hn2 : n ≤ sizeLine) (hdf : d.params.defaults = []) (hr : Room k callerA) (himp : importsNone q = true)
    (F : ∀ (w : World) (mg : Str → Option Value) (fa : Addr) (h : Heap), YP w h → h.Ns mainGlobals mg → mg d.name = some (.ref fa) →
      ∃ (K : PySem.W.Frag) (fd : FuncData) (sp : Sp), K.In h ∧ (∀ (s : Shared) (u : Value), BindsTo s fd ⟨[u], []⟩ [(x, u)]) ∧
        (∀ (H : Hp) (a : Addr) (ns : List Int), ns.length ≤ n → (∀ z ∈ ns, Builtin.Int.intBits z ≤ 1048576) → (∃ o, H a = some (.frz o (.lst (ns.map V.int)))) ∨ KLst K a (ns.map V.int) → sp [.ref a] H (fun v _ => v = .bl true) fun _ _ _ => False) ∧
        ∀ base : Heap, K.In base → base.Ns mainGlobals mg → base.NoSeer → FnOk l.prog w K mg base (L2.CX l.prog w) k fa fd [x] sp) :
    PySem.W.WalkO q loose XP YP l.row.toRowW d [] (fun f vs => PySem.call f vs) := by
  refine Att.attach_callB hn hdf fun w s₀ s₁ mg mb fa o pm cd doc a vs ns G Y ho hd hcd hmg hobj hints hlen hbits hg => ?_
  obtain ⟨K, fd, sp, KX, hb, hsp, hF⟩ := F w mg fa _ Y G.T.g hmg
  have seer := G.T.seer himp
  obtain ⟨mc, nc, c1, c2⟩ := seer.statics
  obtain ⟨mm, nm, m1⟩ := seer.mods
  obtain ⟨mi, ni, i1⟩ := seer.imp
  obtain ⟨mg2, bm, ob, ng, g1, g2, g3, g4⟩ := seer.main
  obtain ⟨oc, ec, pc, hc1, hc2, hc3⟩ := id nc
  obtain ⟨om, em, pm2, hm1, hm2, hm3⟩ := id nm
  obtain ⟨oi, ei, pi, hi1, hi2, hi3⟩ := id ni
  obtain ⟨og, eg, pg, hg1, hg2, hg3⟩ := id ng
  let E : PySem.W.Frag := [(cStatics, oc), (sysModules, om), (builtinsNs, oi), (mainGlobals, og), (bm, ob)]
  have inE : ∀ b u, List.lookup b E = some u → s₁.heap.get? b = some u ∧ (∀ its n, u.data ≠ .seq its n ∨ u.cls ≠ .type "list") := fun b u h => by
    have step : ∀ {a : Addr} {v : Obj} {r : PySem.W.Frag}, List.lookup b ((a, v) :: r) = some u → (b = a ∧ v = u) ∨ List.lookup b r = some u := fun {a v r} h => by
      rw [List.lookup_cons] at h
      cases z : b == a with
      | true => rw [z] at h; exact .inl ⟨beq_iff_eq.mp z, Option.some.inj h⟩
      | false => rw [z] at h; exact .inr h
    rcases step h with ⟨e, e2⟩ | h
    · subst e e2; exact ⟨hc1, fun its n => .inl fun z => by rw [hc2] at z; cases z⟩
    rcases step h with ⟨e, e2⟩ | h
    · subst e e2; exact ⟨hm1, fun its n => .inl fun z => by rw [hm2] at z; cases z⟩
    rcases step h with ⟨e, e2⟩ | h
    · subst e e2; exact ⟨hi1, fun its n => .inl fun z => by rw [hi2] at z; cases z⟩
    rcases step h with ⟨e, e2⟩ | h
    · subst e e2; exact ⟨hg1, fun its n => .inl fun z => by rw [hg2] at z; cases z⟩
    rcases step h with ⟨e, e2⟩ | h
    · subst e e2; exact ⟨g2, fun its n => .inr fun z => by rw [g3] at z; exact absurd (Value.type.inj z) (by decide)⟩
    · cases h
  have KX' : PySem.W.Frag.In (K ++ E) s₁.heap := fun b u h => by
    have h' : List.lookup b (K ++ E) = some u := h
    rw [lookup_app] at h'
    cases z : List.lookup b K with
    | some v => rw [z] at h'; cases h'; exact KX b _ z
    | none => rw [z] at h'; exact (inE b u h').1
  have less : ∀ b : Heap, PySem.W.Frag.In (K ++ E) b → K.In b := fun b h a u e => h a u (by
    show List.lookup a (K ++ E) = some u
    rw [lookup_app, show List.lookup a K = some u from e]; rfl)
  have mk : ∀ {b u}, s₁.heap.get? b = some u → (∃ v, List.lookup b E = some v) → ∀ base : Heap, PySem.W.Frag.In (K ++ E) base → base.get? b = some u := fun {b u} hb ⟨v, hv⟩ base hB => by
    have e : ∃ z, List.lookup b (K ++ E) = some z := by
      rw [lookup_app, hv]
      cases List.lookup b K <;> exact ⟨_, rfl⟩
    obtain ⟨z, e⟩ := e
    have e1 := KX' b z e
    rw [hb] at e1
    cases e1
    exact hB b u e
  have has : ∀ {b : Addr}, b ∈ [cStatics, sysModules, builtinsNs, mainGlobals, bm] → ∃ v, List.lookup b E = some v := fun {b} hb => by
    cases z : List.lookup b E with
    | some v => exact ⟨v, rfl⟩
    | none =>
      exfalso
      rw [List.lookup_eq_none_iff] at z
      simp only [List.mem_cons, List.not_mem_nil, or_false] at hb
      rcases hb with rfl | rfl | rfl | rfl | rfl
      · exact absurd (z (cStatics, oc) (by simp [E])) (by simp)
      · exact absurd (z (sysModules, om) (by simp [E])) (by simp)
      · exact absurd (z (builtinsNs, oi) (by simp [E])) (by simp)
      · exact absurd (z (mainGlobals, og) (by simp [E])) (by simp)
      · exact absurd (z (b, ob) (by simp [E])) (by simp)
  refine law_call (K := K ++ E) KX' G.T.g G.T.b G.T.builtins G.T.nolimit hg hobj hints (Nat.le_trans hlen hn2) hr (fun base hB hN => FnOk.wide less (hF base (less base hB) hN ⟨?_, ?_, ?_, ?_⟩)) hb (fun H hO hS => hsp H a ns hlen hbits ?_) fun H e s' ⟨_, _, _, _, _, _, _, _, _, _, _, _, z⟩ => z
  · exact ⟨mc, ns_move nc fun u hu => mk hu (has (by simp)) base hB, c1, c2⟩
  · exact ⟨mm, ns_move nm fun u hu => mk hu (has (by simp)) base hB, m1⟩
  · exact ⟨mi, ns_move ni fun u hu => mk hu (has (by simp)) base hB, i1⟩
  · exact ⟨mg2, bm, ob, ns_move ng fun u hu => mk hu (has (by simp)) base hB, g1, mk g2 (has (by simp)) base hB, g3, g4⟩
  · rcases hS with (z | ⟨u, z⟩) | ⟨u, its, m, h1, h2, h3, h4, h5, h6⟩
    · rcases hO a with y | ⟨u, xs, y⟩
      · rw [y] at z; cases z
      · rw [y] at z; cases z
    · exact .inl ⟨u, z⟩
    · refine .inr ⟨u, its, m, ?_, h2, h3, h4, h5, h6⟩
      have h1' : List.lookup a (K ++ E) = some u := h1
      rw [lookup_app] at h1'
      cases z : List.lookup a K with
      | some v => rw [z] at h1'; cases h1'; rfl
      | none =>
        rw [z] at h1'
        rcases (inE a u h1').2 its m with y | y
        · exact absurd h4 y
        · exact absurd h2 y
theorem end_V {l : PySem.W.OpenLaw} {n lvl : Nat} {q : Program} {loose : List Str} {XP : (Str → Option Value) → Heap → Prop} {d : DefRec} {x : Str} {S : Prg} {m f0 : Nat} {F0 : FD}
    (hn : l.most = some n) (hn2 : n ≤ sizeLine) (hdf : d.params.defaults = []) (hr : Room (lv lvl) callerA) (himp : importsNone q = true) (ht : l.prog.given.tree = none)
    (hf : S.fs[f0]? = some F0) (hnm : F0.gn = d.name) (hps : F0.ps = [x]) (hlo : F0.lo = 1) (hdf0 : F0.dfl = []) (how : F0.ow = none)
    (hbl : ∀ (kV doc pm : Value) (an : Option Addr) (cdv ct : Value) (us : List Value), us.length = 1 → bindArgs (PySem.W.fnOf F0.nm (F0.qual S.tb) (defArgs F0.st) (defBody F0.st) (defScope F0.st) .none kV doc pm an cdv ct) ⟨us, []⟩ = pure ([x].zip us))
    (hc : chkS S = true) (hb : BindAll S.tb S.fs) (hk : BindsK S.tb S.fs S.kws)
    (main : ∀ ns : List Int, ns.length ≤ n → (∀ z ∈ ns, Builtin.Int.intBits z ≤ 1048576) → callN S lvl f0 [.frz (ns.map D.int)] = .ok (.bl true)) :
    PySem.W.WalkO q loose XP (hookV m S).says l.row.toRowW d [] (fun f vs => PySem.call f vs) := by
  refine walk_V (x := x) hn hn2 hdf hr himp fun w mg fa h ⟨K, KX, ho⟩ G hmg => ?_
  have O := pgOk KX G ho hc hb hk
  have c : He.SaysD (faOf S) (fnOf S) K := congrArg (fun z : AlV => z.1.1) ho
  obtain ⟨fd, dvs, kws, FD, gm, _⟩ := O.fn f0 F0 hf
  obtain ⟨fd', FD'⟩ := c.defs (d := ⟨F0.at_ S.tb, F0.nm, F0.qual S.tb, defArgs F0.st, defBody F0.st, defScope F0.st, [], F0.kwd S.tb⟩) (List.mem_map.mpr ⟨F0, List.mem_of_getElem? hf, rfl⟩)
  have FD1 : FunD K F0.nm (F0.qual S.tb) (defArgs F0.st) (defBody F0.st) (defScope F0.st) [] (F0.kwv S.tb K) (He.fAd K (F0.at_ S.tb)) fd' := FD'
  have FD2 := FD1
  rw [kwv_nil hdf0] at FD2
  have hmu : F0.mu = false := by unfold VE.FD.mu; rw [how]
  have at0 : F0.at_ S.tb = (F0.gn, none) := by unfold VE.FD.at_; rw [how]
  have ea : fa = He.fAd K (F0.at_ S.tb) := by
    have e2 : mg d.name = some (.ref (He.ga K F0.gn)) := by
      have z := gm how
      rw [hnm] at z ⊢
      exact z
    rw [hmg] at e2
    cases e2
    rw [at0]
    rfl
  subst ea
  refine ⟨K, fd', spV S.tb K F0.fr F0.ps.length (callN S lvl f0), KX, fun s u => FunD.bindsA (ps := [x]) FD2 hbl s [u] rfl, fun H a ns h1 h2 h3 => ?_, fun base hB hN hS => ?_⟩
  · have rints : ∀ (l : List Int), RepL S.tb K H (fun _ => False) (l.map D.int) (l.map V.int) := fun l => by
      induction l with
      | nil => exact .nil
      | cons i r ih => exact RepL.cons rfl ih
    refine ⟨fun _ => False, [.frz (ns.map D.int)], by rw [hps]; rfl, fun _ z => z.elim, RepL.cons ⟨a, ns.map V.int, rfl, h3.imp (fun ⟨o, z⟩ => ⟨o, z, id⟩) id, rints ns⟩ .nil, ?_⟩
    rw [main ns h1 h2]
    intro v H' _ r
    revert r
    cases F0.fr <;> exact id
  · have := fn_sound (P := l.prog) (w := w) (base := base) (mg := mg) O hS ht lvl f0 F0 hf fd' [] _ FD1
    unfold spF at this
    rw [hmu, hps] at this
    rw [hps]
    exact this
end VE
namespace VE
open PySem PySem.Spec PyProof.Rows L2
def lackV {α : Type} (lo : Nat) (kn : List Nat) : Nat → List α → List α
  | _, [] => []
  | i, a :: r => match kn.idxOf? (lo + i) with
    | some _ => lackV lo kn (i + 1) r
    | none => a :: lackV lo kn (i + 1) r
def mixG {α : Type} (lo : Nat) (kn : List Nat) : Nat → Nat → List α → List α → List α
  | _, 0, _, _ => []
  | i, m + 1, mv, ws => match kn.idxOf? (lo + i) with
    | some j => (match ws[j]? with
      | some w => w :: mixG lo kn (i + 1) m mv ws
      | none => [])
    | none => (match mv with
      | v :: mr => v :: mixG lo kn (i + 1) m mr ws
      | [] => [])
theorem lackV_map {α β : Type} (f : α → β) (lo : Nat) (kn : List Nat) : ∀ (i : Nat) (l : List α), (lackV lo kn i l).map f = lackV lo kn i (l.map f)
  | _, [] => rfl
  | i, a :: r => by
    show (match kn.idxOf? (lo + i) with | some _ => lackV lo kn (i + 1) r | none => a :: lackV lo kn (i + 1) r).map f = match kn.idxOf? (lo + i) with | some _ => lackV lo kn (i + 1) (r.map f) | none => f a :: lackV lo kn (i + 1) (r.map f)
    cases kn.idxOf? (lo + i) with
    | some _ => exact lackV_map f lo kn (i + 1) r
    | none => show f a :: (lackV lo kn (i + 1) r).map f = _; rw [lackV_map f lo kn (i + 1) r]
theorem lackV_mem {α : Type} {lo : Nat} {kn : List Nat} {x : α} : ∀ {i : Nat} {l : List α}, x ∈ lackV lo kn i l → x ∈ l
  | _, [], h => h
  | i, a :: r, h => by
    have h' : x ∈ (match kn.idxOf? (lo + i) with | some _ => lackV lo kn (i + 1) r | none => a :: lackV lo kn (i + 1) r) := h
    cases q : kn.idxOf? (lo + i) with
    | some _ => rw [q] at h'; exact List.mem_cons_of_mem _ (lackV_mem h')
    | none =>
      rw [q] at h'
      rcases List.mem_cons.mp h' with e | e
      · rw [e]; exact List.mem_cons_self
      · exact List.mem_cons_of_mem _ (lackV_mem e)
theorem mixG_vals {lo : Nat} {kn : List Nat} {zs : List V} {ws : List Value} (hw : Vals zs ws) : ∀ (m i : Nat) {mz : List V} {mv : List Value}, Vals mz mv → Vals (mixG lo kn i m mz zs) (mixG lo kn i m mv ws)
  | 0, i, _, _, _ => .nil
  | m + 1, i, mz, mv, h => by
    unfold mixG
    cases kn.idxOf? (lo + i) with
    | some j =>
      simp only
      cases z : zs[j]? with
      | none =>
        have : ws[j]? = none := by
          rw [List.getElem?_eq_none_iff] at z ⊢
          have := Vals.length hw
          omega
        rw [this]
        exact .nil
      | some v =>
        obtain ⟨u, e, r⟩ := Vals.get hw z
        rw [e]
        exact .cons r (mixG_vals hw m (i + 1) h)
    | none =>
      cases h with
      | nil => exact .nil
      | cons r1 r2 => exact .cons r1 (mixG_vals hw m (i + 1) r2)
theorem idxOf_lt {l : List Nat} {x j : Nat} (h : l.idxOf? x = some j) : j < l.length := by
  unfold List.idxOf? at h
  exact (List.findIdx?_eq_some_iff_getElem.mp h).1
theorem fill_rep {tb : Tb} {K : PySem.W.Frag} {H : Hp} {A : Addr → Prop} {lo : Nat} {kn : List Nat} {zs : List D} {ws : List V} (hz : zs.length = kn.length) (hw : RepL tb K H A zs ws) : ∀ (i : Nat) {ds : List D} {vs : List V}, RepL tb K H A ds vs →
    RepL tb K H A (fillK lo kn zs i ds) (mixG lo kn i ds.length (lackV lo kn i vs) ws)
  | i, [], vs, h => .nil
  | i, d :: ds, _, ⟨v, vr, ev, h1, h2⟩ => by
    subst ev
    have hl := hw.length
    unfold fillK
    rw [List.length_cons]
    unfold mixG lackV
    cases q : kn.idxOf? (lo + i) with
    | none => exact RepL.cons h1 (fill_rep hz hw (i + 1) h2)
    | some j =>
      have hj := idxOf_lt q
      have hj2 : j < zs.length := by omega
      obtain ⟨w, e1, e2⟩ := hw.get (i := j) (d := zs[j]) (by simp [hj2])
      simp only [e1]
      have e3 : zs.getD j d = zs[j] := by simp [List.getD_eq_getElem?_getD, hj2]
      rw [e3]
      exact RepL.cons e2 (fill_rep hz hw (i + 1) h2)
theorem bindK_of {tb : Tb} {F : FD} {kn : List Nat} (hd : F.dfl ≠ []) (hl : F.lo + F.dfl.length = F.ps.length) (ks : List Str) (hks : kn.map (fun i => F.ps[i]?) = ks.map some)
    (h : ∀ (D : Addr) (doc pm : Value) (an : Option Addr) (cdv ct : Value) (us mv ws : List Value), us.length = F.lo → mv.length = (lackV F.lo kn 0 (F.ps.drop F.lo)).length → ws.length = kn.length →
      KwChain D ((lackV F.lo kn 0 (F.ps.drop F.lo)).zip mv) (bindArgs (PySem.W.fnOf F.nm (F.qual tb) (defArgs F.st) (defBody F.st) (defScope F.st) .none (.ref D) doc pm an cdv ct) ⟨us, ks.zip ws⟩) (F.ps.zip (us ++ mixG F.lo kn 0 F.dfl.length mv ws))) : BindK tb F kn := by
  intro K fd FD hdf
  obtain ⟨n1, n2⟩ := kwv_names (tb := tb) (K := K) hl
  have lk : ks.length = kn.length := by
    have := congrArg List.length hks
    simpa using this.symm
  have lm : (lackV F.lo kn 0 (F.kwv tb K)).map (·.1) = lackV F.lo kn 0 (F.ps.drop F.lo) := by rw [lackV_map, n1]
  obtain ⟨mv, kb⟩ := FunD.kbinds0 FD F.lo ks (lackV F.lo kn 0 (F.kwv tb K)) (fun us mv ws => us ++ mixG F.lo kn 0 F.dfl.length mv ws) (fun z => hd (List.eq_nil_of_length_eq_zero (by rw [← n2, z]; rfl))) (fun q hq => lackV_mem hq)
    (fun r1 r2 r3 => Vals.append r1 (mixG_vals r3 _ _ r2)) (fun D doc pm an cdv ct us mv ws l1 l2 l3 => by
      rw [lm]
      exact h D doc pm an cdv ct us mv ws l1 (by rw [l2, ← lm, List.length_map]) (by rw [l3, lk]))
  refine ⟨ks, _, _, fun ws => mixG F.lo kn 0 F.dfl.length ((lackV F.lo kn 0 (F.kwv tb K)).map (·.2)) ws, kb, hks, fun vs ws _ => rfl, fun Xs zs ws H hz hr => ?_⟩
  rw [lackV_map]
  refine fill_rep hz hr 0 ?_
  have key : ∀ (l : List (Str × D)), (∀ q ∈ l, dfOk K (F.at_ tb) q.1 q.2 = true) → RepL tb K H Xs (l.map (·.2)) (((l.map fun q => (q.1, dvD (F.at_ tb) q.1 q.2)).map fun q => (q.1, q.2.v K)).map (·.2)) := fun l => by
    induction l with
    | nil => exact fun _ => .nil
    | cons q r ih => exact fun hl => RepL.cons (df_rep (hl q (by simp)) H Xs) (ih fun p hp => hl p (by simp [hp]))
  have e : F.kwp.map (·.2) = F.dfl := List.map_snd_zip (by rw [List.length_drop]; omega)
  have := key F.kwp hdf
  rw [e] at this
  exact this
end VE
namespace VE
open PySem PySem.Spec PyProof.Rows L2
def seqO (o : Out) (k : Ev → Out) : Out := match o with
  | .nx e => k e
  | o => o
@[simp] theorem seqO_nx (e : Ev) (k : Ev → Out) : seqO (.nx e) k = k e := (rfl)
@[simp] theorem seqO_rt (d : D) (e : Ev) (k : Ev → Out) : seqO (.rt d e) k = .rt d e := (rfl)
@[simp] theorem seqO_bk (e : Ev) (k : Ev → Out) : seqO (.bk e) k = .bk e := (rfl)
@[simp] theorem seqO_ct (e : Ev) (k : Ev → Out) : seqO (.ct e) k = .ct e := (rfl)
@[simp] theorem seqO_exc (c : Nat) (e : Ev) (k : Ev → Out) : seqO (.exc c e) k = .exc c e := (rfl)
@[simp] theorem seqO_bad (k : Ev → Out) : seqO .bad k = .bad := (rfl)
@[simp] theorem seqO_ite (p : Prop) [Decidable p] (a b : Out) (k : Ev → Out) : seqO (if p then a else b) k = if p then seqO a k else seqO b k := by split <;> rfl
@[simp] theorem outR_ok {a : Type} (x : a) (e : Ev) (k : a → Out) : outR (.ok x) e k = k x := (rfl)
@[simp] theorem outR_exc {a : Type} (c : Nat) (e : Ev) (k : a → Out) : outR (.exc c) e k = .exc c e := (rfl)
@[simp] theorem outR_bad {a : Type} (e : Ev) (k : a → Out) : outR .bad e k = .bad := (rfl)
@[simp] theorem outR_ite {a : Type} (p : Prop) [Decidable p] (x y : R a) (e : Ev) (k : a → Out) : outR (if p then x else y) e k = if p then outR x e k else outR y e k := by split <;> rfl
@[simp] theorem outF_ite (p : Prop) [Decidable p] (x y : Out) : outF (if p then x else y) = if p then outF x else outF y := by split <;> rfl
@[simp] theorem outF_rt (d : D) (e : Ev) : outF (.rt d e) = .ok d := (rfl)
@[simp] theorem outF_nx (e : Ev) : outF (.nx e) = .ok .non := (rfl)
@[simp] theorem outF_exc (c : Nat) (e : Ev) : outF (.exc c e) = .exc c := (rfl)
@[simp] theorem outF_bad : outF .bad = .bad := (rfl)
@[simp] theorem bind_ite {a b : Type} (p : Prop) [Decidable p] (x y : R a) (k : a → R b) : (if p then x else y).bind k = if p then x.bind k else y.bind k := by split <;> rfl
@[simp] theorem tst_bl' (b : Bool) : tst (.ok (.bl b)) = .ok b := (rfl)
@[simp] theorem tst_exc (c : Nat) : tst (.exc c) = .exc c := (rfl)
@[simp] theorem tst_bad : tst .bad = .bad := (rfl)
@[simp] theorem tst_ite (p : Prop) [Decidable p] (x y : R D) : tst (if p then x else y) = if p then tst x else tst y := by split <;> rfl
@[simp] theorem tst_bind (r : R Bool) (f : Bool → D) : tst (r.bind fun b => .ok (f b)) = r.bind fun b => tst (.ok (f b)) := by cases r <;> rfl
@[simp] theorem asInt_ok (i : Int) : asInt (.ok (.int i)) = .ok i := (rfl)
@[simp] theorem asInt_ite (p : Prop) [Decidable p] (x y : R D) : asInt (if p then x else y) = if p then asInt x else asInt y := by split <;> rfl
@[simp] theorem rOpt_some {a : Type} (x : a) : rOpt (some x) = .ok x := (rfl)
@[simp] theorem rOpt_none {a : Type} : rOpt (none : Option a) = .bad := (rfl)
@[simp] theorem rBl_ok' (b : Bool) : rBl (.ok b) = .ok (.bl b) := (rfl)
@[simp] theorem rNot_ok' (b : Bool) : rNot (.ok b) = .ok (.bl !b) := (rfl)
@[simp] theorem selfOf_ok (s : D) : selfOf (.ok (.tup [.non, s])) = .ok s := (rfl)
@[simp] theorem selfOf_exc (n : Nat) : selfOf (.exc n) = .exc n := (rfl)
@[simp] theorem selfOf_bad' : selfOf .bad = .bad := (rfl)
@[simp] theorem selfOf_ite (p : Prop) [Decidable p] (x y : R D) : selfOf (if p then x else y) = if p then selfOf x else selfOf y := by split <;> rfl
@[simp] theorem objC_obj (k : Nat) (fs : List Nat) (ds : List D) : objC (.obj k fs ds) = .ok k := (rfl)
@[simp] theorem dFld_obj (fok : Nat → Nat → Bool) (f k : Nat) (fs : List Nat) (ds : List D) : dFld fok f (.obj k fs ds) = if fok k f then lookF f fs ds else .bad := (rfl)
@[simp] theorem lookF_cons (f g : Nat) (gs : List Nat) (d : D) (ds : List D) : lookF f (g :: gs) (d :: ds) = if g = f then .ok d else lookF f gs ds := (rfl)
@[simp] theorem putO_obj (fok : Nat → Nat → Bool) (f k : Nat) (x : D) (fs : List Nat) (ds : List D) : putO fok f x (.obj k fs ds) = if fok k f && decide (fs.length < 900) then .ok (.obj k (putFD f x fs ds).1 (putFD f x fs ds).2) else .bad := (rfl)
@[simp] theorem putFD_nil (f : Nat) (x : D) : putFD f x [] [] = ([f], [x]) := (rfl)
@[simp] theorem putFD_cons (f g : Nat) (x d : D) (gs : List Nat) (ds : List D) : putFD f x (g :: gs) (d :: ds) = if g = f then (g :: gs, x :: ds) else ((putFD f x gs ds).1.cons g, (putFD f x gs ds).2.cons d) := (rfl)
@[simp] theorem pmt_some (f : Nat) : pmt (some (f, false)) = some f := (rfl)
@[simp] theorem mmt_some (f : Nat) : mmt (some (f, true)) = some f := (rfl)
@[simp] theorem tupOf_tup (s : List D) : tupOf (.tup s) = .ok s := (rfl)
@[simp] theorem outMu_rt (d : D) (e : Ev) : outMu (.rt d e) = pairM d e := (rfl)
@[simp] theorem outMu_nx (e : Ev) : outMu (.nx e) = pairM .non e := (rfl)
@[simp] theorem outMu_exc (c : Nat) (e : Ev) : outMu (.exc c e) = .exc c := (rfl)
@[simp] theorem outMu_bad : outMu .bad = .bad := (rfl)
@[simp] theorem outMu_ite (p : Prop) [Decidable p] (x y : Out) : outMu (if p then x else y) = if p then outMu x else outMu y := by split <;> rfl
@[simp] theorem pairM_at (d s : D) (r : Ev) : pairM d (.val s true :: r) = .ok (.tup [d, s]) := (rfl)
def sg : Ev → Nat → Sl
  | [], _ => .emp
  | s :: _, 0 => s
  | _ :: r, n + 1 => sg r n
@[simp] theorem sg_zero (s : Sl) (r : Ev) : sg (s :: r) 0 = s := (rfl)
@[simp] theorem sg_succ (s : Sl) (r : Ev) (n : Nat) : sg (s :: r) (n + 1) = sg r n := (rfl)
theorem sg_eq : ∀ (e : Ev) (i : Nat), sg e i = (e[i]?).getD .emp
  | [], i => by simp [sg]
  | s :: _, 0 => by simp [sg]
  | _ :: r, n + 1 => by rw [sg_succ, sg_eq r n]; simp
def slV (w : Bool) : Sl → R D
  | .val d o => if o && !w then .bad else .ok d
  | _ => .bad
@[simp] theorem slV_true (d : D) (o : Bool) : slV true (.val d o) = .ok d := by cases o <;> rfl
@[simp] theorem slV_false (d : D) (w : Bool) : slV w (.val d false) = .ok d := by cases w <;> rfl
def slL : Sl → R (List D)
  | .val (.lst ds) true => .ok ds
  | _ => .bad
@[simp] theorem slL_at (ds : List D) : slL (.val (.lst ds) true) = .ok ds := (rfl)
def slS : Sl → R D
  | .val d false => .ok d
  | _ => .bad
@[simp] theorem slS_at (d : D) : slS (.val d false) = .ok d := (rfl)
def slE (f : Nat → Bool) : Sl → R D
  | .exn c => .ok (.bl (f c))
  | _ => .bad
@[simp] theorem slE_at (f : Nat → Bool) (c : Nat) : slE f (.exn c) = .ok (.bl (f c)) := (rfl)
def slN : Sl → Bool
  | .val _ true => false
  | _ => true
@[simp] theorem slN_val (d : D) (o : Bool) : slN (.val d o) = !o := by cases o <;> rfl
@[simp] theorem slN_emp : slN .emp = true := (rfl)
@[simp] theorem ownL_sg (e : Ev) (i : Nat) : ownL e i = slL (sg e i) := by
  rw [sg_eq]
  unfold ownL
  cases e[i]? with
  | none => rfl
  | some s => cases s with
    | val d o => cases o <;> cases d <;> rfl
    | _ => rfl
@[simp] theorem shV_sg (e : Ev) (i : Nat) : shV e i = slS (sg e i) := by
  rw [sg_eq]
  unfold shV
  cases e[i]? with
  | none => rfl
  | some s => cases s with
    | val d o => cases o <;> rfl
    | _ => rfl
@[simp] theorem notOwn_sg (e : Ev) (i : Nat) : notOwn e i = slN (sg e i) := by
  rw [sg_eq]
  unfold notOwn
  cases e[i]? with
  | none => rfl
  | some s => cases s with
    | val d o => cases o <;> rfl
    | _ => rfl
def slO : Sl → R D
  | .val (.obj c fs ds) true => .ok (.obj c fs ds)
  | _ => .bad
@[simp] theorem slO_at (k : Nat) (fs : List Nat) (ds : List D) : slO (.val (.obj k fs ds) true) = .ok (.obj k fs ds) := (rfl)
@[simp] theorem ownO_sg (e : Ev) (i : Nat) : ownO e i = slO (sg e i) := by
  rw [sg_eq]
  unfold ownO
  cases e[i]? with
  | none => rfl
  | some s => cases s with
    | val d o => cases o <;> cases d <;> rfl
    | _ => rfl
def slC : Sl → Sl
  | .val d true => .val d false
  | s => s
@[simp] theorem slC_val (d : D) (o : Bool) : slC (.val d o) = .val d false := by cases o <;> rfl
theorem clrE_one (i : Nat) (r : List Nat) (e : Ev) : clrE (i :: r) e = (clrE r e).set i (slC (sg (clrE r e) i)) := by
  rw [clrE_cons, sg_eq]
  have set_self : ∀ (l : Ev) (s : Sl), l[i]? = some s → l = l.set i s := fun l s h => by
    apply List.ext_getElem?
    intro j
    by_cases hj : i = j
    · subst hj; rw [List.getElem?_set_self (get_lt h), h]
    · rw [List.getElem?_set_ne hj]
  cases z : (clrE r e)[i]? with
  | none => exact (List.set_eq_of_length_le (by rw [List.getElem?_eq_none_iff] at z; exact z)).symm
  | some s => cases s with
    | val d o => cases o with
      | true => rfl
      | false => exact set_self _ _ z
    | emp => exact set_self _ _ z
    | exn k => exact set_self _ _ z
section
variable (cl : Pr) (w : Bool) (e : Ev) (a b c d r as : T)
@[simp] theorem evX_v (i : Nat) : evX cl w (.v i) e = slV w (sg e i) := by
  rw [sg_eq]
  show (match e[i]? with | some (.val d o) => if o && !w then R.bad else .ok d | _ => .bad) = _
  cases e[i]? with
  | none => rfl
  | some s => cases s <;> rfl
@[simp] theorem evX_ci (i : Int) : evX cl w (.ci i) e = .ok (.int i) := (rfl)
@[simp] theorem evX_cb (i : Bool) : evX cl w (.cb i) e = .ok (.bl i) := (rfl)
@[simp] theorem evX_cn : evX cl w .cn e = .ok .non := (rfl)
@[simp] theorem evX_cs (s : List Nat) : evX cl w (.cs s) e = .ok (.str s) := (rfl)
@[simp] theorem evX_g (k : Nat) : evX cl w (.g k) e = rOpt (cl.gl k) := (rfl)
@[simp] theorem evX_bin (op : Operator) : evX cl w (.bin op a b) e = (evX cl true a e).bind fun x => (evX cl true b e).bind fun y => dBin op x y := (rfl)
@[simp] theorem evX_neg : evX cl w (.neg a) e = (evX cl true a e).bind dNeg := (rfl)
@[simp] theorem evX_not : evX cl w (.not a) e = (tst (evX cl true a e)).bind fun b => .ok (.bl !b) := (rfl)
@[simp] theorem evX_and : evX cl w (.and a b) e = (tst (evX cl true a e)).bind fun t => if t then (tst (evX cl true b e)).bind fun u => .ok (.bl u) else .ok (.bl false) := (rfl)
@[simp] theorem evX_or : evX cl w (.or a b) e = (tst (evX cl true a e)).bind fun t => if t then .ok (.bl true) else (tst (evX cl true b e)).bind fun u => .ok (.bl u) := (rfl)
@[simp] theorem evX_ite : evX cl w (.ite c a b) e = (tst (evX cl true c e)).bind fun t => if t then evX cl false a e else evX cl false b e := (rfl)
@[simp] theorem evX_cmp (op : CmpOp) : evX cl w (.cmp op a b) e = (evX cl true a e).bind fun x => (evX cl true b e).bind fun y => dCmp op x y := (rfl)
@[simp] theorem evX_chain (op op' : CmpOp) : evX cl w (.chain op op' a b c) e = (evX cl true a e).bind fun x => (evX cl true b e).bind fun y => (tst (dCmp op x y)).bind fun t => if t then (evX cl true c e).bind fun z => (dCmp op' y z) else .ok (.bl false) := (rfl)
@[simp] theorem evX_tup : evX cl w (.tup as) e = (evL cl false as e).bind fun ds => .ok (.tup ds) := (rfl)
@[simp] theorem evX_lst : evX cl w (.lst as) e = (evL cl false as e).bind fun ds => .ok (.lst ds) := (rfl)
@[simp] theorem evX_ix : evX cl w (.ix a b) e = (evX cl true a e).bind fun x => (evX cl true b e).bind fun y => dIx x y := (rfl)
@[simp] theorem evX_sl : evX cl w (.sl a b c) e = (evX cl true a e).bind fun x => (optI b (evX cl true b e)).bind fun l => (optI c (evX cl true c e)).bind fun h => dSl x l h := (rfl)
@[simp] theorem evX_call (f : Nat) : evX cl w (.call f as) e = (evL cl false as e).bind fun ds => cl.fn f ds := (rfl)
@[simp] theorem evX_callk (f : Nat) (kn : List Nat) : evX cl w (.callk f as kn b) e = (evL cl false as e).bind fun ds => (evL cl false b e).bind fun zs => (rOpt (cl.kwf f kn ds zs)).bind fun l => cl.fn f l := (rfl)
@[simp] theorem evX_mk (k : Nat) : evX cl w (.mk k as) e = (evL cl false as e).bind fun ds => (rOpt (cl.ini k)).bind fun f => selfOf (cl.fn f (.obj k [] [] :: ds)) := (rfl)
@[simp] theorem evX_mkk (k : Nat) (kn : List Nat) : evX cl w (.mkk k as kn b) e = (evL cl false as e).bind fun ds => (evL cl false b e).bind fun zs => (rOpt (cl.ini k)).bind fun f => (rOpt (cl.kwf f kn (.obj k [] [] :: ds) zs)).bind fun l => selfOf (cl.fn f l) := (rfl)
@[simp] theorem evX_meth (m : Nat) : evX cl w (.meth m a as) e = (evX cl false a e).bind fun x => (objC x).bind fun c => (rOpt (pmt (cl.mt c m))).bind fun f => (evL cl false as e).bind fun ds => cl.fn f (x :: ds) := (rfl)
@[simp] theorem evX_fld (f : Nat) : evX cl w (.fld f a) e = (evX cl true a e).bind fun x => dFld cl.fok f x := (rfl)
@[simp] theorem evX_rng1 : evX cl w (.rng1 a) e = (evX cl true a e).bind dRng := (rfl)
@[simp] theorem evX_lrev : evX cl w (.lrev a) e = (evX cl true a e).bind fun x => dBi .lrev [x] := (rfl)
@[simp] theorem evX_bi (m : Bi) : evX cl w (.bi m as) e = (evL cl true as e).bind fun ds => dBi m ds := (rfl)
@[simp] theorem evX_bm (m : Bm) : evX cl w (.bm m a as) e = (evX cl true a e).bind fun x => if rcv m x then (evL cl true as e).bind fun ds => dBm m x ds else .bad := (rfl)
@[simp] theorem evX_isi (t : Ty) : evX cl w (.isi a t) e = (evX cl true a e).bind fun x => dIsi x t := (rfl)
@[simp] theorem evX_ise (i t : Nat) : evX cl w (.ise i t) e = slE (fun c => cl.su c t) (sg e i) := by
  rw [sg_eq]
  show (match e[i]? with | some (.exn c) => R.ok (D.bl (cl.su c t)) | _ => .bad) = _
  cases e[i]? with
  | none => rfl
  | some s => cases s <;> rfl
@[simp] theorem evX_iseT (i : Nat) (ts : List Nat) : evX cl w (.iseT i ts) e = slE (fun c => ts.any fun t => cl.su c t) (sg e i) := by
  rw [sg_eq]
  show (match e[i]? with | some (.exn c) => R.ok (D.bl (ts.any fun t => cl.su c t)) | _ => .bad) = _
  cases e[i]? with
  | none => rfl
  | some s => cases s <;> rfl
@[simp] theorem evF_v (i : Nat) (d : D) (h : sg e i = .val d true) : evF cl (.v i) e = .ok d := by
  rw [sg_eq] at h
  show (match e[i]? with | some (.val d o) => if o || !ownable d then R.ok d else .bad | _ => .bad) = _
  cases z : e[i]? with
  | none => rw [z] at h; cases h
  | some s => rw [z] at h; cases (show s = _ from h); rfl
@[simp] theorem evX_lc (own tg : List Nat) (tup : Bool) : evX cl w (.lc own tg tup a c b) e = if !own.all (notOwn e) then .bad else (evI cl true a e).bind fun ds => (lcRun (lcF cl own tg tup c b e) ds).bind fun l => if ds.length < SZ then .ok (.lst l) else .bad := (rfl)
@[simp] theorem evL_nil : evL cl w .nil e = .ok [] := (rfl)
@[simp] theorem evL_itr (b : T) : evL cl w (.itr b) e = (evX cl false b e).bind starOf := (rfl)
@[simp] theorem evX_rpl (lit : List Nat) (ps : List (Nat × Nat)) (a : T) : evX cl w (.rpl lit ps a) e = (evX cl true a e).bind (dRpl lit ps) := (rfl)
@[simp] theorem starOf_lst (ds : List D) : starOf (.lst ds) = if ds.length ≤ 800 then .ok ds else .bad := (rfl)
@[simp] theorem starOf_tup (ds : List D) : starOf (.tup ds) = if ds.length ≤ 800 then .ok ds else .bad := (rfl)
@[simp] theorem evL_cons : evL cl w (.cons a r) e = (evX cl w a e).bind fun x => (evL cl w r e).bind fun xs => .ok (x :: xs) := (rfl)
@[simp] theorem evI_itr : evI cl w (.itr a) e = (evX cl w a e).bind itemsOf := (rfl)
@[simp] theorem evI_rng1 : evI cl w (.rng1 a) e = (asInt (evX cl true a e)).bind fun j => if inR j then .ok (rngL 0 1 j.toNat) else .bad := (rfl)
@[simp] theorem evI_rng2 : evI cl w (.rng2 a b) e = (asInt (evX cl true a e)).bind fun i => (asInt (evX cl true b e)).bind fun j => if inR i ∧ inR j then .ok (rngL i 1 (j - i).toNat) else .bad := (rfl)
@[simp] theorem evI_rng3 : evI cl w (.rng3 a b c) e = (asInt (evX cl true a e)).bind fun i => (asInt (evX cl true b e)).bind fun j => (asInt (evX cl true c e)).bind fun k =>
      if inR i ∧ inR j ∧ k ≠ 0 ∧ k.natAbs < 1073741824 ∧ Builtin.Range.small i j k = true then .ok (rngL i k (Builtin.Range.rangeSize i j k).toNat) else .bad := (rfl)
@[simp] theorem evI_zip : evI cl w (.zip a b) e = (evX cl w a e).bind fun x => (evX cl w b e).bind fun y => zipD x y := (rfl)
@[simp] theorem evI_rev : evI cl w (.rev a) e = (evX cl w a e).bind fun x => (seqOf x).bind fun ds => .ok ds.reverse := (rfl)
@[simp] theorem optI_no (r : R D) : optI .no r = .ok none := (rfl)
theorem optI_ok (h : isNo a = false) (i : Int) : optI a (.ok (.int i)) = .ok (some i) := by rw [optI_not h]; rfl
@[simp] theorem optC_no (r : R D) : optC .no r = .ok true := (rfl)
end
section
variable (cl : Pr) (e : Ev) (a b c d r as : T) (k : List Nat)
@[simp] theorem exS_pass : exS cl .pass e = .nx e := (rfl)
@[simp] theorem exS_brk : exS cl .brk e = .bk e := (rfl)
@[simp] theorem exS_cnt : exS cl .cnt e = .ct e := (rfl)
noncomputable def exK (cl : Pr) (b : T) (e : Ev) : Out := exS cl b e
@[simp] theorem exK_at (cl : Pr) (b : T) (e : Ev) : exK cl b e = exS cl b e := (rfl)
noncomputable def forB (cl : Pr) (tg : List Nat) (tup : Bool) (b : T) (d : D) (e1 : Ev) : Out := outR (bindT tg tup d e1) e1 (exK cl b)
noncomputable def whB (cl : Pr) (c b : T) : Ev → Sum Ev Out := whStep (fun e1 => tst (evX cl true c e1)) (fun e1 => exS cl b e1)
@[simp] theorem exS_seq : exS cl (.seq a b) e = seqO (exS cl a e) (exK cl b) := (rfl)
@[simp] theorem exS_ret : exS cl (.ret false k a) e = outR (evX cl false a (clrE k e)) (clrE k e) fun d => .rt d (clrE k e) := (rfl)
@[simp] theorem exS_retF : exS cl (.ret true k a) e = outR (evF cl a (clrE k e)) (clrE k e) fun d => .rt d (clrE k e) := (rfl)
@[simp] theorem exS_ex : exS cl (.ex k a) e = outR (evX cl false a (clrE k e)) (clrE k e) fun _ => .nx (clrE k e) := (rfl)
@[simp] theorem exS_asg (i : Nat) (o : Bool) : exS cl (.asg i k o a) e = outR (evX cl false a (clrE k e)) (clrE k e) fun d => .nx ((clrE k e).set i (.val d (o && ownable d))) := (rfl)
@[simp] theorem exS_unp (is : List Nat) : exS cl (.unp is k a) e = outR ((evX cl false a (clrE k e)).bind fun d => bindT is true d (clrE k e)) (clrE k e) .nx := (rfl)
@[simp] theorem exS_par (is : List Nat) : exS cl (.par is k as) e = outR ((evL cl false as (clrE k e)).bind fun ds => setAll is ds (clrE k e)) (clrE k e) .nx := (rfl)
@[simp] theorem exS_aug (i : Nat) (op : Operator) : exS cl (.aug i op k a) e = outR ((shV (clrE k e) i).bind fun x => (evX cl true a (clrE k e)).bind fun y => dAug op x y) (clrE k e) fun d => .nx ((clrE k e).set i (.val d false)) := (rfl)
@[simp] theorem exS_setix (i : Nat) : exS cl (.setix i k b a) e = outR ((evX cl false a (clrE k e)).bind fun d => (ownL (clrE k e) i).bind fun ds => (asInt (evX cl true b (clrE k e))).bind fun j => (rOpt (ixN ds.length j)).bind fun n => .ok (ds.set n d)) (clrE k e) fun ds => .nx ((clrE k e).set i (.val (.lst ds) true)) := (rfl)
@[simp] theorem exS_mut (m : Bm) (i : Nat) : exS cl (.mut m i k as) e = outR ((ownL (clrE k e) i).bind fun ds => (evL cl (isExt m) as (clrE k e)).bind fun xs => dMut m ds xs) (clrE k e) fun p => .nx ((clrE k e).set i (.val (.lst p.2) true)) := (rfl)
@[simp] theorem exS_iff : exS cl (.iff k c a b) e = outR (tst (evX cl true c (clrE k e))) (clrE k e) fun t => if t then exS cl a (bor k e) else exS cl b (bor k e) := (rfl)
@[simp] theorem bor_nil : bor [] e = e := (rfl)
@[simp] theorem bor_one : bor (1000 :: k) e = e := (rfl)
theorem bor_other (i : Nat) (h : (i == 1000) = false) : bor (i :: k) e = clrE (i :: k) e := by
  unfold bor borK
  rw [List.headD_cons, h]
  rfl
@[simp] theorem bor_lt (i : Nat) (h : i < 1000) : bor (i :: k) e = clrE (i :: k) e := bor_other e k i (by simp; omega)
@[simp] theorem exS_whl : exS cl (.whl k c b) e = whl (whB cl c b) (clrE k e) := (rfl)
@[simp] theorem exS_for (tg : List Nat) (tup : Bool) : exS cl (.for_ k tg tup a b) e = outR (evI cl false a (clrE k e)) (clrE k e) fun ds => forL (forB cl tg tup b) ds (clrE k e) := (rfl)
@[simp] theorem exS_sfld (i f : Nat) : exS cl (.sfld i f k a) e = outR ((evX cl false a (clrE k e)).bind fun d => (ownO (clrE k e) i).bind fun s => putO cl.fok f d s) (clrE k e) fun s => .nx ((clrE k e).set i (.val s true)) := (rfl)
@[simp] theorem exS_afld (i f : Nat) (op : Operator) : exS cl (.afld i f op k a) e = outR ((ownO (clrE k e) i).bind fun s => (dFld cl.fok f s).bind fun x => (evX cl true a (clrE k e)).bind fun y => (dAug op x y).bind fun z => putO cl.fok f z s) (clrE k e) fun s => .nx ((clrE k e).set i (.val s true)) := (rfl)
@[simp] theorem exS_exM : exS cl (.exM k a) e = outM (evM cl a (clrE k e)) fun _ _ e1 => .nx e1 := (rfl)
@[simp] theorem exS_retM : exS cl (.retM k a) e = outM (evM cl a (clrE k e)) fun d f2 e1 => if borK k && !f2 && ownable d then .bad else .rt d e1 := (rfl)
@[simp] theorem borK_nil : borK [] = false := (rfl)
@[simp] theorem borK_one : borK (1000 :: k) = true := (rfl)
@[simp] theorem borK_lt (i : Nat) (h : i < 1000) : borK (i :: k) = false := by
  unfold borK
  rw [List.headD_cons]
  simp
  omega
@[simp] theorem exS_asgM (i : Nat) (o : Bool) : exS cl (.asgM i k o a) e = outM (evM cl a (clrE k e)) fun d fr e1 => .nx (e1.set i (.val d (o && fr && ownable d))) := (rfl)
@[simp] theorem exS_forM (tg : List Nat) (tup : Bool) : exS cl (.forM k tg tup a b) e = outM (evM cl a (clrE k e)) fun d _ e1 => outR (tupOf d) e1 fun ds => forL (forB cl tg tup b) ds e1 := (rfl)
@[simp] theorem evM_mcall (m i : Nat) : evM cl (.mcall m i as) e = ((ownO e i).at false e).bind fun s0 _ _ => ((objC s0).at false e).bind fun c _ _ => ((rOpt (mmt (cl.mt c m))).at false e).bind fun f _ _ => (evLM cl as e).bind fun ds _ e1 =>
      ((ownO e1 i).at false e1).bind fun s _ _ => mcR i (cl.frf f) e1 (cl.fn f (s :: ds)) := (rfl)
@[simp] theorem evM_call (f : Nat) : evM cl (.call f as) e = (evLM cl as e).bind fun ds _ e1 => (cl.fn f ds).at (cl.frf f) e1 := (rfl)
@[simp] theorem evM_bin (op : Operator) : evM cl (.bin op a b) e = (evM cl a e).bind fun x _ e1 => ((evX cl true b e1).bind fun y => dBin op x y).at true e1 := (rfl)
@[simp] theorem evM_tup : evM cl (.tup as) e = (evLM cl as e).bind fun ds _ e1 => .ok (.tup ds) true e1 := (rfl)
@[simp] theorem evM_v (i : Nat) : evM cl (.v i) e = (evX cl false (.v i) e).at false e := (rfl)
@[simp] theorem evM_ci (i : Int) : evM cl (.ci i) e = (evX cl false (.ci i) e).at false e := (rfl)
@[simp] theorem evM_lst : evM cl (.lst as) e = (evX cl false (.lst as) e).at false e := (rfl)
@[simp] theorem evM_lc (own tg : List Nat) (tup : Bool) : evM cl (.lc own tg tup a b c) e = (evX cl false (.lc own tg tup a b c) e).at false e := (rfl)
@[simp] theorem evM_fld (f : Nat) : evM cl (.fld f a) e = (evX cl false (.fld f a) e).at false e := (rfl)
@[simp] theorem evM_bi (m : Bi) : evM cl (.bi m as) e = (evX cl false (.bi m as) e).at false e := (rfl)
@[simp] theorem evLM_nil : evLM cl .nil e = .ok [] false e := (rfl)
@[simp] theorem evLM_cons : evLM cl (.cons a r) e = (evM cl a e).bind fun x _ e1 => (evLM cl r e1).bind fun xs _ e2 => .ok (x :: xs) false e2 := (rfl)
@[simp] theorem RM_bind_ok {α β : Type} (x : α) (fr : Bool) (k : α → Bool → Ev → RM β) : (RM.ok x fr e).bind k = k x fr e := (rfl)
@[simp] theorem RM_bind_exc {α β : Type} (n : Nat) (k : α → Bool → Ev → RM β) : (RM.exc n e : RM α).bind k = .exc n e := (rfl)
@[simp] theorem RM_bind_bad {α β : Type} (k : α → Bool → Ev → RM β) : (RM.bad : RM α).bind k = .bad := (rfl)
@[simp] theorem R_at_ok {α : Type} (x : α) (fr : Bool) : (R.ok x).at fr e = .ok x fr e := (rfl)
@[simp] theorem R_at_exc {α : Type} (n : Nat) (fr : Bool) : (R.exc n : R α).at fr e = .exc n e := (rfl)
@[simp] theorem R_at_bad {α : Type} (fr : Bool) : (R.bad : R α).at fr e = .bad := (rfl)
@[simp] theorem outM_ok {α : Type} (x : α) (fr : Bool) (k : α → Bool → Ev → Out) : outM (.ok x fr e) k = k x fr e := (rfl)
@[simp] theorem outM_exc {α : Type} (n : Nat) (k : α → Bool → Ev → Out) : outM (.exc n e : RM α) k = .exc n e := (rfl)
@[simp] theorem outM_bad {α : Type} (k : α → Bool → Ev → Out) : outM (.bad : RM α) k = .bad := (rfl)
@[simp] theorem mcR_ok (i : Nat) (fr : Bool) (x s : D) : mcR i fr e (.ok (.tup [x, s])) = .ok x fr (e.set i (.val s true)) := (rfl)
@[simp] theorem mcR_exc (i : Nat) (fr : Bool) (n : Nat) : mcR i fr e (.exc n) = .exc n (e.set i .emp) := (rfl)
@[simp] theorem exS_rse (n : Nat) : exS cl (.rse n) e = .exc n e := (rfl)
noncomputable def tryO (cl : Pr) (hs : T) (o : Out) : Out := match o with
  | .exc k e1 => if cl.isx k then exH cl k hs e1 else .bad
  | o => o
@[simp] theorem tryO_nx (hs : T) : tryO cl hs (.nx e) = .nx e := (rfl)
@[simp] theorem tryO_rt (hs : T) (d : D) : tryO cl hs (.rt d e) = .rt d e := (rfl)
@[simp] theorem tryO_exc (hs : T) (n : Nat) : tryO cl hs (.exc n e) = if cl.isx n then exH cl n hs e else .bad := (rfl)
@[simp] theorem tryO_ite (hs : T) (p : Prop) [Decidable p] (x y : Out) : tryO cl hs (if p then x else y) = if p then tryO cl hs x else tryO cl hs y := by split <;> rfl
@[simp] theorem exS_try (hs : T) : exS cl (.try_ b hs) e = tryO cl hs (exS cl b e) := (rfl)
@[simp] theorem exH_nil (n : Nat) : exH cl n .nil e = .exc n e := (rfl)
@[simp] theorem exH_named (n i : Nat) (cs : List Nat) (s : T) : exH cl n (.hcons cs (some i) s r) e = if cs.any (cl.su n) then unb (some i) (exS cl s (e.set i (.exn n))) else exH cl n r e := (rfl)
@[simp] theorem exH_plain (n : Nat) (cs : List Nat) (s : T) : exH cl n (.hcons cs none s r) e = if cs.any (cl.su n) then unb none (exS cl s e) else exH cl n r e := (rfl)
@[simp] theorem unb_nx (nm : Option Nat) : unb nm (.nx e) = .nx (wipN nm e) := (rfl)
@[simp] theorem unb_rt (nm : Option Nat) (d : D) : unb nm (.rt d e) = .rt d (noex e) := (rfl)
@[simp] theorem clrE_nil : clrE [] e = e := (rfl)
end
section
variable (i j : Int) (s t : List D) (x y : List Nat)
@[simp] theorem dBin_add : dBin .Add (.int i) (.int j) = .ok (.int (i + j)) := (rfl)
@[simp] theorem dBin_sub : dBin .Sub (.int i) (.int j) = .ok (.int (i - j)) := (rfl)
@[simp] theorem dBin_mul : dBin .Mult (.int i) (.int j) = if mulOk i j then .ok (.int (i * j)) else .bad := (rfl)
@[simp] theorem dBin_fdiv : dBin .FloorDiv (.int i) (.int j) = if j = 0 then .bad else .ok (.int (i.fdiv j)) := (rfl)
@[simp] theorem dBin_mod : dBin .Mod (.int i) (.int j) = if j = 0 then .bad else .ok (.int (i.fmod j)) := (rfl)
@[simp] theorem dBin_pow : dBin .Pow (.int i) (.int j) = if powOk i j then .ok (.int (i ^ j.toNat)) else .bad := (rfl)
@[simp] theorem dBin_mulS (s : List Nat) (k : Int) : dBin .Mult (.str s) (.int k) = if 0 < s.length ∧ s.length ≤ 1000 ∧ 1 ≤ k ∧ k ≤ 1000 then .ok (.str (List.replicate k.toNat s).flatten) else .bad := (rfl)
@[simp] theorem dBin_mulT (s : List D) (k : Int) : dBin .Mult (.tup s) (.int k) = if 0 < s.length ∧ s.length ≤ 1000 ∧ 0 ≤ k ∧ k ≤ 1000 then .ok (.tup (List.replicate k.toNat s).flatten) else .bad := (rfl)
@[simp] theorem dBin_shl : dBin .LShift (.int i) (.int j) = if shlOk i j then .ok (.int (i * 2 ^ j.toNat)) else .bad := (rfl)
@[simp] theorem dBin_shr : dBin .RShift (.int i) (.int j) = if 0 ≤ j then .ok (.int (i / 2 ^ j.toNat)) else .bad := (rfl)
@[simp] theorem dBin_and : dBin .BitAnd (.int i) (.int j) = .ok (.int (Builtin.bitAnd i j)) := (rfl)
@[simp] theorem dBin_or : dBin .BitOr (.int i) (.int j) = .ok (.int (Builtin.bitOr i j)) := (rfl)
@[simp] theorem dBin_xor : dBin .BitXor (.int i) (.int j) = .ok (.int (Builtin.bitXor i j)) := (rfl)
@[simp] theorem dBin_cat : dBin .Add (.lst s) (.lst t) = if s.length + t.length ≤ SZ then .ok (.lst (s ++ t)) else .bad := (rfl)
@[simp] theorem dBin_catT : dBin .Add (.tup s) (.tup t) = if s.length + t.length ≤ SZ then .ok (.tup (s ++ t)) else .bad := (rfl)
@[simp] theorem dBin_catS : dBin .Add (.str x) (.str y) = if x.length + y.length ≤ SZ then .ok (.str (x ++ y)) else .bad := (rfl)
@[simp] theorem dBin_rep : dBin .Mult (.lst s) (.int i) = if repOk s.length i then .ok (.lst (List.replicate i.toNat s).flatten) else .bad := (rfl)
@[simp] theorem dNeg_int : dNeg (.int i) = .ok (.int (-i)) := (rfl)
@[simp] theorem dCmp_lt : dCmp .Lt (.int i) (.int j) = .ok (.bl (decide (i < j))) := (rfl)
@[simp] theorem dCmp_le : dCmp .LtE (.int i) (.int j) = .ok (.bl (decide (i ≤ j))) := (rfl)
@[simp] theorem dCmp_gt : dCmp .Gt (.int i) (.int j) = .ok (.bl (decide (j < i))) := (rfl)
@[simp] theorem dCmp_ge : dCmp .GtE (.int i) (.int j) = .ok (.bl (decide (j ≤ i))) := (rfl)
@[simp] theorem dCmp_eq (a b : D) : dCmp .Eq a b = rBl (dEq a b) := by cases a <;> rfl
@[simp] theorem dCmp_ne' (a b : D) : dCmp .NotEq a b = rNot (dEq a b) := by cases a <;> rfl
@[simp] theorem dCmp_in (a b : D) : dCmp .In a b = rBl (dIn a b) := by cases a <;> rfl
@[simp] theorem dCmp_nin (a b : D) : dCmp .NotIn a b = rNot (dIn a b) := by cases a <;> rfl
@[simp] theorem dCmp_is (a : D) : dCmp .Is a .non = .ok (.bl (isNonD a)) := by cases a <;> rfl
@[simp] theorem dCmp_isnt (a : D) : dCmp .IsNot a .non = .ok (.bl (!isNonD a)) := by cases a <;> rfl
@[simp] theorem isNon_non : isNonD .non = true := (rfl)
@[simp] theorem isNon_int : isNonD (.int i) = false := (rfl)
@[simp] theorem isNon_lst : isNonD (.lst s) = false := (rfl)
@[simp] theorem isNon_dct (ks : List (List (List Nat))) : isNonD (.dct ks s) = false := (rfl)
@[simp] theorem dIx_dctS (ks : List (List (List Nat))) : dIx (.dct ks s) (.str x) = if dctOk [x] ks then rOpt (dctGet [x] ks s) else .bad := (rfl)
@[simp] theorem dIx_dctT (ks : List (List (List Nat))) (z : List Nat) : dIx (.dct ks s) (.tup [.str x, .str z]) = if dctOk [x, z] ks then rOpt (dctGet [x, z] ks s) else .bad := (rfl)
@[simp] theorem dIn_dctS (ks : List (List (List Nat))) : dIn (.str x) (.dct ks s) = if dctOk [x] ks then .ok (decide ([x] ∈ ks)) else .bad := (rfl)
@[simp] theorem dIn_dctT (ks : List (List (List Nat))) (z : List Nat) : dIn (.tup [.str x, .str z]) (.dct ks s) = if dctOk [x, z] ks then .ok (decide ([x, z] ∈ ks)) else .bad := (rfl)
@[simp] theorem isNon_tup : isNonD (.tup s) = false := (rfl)
@[simp] theorem isNon_str : isNonD (.str x) = false := (rfl)
@[simp] theorem isNon_bl (b : Bool) : isNonD (.bl b) = false := (rfl)
@[simp] theorem dIx_lst : dIx (.lst s) (.int i) = rOpt (atI s i) := (rfl)
@[simp] theorem dIx_frz : dIx (.frz s) (.int i) = rOpt (atI s i) := (rfl)
@[simp] theorem dIx_tup : dIx (.tup s) (.int i) = rOpt (atI s i) := (rfl)
@[simp] theorem dIx_str : dIx (.str x) (.int i) = if x.length ≤ SZ then rOpt ((atI x i).map fun c => .str [c]) else .bad := (rfl)
@[simp] theorem dSl_lst (lo hi : Option Int) : dSl (.lst s) lo hi = .ok (.lst (cutD s lo hi)) := (rfl)
@[simp] theorem dSl_tup (lo hi : Option Int) : dSl (.tup s) lo hi = .ok (.tup (cutD s lo hi)) := (rfl)
@[simp] theorem dSl_str (lo hi : Option Int) : dSl (.str x) lo hi = if x.length ≤ SZ then .ok (.str (cutD x lo hi)) else .bad := (rfl)
@[simp] theorem dBi_lenL : dBi .len [.lst s] = .ok (.int s.length) := (rfl)
@[simp] theorem dBi_lenF : dBi .len [.frz s] = .ok (.int s.length) := (rfl)
@[simp] theorem dBi_lenT : dBi .len [.tup s] = .ok (.int s.length) := (rfl)
@[simp] theorem dBi_lenS : dBi .len [.str x] = if x.length ≤ SZ then .ok (.int x.length) else .bad := (rfl)
@[simp] theorem dBi_abs : dBi .abs [.int i] = .ok (.int (if i < 0 then -i else i)) := (rfl)
@[simp] theorem dBi_int : dBi .int [.int i] = .ok (.int i) := (rfl)
@[simp] theorem dBi_intB (b : Bool) : dBi .int [.bl b] = .ok (.int (if b then 1 else 0)) := (rfl)
@[simp] theorem dBi_min : dBi .min [.int i, .int j] = .ok (.int (if j < i then j else i)) := (rfl)
@[simp] theorem dBi_max : dBi .max [.int i, .int j] = .ok (.int (if j > i then j else i)) := (rfl)
@[simp] theorem dBi_minT : dBi .min [.tup [.int i, .int j]] = .ok (.int (if j < i then j else i)) := (rfl)
@[simp] theorem dBi_maxT : dBi .max [.tup [.int i, .int j]] = .ok (.int (if j > i then j else i)) := (rfl)
@[simp] theorem dBi_list : dBi .list [.lst s] = .ok (.lst s) := (rfl)
@[simp] theorem dBi_listT : dBi .list [.tup s] = .ok (.lst s) := (rfl)
@[simp] theorem dBi_tuple : dBi .tuple [.lst s] = .ok (.tup s) := (rfl)
@[simp] theorem dBi_lrev : dBi .lrev [.lst s] = .ok (.lst s.reverse) := (rfl)
@[simp] theorem dBi_ord (c : Nat) : dBi .ord [.str [c]] = .ok (.int c) := (rfl)
@[simp] theorem itemsOf_lst : itemsOf (.lst s) = .ok s := (rfl)
@[simp] theorem itemsOf_tup : itemsOf (.tup s) = .ok s := (rfl)
@[simp] theorem itemsOf_frz : itemsOf (.frz s) = .ok s := (rfl)
@[simp] theorem itemsOf_str : itemsOf (.str x) = .ok (x.map fun c => .str [c]) := (rfl)
@[simp] theorem seqOf_lst : seqOf (.lst s) = .ok s := (rfl)
@[simp] theorem seqOf_tup : seqOf (.tup s) = .ok s := (rfl)
@[simp] theorem bindT_false (tg : List Nat) (d : D) (e : Ev) : bindT tg false d e = setAll tg [d] e := (rfl)
@[simp] theorem bindT_true (tg : List Nat) (d : D) (e : Ev) : bindT tg true d e = (match nestT tg with
  | none => (seqOf d).bind fun ds => setAll tg ds e
  | some p => (seqOf d).bind fun ds => setNest p.1 p.2 e ds) := (rfl)
@[simp] theorem nestT_cons (i : Nat) (r : List Nat) : nestT (i :: r) = if 1000 ≤ i then some (i - 1000, r) else none := (rfl)
@[simp] theorem nestT_nil : nestT [] = none := (rfl)
@[simp] theorem setNest_cons (n : Nat) (r : List Nat) (d : D) (ds : List D) : setNest n r e (d :: ds) = (seqOf d).bind fun xs => (setAll (r.take n) xs e).bind fun e1 => setAll (r.drop n) ds e1 := (rfl)
@[simp] theorem setAll_nil (e : Ev) : setAll [] [] e = .ok e := (rfl)
@[simp] theorem setAll_cons (i : Nat) (is : List Nat) (d : D) (ds : List D) (e : Ev) : setAll (i :: is) (d :: ds) e = setAll is ds (e.set i (.val d false)) := (rfl)
@[simp] theorem zipD_lst : zipD (.lst s) (.lst t) = .ok ((s.zip t).map fun p => .tup [p.1, p.2]) := (rfl)
@[simp] theorem dRng_int (n : Int) : dRng (.int n) = if inG n then .ok (.lst (rngL 0 1 n.toNat)) else .bad := (rfl)
@[simp] theorem dBm_lindex (ds : List D) (t : List Nat) : dBm .lindex (.lst ds) [.str t] = (rOpt (strsOf ds)).bind fun l => rOpt ((l.findIdx? (fun x => x == dS t)).map fun j => D.int ((j : Nat) : Int)) := (rfl)
@[simp] theorem rcv_lindex (ds : List D) : rcv .lindex (.lst ds) = true := (rfl)
@[simp] theorem dMut_app (ds : List D) (d : D) : dMut .lappend ds [d] = if ds.length < SZ then .ok (.non, ds ++ [d]) else .bad := (rfl)
@[simp] theorem dMut_ext (ds es : List D) : dMut .lextend ds [.lst es] = if ds.length + es.length ≤ SZ then .ok (.non, ds ++ es) else .bad := (rfl)
@[simp] theorem isExt_app : isExt .lappend = false := (rfl)
@[simp] theorem isExt_ext : isExt .lextend = true := (rfl)
@[simp] theorem isExt_pop : isExt .lpop = false := (rfl)
@[simp] theorem dMut_pop (ds : List D) (i : Int) : dMut .lpop ds [.int i] = if -(2 ^ 63) ≤ i ∧ i < 2 ^ 63 then (match seqIndex? i ds.length with
    | some k => (match ds[k]? with
      | some d => .ok (d, ds.eraseIdx k)
      | none => .bad)
    | none => .bad) else .bad := (rfl)
@[simp] theorem dCmp_lts (s t : List Nat) : dCmp .Lt (.str s) (.str t) = .ok (.bl (decide (s < t))) := (rfl)
@[simp] theorem dCmp_les (s t : List Nat) : dCmp .LtE (.str s) (.str t) = .ok (.bl (!decide (t < s))) := (rfl)
@[simp] theorem dCmp_gts (s t : List Nat) : dCmp .Gt (.str s) (.str t) = .ok (.bl (decide (t < s))) := (rfl)
@[simp] theorem dCmp_ges (s t : List Nat) : dCmp .GtE (.str s) (.str t) = .ok (.bl (!decide (s < t))) := (rfl)
@[simp] theorem isExt_ins : isExt .linsert = false := (rfl)
@[simp] theorem ownable_int : ownable (.int i) = false := (rfl)
@[simp] theorem ownable_lst : ownable (.lst s) = true := (rfl)
@[simp] theorem ownable_tup : ownable (.tup s) = false := (rfl)
@[simp] theorem ownable_str : ownable (.str x) = false := (rfl)
@[simp] theorem ownable_bl (b : Bool) : ownable (.bl b) = false := (rfl)
@[simp] theorem ownable_non : ownable .non = false := (rfl)
@[simp] theorem base_fn (S : Prg) (fn : Nat → List D → R D) : (S.base fn).fn = fn := (rfl)
@[simp] theorem base_mt (S : Prg) (fn : Nat → List D → R D) (c m : Nat) : (S.base fn).mt c m = S.ms.lookup (c, m) := (rfl)
@[simp] theorem base_frf (S : Prg) (fn : Nat → List D → R D) (f : Nat) : (S.base fn).frf f = S.frf f := (rfl)
@[simp] theorem base_ini (S : Prg) (fn : Nat → List D → R D) (c : Nat) : (S.base fn).ini c = S.cs.lookup c := (rfl)
@[simp] theorem base_kwf (S : Prg) (fn : Nat → List D → R D) : (S.base fn).kwf = S.kwf := (rfl)
@[simp] theorem base_fok (S : Prg) (fn : Nat → List D → R D) (c f : Nat) : (S.base fn).fok c f = decide ((c, f) ∈ S.fk) := (rfl)
@[simp] theorem ownable_obj (k : Nat) (fs : List Nat) (ds : List D) : ownable (.obj k fs ds) = true := (rfl)
@[simp] theorem isNon_obj (k : Nat) (fs : List Nat) (ds : List D) : isNonD (.obj k fs ds) = false := (rfl)
@[simp] theorem base_su (S : Prg) (fn : Nat → List D → R D) : (S.base fn).su = S.su := (rfl)
@[simp] theorem base_isx (S : Prg) (fn : Nat → List D → R D) (k : Nat) : (S.base fn).isx k = decide (k ∈ S.exs) := (rfl)
@[simp] theorem base_gl (S : Prg) (fn : Nat → List D → R D) (k : Nat) : (S.base fn).gl k = (S.glo[k]?).map (·.2) := (rfl)
end
theorem call_eq {S : Prg} {n f : Nat} {F : FD} {ds : List D} (hf : S.fs[f]? = some F) (h : F.lo = F.ps.length) (hl : ds.length = F.ps.length) (hd : F.dfl = []) (hm : F.mu = false := by rfl) : callN S (n + 1) f ds = outF (exS (S.base (callN S n)) F.body (e0 F.N ds)) := by
  rw [callN_eq hf]
  unfold runF
  have a1 : F.lo ≤ ds.length ∧ ds.length ≤ F.ps.length := ⟨by omega, by omega⟩
  rw [if_pos a1, hm, hd, List.drop_nil, List.append_nil]
  rfl
theorem callW_eq {S : Prg} {n f : Nat} {F : FD} {ds : List D} (hf : S.fs[f]? = some F) (h : F.lo + F.dfl.length = F.ps.length) (hl : ds.length = F.ps.length) (hm : F.mu = false := by rfl) : callN S (n + 1) f ds = outF (exS (S.base (callN S n)) F.body (e0 F.N ds)) := by
  rw [callN_eq hf]
  unfold runF
  have a1 : F.lo ≤ ds.length ∧ ds.length ≤ F.ps.length := ⟨by omega, by omega⟩
  have a2 : F.dfl.drop (ds.length - F.lo) = [] := by rw [List.drop_eq_nil_iff]; omega
  rw [if_pos a1, hm, a2, List.append_nil]
  rfl
theorem callD_eq {S : Prg} {n f : Nat} {F : FD} {ds : List D} (hf : S.fs[f]? = some F) (h : F.lo + F.dfl.length = F.ps.length) (hl : ds.length = F.lo) (hm : F.mu = false := by rfl) : callN S (n + 1) f ds = outF (exS (S.base (callN S n)) F.body (e0 F.N (ds ++ F.dfl))) := by
  rw [callN_eq hf]
  unfold runF
  have a1 : F.lo ≤ ds.length ∧ ds.length ≤ F.ps.length := ⟨by omega, by omega⟩
  rw [if_pos a1, hm, hl, Nat.sub_self, List.drop_zero]
  rfl
theorem callM_eq {S : Prg} {n f : Nat} {F : FD} {ds : List D} (hf : S.fs[f]? = some F) (h : F.lo = F.ps.length) (hl : ds.length = F.ps.length) (hd : F.dfl = []) (hm : F.mu = true := by rfl) : callN S (n + 1) f ds = outMu (exS (S.base (callN S n)) F.body (e0M F.N ds)) := by
  rw [callN_eq hf]
  unfold runF
  have a1 : F.lo ≤ ds.length ∧ ds.length ≤ F.ps.length := ⟨by omega, by omega⟩
  rw [if_pos a1, hm, hd, List.drop_nil, List.append_nil]
  rfl
theorem callMW_eq {S : Prg} {n f : Nat} {F : FD} {ds : List D} (hf : S.fs[f]? = some F) (h : F.lo + F.dfl.length = F.ps.length) (hl : ds.length = F.ps.length) (hm : F.mu = true := by rfl) : callN S (n + 1) f ds = outMu (exS (S.base (callN S n)) F.body (e0M F.N ds)) := by
  rw [callN_eq hf]
  unfold runF
  have a1 : F.lo ≤ ds.length ∧ ds.length ≤ F.ps.length := ⟨by omega, by omega⟩
  have a2 : F.dfl.drop (ds.length - F.lo) = [] := by rw [List.drop_eq_nil_iff]; omega
  rw [if_pos a1, hm, a2, List.append_nil]
  rfl
theorem callMD_eq {S : Prg} {n f : Nat} {F : FD} {ds : List D} (hf : S.fs[f]? = some F) (h : F.lo + F.dfl.length = F.ps.length) (hl : ds.length = F.lo) (hm : F.mu = true := by rfl) : callN S (n + 1) f ds = outMu (exS (S.base (callN S n)) F.body (e0M F.N (ds ++ F.dfl))) := by
  rw [callN_eq hf]
  unfold runF
  have a1 : F.lo ≤ ds.length ∧ ds.length ≤ F.ps.length := ⟨by omega, by omega⟩
  rw [if_pos a1, hm, hl, Nat.sub_self, List.drop_zero]
  rfl
theorem atI_nat' {α : Type} {xs : List α} {k : Nat} : atI xs (k : Int) = xs[k]? := by
  unfold atI ixN
  by_cases h : k < xs.length
  · have h1 : ¬ ((k : Int) < 0) := by omega
    have h2 : (0 : Int) ≤ k ∧ (k : Int) < xs.length := by omega
    simp [h]
  · simp [h]
theorem log2_le {x a : Nat} (h : x < 2 ^ a) : x.log2 ≤ a := by
  by_cases hz : x = 0
  · subst hz
    have : Nat.log2 0 = 0 := Nat.log2_zero
    omega
  · have := (Nat.log2_lt hz).mpr h
    omega
theorem mul_ok {i j : Int} {a b : Nat} (h1 : i.natAbs < 2 ^ a) (h2 : j.natAbs < 2 ^ b) (h : a + b < 134000000) : mulOk i j := by
  have := log2_le h1
  have := log2_le h2
  unfold mulOk
  omega
theorem shl_ok {i j : Int} {a : Nat} (h1 : i.natAbs < 2 ^ a) (h0 : 0 ≤ j) (h : (a : Int) + j < 134000000) : shlOk i j := by
  have := log2_le h1
  unfold shlOk
  omega
theorem inR_of {i : Int} (h1 : -1000000000 ≤ i) (h2 : i ≤ 1000000000) : VE.inR i := by unfold VE.inR; omega
theorem lcRun_map {f : D → R (Option D)} {g : D → D} : ∀ (ds : List D), (∀ d ∈ ds, f d = .ok (some (g d))) → lcRun f ds = .ok (ds.map g)
  | [], _ => rfl
  | d :: r, h => by
    show (match f d with
      | .ok o => (lcRun f r).bind fun l => .ok (consO o l)
      | _ => R.bad) = _
    rw [h d (by simp), lcRun_map r fun x hx => h x (by simp [hx])]
    rfl
theorem wipeE_nil (e : Ev) : wipeE [] e = e := (rfl)
@[simp] theorem wipeE_cons (i : Nat) (r : List Nat) (e : Ev) : wipeE (i :: r) e = (wipeE r e).set i .emp := (rfl)
@[simp] theorem wipeE_nil' (e : Ev) : wipeE [] e = e := (rfl)
def itN {α : Type} (st : Nat → α → α) : Nat → Nat → α → α
  | _, 0, a => a
  | k, n + 1, a => itN st (k + 1) n (st k a)
theorem rngL_succ (lo : Int) (n : Nat) : rngL lo 1 (n + 1) = .int lo :: rngL (lo + 1) 1 n := by
  unfold rngL
  rw [List.range_succ_eq_map, List.map_cons, List.map_map]
  congr 1
  · simp
  · apply List.map_congr_left
    intro i _
    simp only [Function.comp]
    congr 1
    push_cast
    omega
@[simp] theorem rngL_zero (lo : Int) : rngL lo 1 0 = [] := (rfl)
theorem forL_cons (bd : D → Ev → Out) (d : D) (r : List D) (e : Ev) : forL bd (d :: r) e = match bd d e with
    | .nx e1 => forL bd r e1
    | .ct e1 => forL bd r e1
    | .bk e1 => .nx e1
    | o => o := (rfl)
@[simp] theorem forL_nil (bd : D → Ev → Out) (e : Ev) : forL bd [] e = .nx e := (rfl)
theorem forL_rngK {α : Type} (bd : D → Ev → Out) (st : Nat → α → α) (mk : α → Sl → Ev) (I : Nat → α → Prop) (h : ∀ i a s, I i a → bd (.int (i : Nat)) (mk a s) = .nx (mk (st i a) (.val (.int (i : Nat)) false)) ∧ I (i + 1) (st i a)) :
    ∀ (n k : Nat) (a : α) (s0 : Sl), I k a → ∃ s1, forL bd (rngL (k : Nat) 1 n) (mk a s0) = .nx (mk (itN st k n a) s1) ∧ I (k + n) (itN st k n a)
  | 0, k, a, s0, i0 => ⟨s0, rfl, i0⟩
  | n + 1, k, a, s0, i0 => by
    obtain ⟨h1, h2⟩ := h k a s0 i0
    obtain ⟨s1, q1, q2⟩ := forL_rngK bd st mk I h n (k + 1) (st k a) (.val (.int (k : Nat)) false) h2
    refine ⟨s1, ?_, by rw [show k + (n + 1) = k + 1 + n by omega]; exact q2⟩
    rw [rngL_succ, forL_cons, h1]
    exact q1
theorem forL_rng {α : Type} (bd : D → Ev → Out) (st : Nat → α → α) (mk : α → Sl → Ev) (I : Nat → α → Prop) (n : Nat) (a : α) (s0 : Sl) (i0 : I 0 a) (h : ∀ i a s, i < n → I i a → bd (.int (i : Nat)) (mk a s) = .nx (mk (st i a) (.val (.int (i : Nat)) false)) ∧ I (i + 1) (st i a)) :
    ∃ s1, forL bd (rngL 0 1 n) (mk a s0) = .nx (mk (itN st 0 n a) s1) ∧ I n (itN st 0 n a) := by
  have key : ∀ (m k : Nat) (a : α) (s0 : Sl), k + m ≤ n → I k a → ∃ s1, forL bd (rngL (k : Nat) 1 m) (mk a s0) = .nx (mk (itN st k m a) s1) ∧ I (k + m) (itN st k m a) := by
    intro m
    induction m with
    | zero => intro k a s0 _ i0; exact ⟨s0, rfl, i0⟩
    | succ m ih =>
      intro k a s0 hk i0
      obtain ⟨h1, h2⟩ := h k a s0 (by omega) i0
      obtain ⟨s1, q1, q2⟩ := ih (k + 1) (st k a) (.val (.int (k : Nat)) false) (by omega) h2
      refine ⟨s1, ?_, by rw [show k + (m + 1) = k + 1 + m by omega]; exact q2⟩
      rw [rngL_succ, forL_cons, h1]
      exact q1
  obtain ⟨s1, q1, q2⟩ := key n 0 a s0 (by omega) i0
  exact ⟨s1, q1, by rw [Nat.zero_add] at q2; exact q2⟩
theorem forL_fold {α : Type} (bd : D → Ev → Out) (st : α → D → α) (mk : α → Sl → Ev) (I : List D → α → Prop) (h : ∀ d r a s, I (d :: r) a → bd d (mk a s) = .nx (mk (st a d) (.val d false)) ∧ I r (st a d)) : ∀ (ds : List D) (a : α) (s0 : Sl), I ds a → ∃ s1, forL bd ds (mk a s0) = .nx (mk (ds.foldl st a) s1) ∧ I [] (ds.foldl st a)
  | [], a, s0, i => ⟨s0, rfl, i⟩
  | d :: r, a, s0, i => by
    obtain ⟨h1, h2⟩ := h d r a s0 i
    obtain ⟨s1, e, q⟩ := forL_fold bd st mk I h r (st a d) (.val d false) h2
    refine ⟨s1, ?_, q⟩
    rw [forL_cons, h1]
    exact e
end VE
namespace VE
open PySem PySem.Spec PyProof.Rows L2
theorem okL_ints (l : List Int) (n : Nat) : dOkL (l.map D.int) n = true := by
  induction l with
  | nil => rfl
  | cons i r ih => show (true && dOkL (r.map D.int) n) = true; rw [ih]; rfl
theorem eqv_ints : ∀ (l m : List Int), PyData.eqvAll (pyL (l.map D.int)) (pyL (m.map D.int)) = decide (l = m)
  | [], [] => by simp [pyL, PyData.eqvAll]
  | [], _ :: _ => by simp [pyL, PyData.eqvAll]
  | _ :: _, [] => by simp [pyL, PyData.eqvAll]
  | i :: l, j :: m => by
    show PyData.eqvAll (.int i :: pyL (l.map D.int)) (.int j :: pyL (m.map D.int)) = _
    rw [PyData.eqvAll, eqv_ints l m]
    by_cases h1 : i = j <;> by_cases h2 : l = m <;> simp [PyData.eqv, h1, h2]
@[simp] theorem dEq_int (i j : Int) : dEq (.int i) (.int j) = .ok (decide (i = j)) := by
  show (if true && true then R.ok (dEqv (.int i) (.int j)) else .bad) = _
  show R.ok (PyData.eqv (.int i) (.int j)) = _
  congr 1
@[simp] theorem dEq_ints (l m : List Int) : dEq (.lst (l.map D.int)) (.lst (m.map D.int)) = .ok (decide (l = m)) := by
  show (if dOkL (l.map D.int) 59 && dOkL (m.map D.int) 59 then R.ok (dEqv (.lst (l.map D.int)) (.lst (m.map D.int))) else .bad) = _
  rw [okL_ints, okL_ints]
  show R.ok (PyData.eqv (.list (pyL (l.map D.int))) (.list (pyL (m.map D.int)))) = _
  rw [PyData.eqv, eqv_ints]
end VE
set_option maxHeartbeats 0
namespace Pg
open PySem PySem.Spec PyProof.Rows L2 VE
def top (i : Nat) : Stmt := PySem.Challenge.pw_curveseal_k66_heads_and_signed_bytes.main.body.getD i (.Pass ⟨0, 0, 0, 0⟩)
def clsB_ (s : Stmt) : List Stmt := match s with
  | .ClassDef _ _ _ b _ _ _ _ _ _ _ => b
  | _ => []
def cst (i j : Nat) : Stmt := (clsB_ (top i)).getD j (.Pass ⟨0, 0, 0, 0⟩)
def t0 : T := (.seq (.whl [] (.cb true) (.seq .pass .pass)) .pass)
def f0 : FD := ⟨"_wall", "_wall", top 1, ["k"], ["k"], 1, [], false, t0, none⟩
def t1 : T := (.seq (.iff [] (.or (.cmp .Lt (.v 1) (.ci 0)) (.cmp .Gt (.v 1) (.ci 4096))) (.seq (.rse 1) .pass) .pass) (.seq (.iff [] (.or (.cmp .Lt
    (.v 0) (.ci 0)) (.cmp .NotEq (.bin .RShift (.v 0) (.bin .Mult (.ci 8) (.v 1))) (.ci 0))) (.seq (.rse 1) .pass) .pass) (.seq (.asg 2 [] true (.lst
    .nil)) (.seq (.for_ [] [3] false (.rng1 (.v 1)) (.seq (.mut .lappend 2 [] (.cons (.bin .BitAnd (.v 0) (.ci 255)) .nil)) (.seq (.asg 0 [] false
    (.bin .RShift (.v 0) (.ci 8))) .pass))) (.seq (.ret false [2] (.v 2)) .pass)))))
def f1 : FD := ⟨"to_little", "to_little", top 7, ["number", "size", "data", "_"], ["number", "size"], 2, [], false, t1, none⟩
def t2 : T := (.seq (.ret false [] (.lrev (.call 1 (.cons (.v 0) (.cons (.v 1) .nil))))) .pass)
def f2 : FD := ⟨"to_big", "to_big", top 8, ["number", "size"], ["number", "size"], 2, [], false, t2, none⟩
def t3 : T := (.seq (.asg 1 [] false (.ci 0)) (.seq (.for_ [] [2] false (.itr (.v 0)) (.seq (.asg 1 [] false (.bin .Add (.bin .Mult (.v 1) (.ci 256))
    (.v 2))) .pass)) (.seq (.ret false [] (.v 1)) .pass)))
def f3 : FD := ⟨"from_big", "from_big", top 9, ["data", "number", "byte"], ["data"], 1, [], false, t3, none⟩
def t4 : T := (.seq (.asg 1 [] false (.lc [3] [3] false (.itr (.v 0)) .no (.bi .ord (.cons (.v 3) .nil)))) (.seq (.for_ [] [2] false (.itr (.v 1))
    (.seq (.iff [] (.or (.cmp .Lt (.v 2) (.ci 32)) (.or (.cmp .Gt (.v 2) (.ci 126)) (.cmp .Eq (.v 2) (.ci 37)))) (.seq (.rse 2) .pass) .pass) .pass))
    (.seq (.ret false [] (.v 1)) .pass)))
def f4 : FD := ⟨"ascii_codes", "ascii_codes", top 10, ["text", "codes", "code", "sign"], ["text"], 1, [], false, t4, none⟩
def t5 : T := (.seq (.iff [] (.cmp .NotIn (.v 0) (.g 0)) (.seq (.rse 1) .pass) .pass) .pass)
def f5 : FD := ⟨"check_kind", "check_kind", top 15, ["kind"], ["kind"], 1, [], false, t5, none⟩
def t6 : T := (.seq (.ex [] (.call 5 (.cons (.v 0) .nil))) (.seq (.ret false [] (.ix (.ix (.g 0) (.v 0)) (.ci 0))) .pass))
def f6 : FD := ⟨"word_bits", "word_bits", top 16, ["kind"], ["kind"], 1, [], false, t6, none⟩
def t7 : T := (.seq (.ex [] (.call 5 (.cons (.v 0) .nil))) (.seq (.ret false [] (.ix (.ix (.g 0) (.v 0)) (.ci 1))) .pass))
def f7 : FD := ⟨"block_size", "block_size", top 17, ["kind"], ["kind"], 1, [], false, t7, none⟩
def t8 : T := (.seq (.ex [] (.call 5 (.cons (.v 0) .nil))) (.seq (.ret false [] (.ix (.ix (.g 0) (.v 0)) (.ci 3))) .pass))
def f8 : FD := ⟨"length_size", "length_size", top 18, ["kind"], ["kind"], 1, [], false, t8, none⟩
def t9 : T := (.seq (.ex [] (.call 5 (.cons (.v 0) .nil))) (.seq (.ret false [] (.ix (.ix (.g 0) (.v 0)) (.ci 4))) .pass))
def f9 : FD := ⟨"digest_size", "digest_size", top 19, ["kind"], ["kind"], 1, [], false, t9, none⟩
def t10 : T := (.seq (.asg 1 [] true (.lst .nil)) (.seq (.asg 2 [] false (.ci 2)) (.seq (.whl [] (.cmp .Lt (.bi .len (.cons (.v 1) .nil)) (.v 0))
    (.seq (.iff [] (.bi .all (.cons (.lc [3] [3] false (.itr (.v 1)) .no (.cmp .NotEq (.bin .Mod (.v 2) (.v 3)) (.ci 0))) .nil)) (.seq (.mut .lappend
    1 [] (.cons (.v 2) .nil)) .pass) .pass) (.seq (.asg 2 [] false (.bin .Add (.v 2) (.ci 1))) .pass))) (.seq (.ret false [1] (.v 1)) .pass))))
def f10 : FD := ⟨"first_primes", "first_primes", top 20, ["count", "primes", "number", "prime"], ["count"], 1, [], false, t10, none⟩
def t11 : T := (.seq (.asg 2 [] false (.v 1)) (.seq (.asg 3 [] false (.bin .FloorDiv (.bin .Add (.bin .Mult (.ci 2) (.v 2)) (.bin .FloorDiv (.v 0)
    (.bin .Mult (.v 2) (.v 2)))) (.ci 3))) (.seq (.whl [] (.cmp .Lt (.v 3) (.v 2)) (.seq (.asg 2 [] false (.v 3)) (.seq (.asg 3 [] false (.bin
    .FloorDiv (.bin .Add (.bin .Mult (.ci 2) (.v 2)) (.bin .FloorDiv (.v 0) (.bin .Mult (.v 2) (.v 2)))) (.ci 3))) .pass))) (.seq (.ret false [] (.v
    2)) .pass))))
def f11 : FD := ⟨"whole_cube_root", "whole_cube_root", top 21, ["number", "start", "root", "better"], ["number", "start"], 2, [], false, t11, none⟩
def t12 : T := (.seq (.ex [] (.call 5 (.cons (.v 0) .nil))) (.seq (.unp [4, 5, 6, 5, 5] [] (.ix (.g 0) (.v 0))) (.seq (.asg 1 [] true (.lst .nil))
    (.seq (.asg 2 [] false (.bin .LShift (.ci 1) (.v 4))) (.seq (.for_ [] [3] false (.itr (.call 10 (.cons (.v 6) .nil))) (.seq (.asg 2 [] false
    (.call 11 (.cons (.bin .LShift (.v 3) (.bin .Mult (.ci 3) (.v 4))) (.cons (.bin .Mult (.ci 2) (.v 2)) .nil)))) (.seq (.mut .lappend 1 [] (.cons
    (.bin .BitAnd (.v 2) (.bin .Sub (.bin .LShift (.ci 1) (.v 4)) (.ci 1))) .nil)) .pass))) (.seq (.ret false [1] (.v 1)) .pass))))))
def f12 : FD := ⟨"round_constants", "round_constants", top 22, ["kind", "constants", "root", "prime", "bits", "_", "rounds"], ["kind"], 1, [], false,
    t12, none⟩
def t13 : T := (.seq (.asg 1 [] false (.call 6 (.cons (.v 0) .nil))) (.seq (.ret false [] (.lc [2] [2] false (.itr (.call 10 (.cons (.g 2) .nil))) .no
    (.bin .BitAnd (.isq (.bin .LShift (.v 2) (.bin .Mult (.ci 2) (.v 1)))) (.bin .Sub (.bin .LShift (.ci 1) (.v 1)) (.ci 1))))) .pass))
def f13 : FD := ⟨"start_words", "start_words", top 23, ["kind", "bits", "prime"], ["kind"], 1, [], false, t13, none⟩
def t14 : T := (.seq (.iff [] (.cmp .NotEq (.bi .len (.cons (.v 1) .nil)) (.call 7 (.cons (.v 0) .nil))) (.seq (.rse 1) .pass) .pass) (.seq (.unp [6,
    7, 8, 9, 9] [] (.ix (.g 0) (.v 0))) (.seq (.asg 2 [] false (.bin .Sub (.bin .LShift (.ci 1) (.v 6)) (.ci 1))) (.seq (.asg 3 [] false (.bin
    .FloorDiv (.v 6) (.ci 8))) (.seq (.asg 4 [] true (.lc [5] [5] false (.rng3 (.ci 0) (.v 7) (.v 3)) .no (.call 3 (.cons (.sl (.v 1) (.v 5) (.bin
    .Add (.v 5) (.v 3))) .nil)))) (.seq (.unp [10, 11, 12] [] (.ix (.g 1) (.tup (.cons (.v 0) (.cons (.cs [116, 117, 114, 110, 95, 122, 101, 114,
    111]) .nil))))) (.seq (.unp [13, 14, 15] [] (.ix (.g 1) (.tup (.cons (.v 0) (.cons (.cs [116, 117, 114, 110, 95, 111, 110, 101]) .nil))))) (.seq
    (.for_ [] [5] false (.rng2 (.ci 16) (.v 8)) (.seq (.asg 16 [] false (.bin .BitOr (.ix (.v 4) (.bin .Sub (.v 5) (.ci 15))) (.bin .LShift (.ix (.v
    4) (.bin .Sub (.v 5) (.ci 15))) (.v 6)))) (.seq (.asg 17 [] false (.bin .BitOr (.ix (.v 4) (.bin .Sub (.v 5) (.ci 2))) (.bin .LShift (.ix (.v 4)
    (.bin .Sub (.v 5) (.ci 2))) (.v 6)))) (.seq (.asg 18 [] false (.bin .BitAnd (.bin .BitXor (.bin .BitXor (.bin .RShift (.v 16) (.v 10)) (.bin
    .RShift (.v 16) (.v 11))) (.bin .RShift (.ix (.v 4) (.bin .Sub (.v 5) (.ci 15))) (.v 12))) (.v 2))) (.seq (.asg 18 [] false (.bin .Add (.v 18)
    (.bin .BitAnd (.bin .BitXor (.bin .BitXor (.bin .RShift (.v 17) (.v 13)) (.bin .RShift (.v 17) (.v 14))) (.bin .RShift (.ix (.v 4) (.bin .Sub (.v
    5) (.ci 2))) (.v 15))) (.v 2)))) (.seq (.mut .lappend 4 [] (.cons (.bin .BitAnd (.bin .Add (.bin .Add (.v 18) (.ix (.v 4) (.bin .Sub (.v 5) (.ci
    7)))) (.ix (.v 4) (.bin .Sub (.v 5) (.ci 16)))) (.v 2)) .nil)) .pass)))))) (.seq (.ret false [4] (.v 4)) .pass)))))))))
def f14 : FD := ⟨"schedule", "schedule", top 24, ["kind", "block", "mask", "step", "words", "at", "bits", "size", "rounds", "_", "far_one", "far_two",
    "far_three", "near_one", "near_two", "near_three", "far", "near", "word"], ["kind", "block"], 2, [], false, t14, none⟩
def t15 : T := (.seq (.asg 4 [] false (.call 6 (.cons (.v 0) .nil))) (.seq (.asg 5 [] false (.bin .Sub (.bin .LShift (.ci 1) (.v 4)) (.ci 1))) (.seq
    (.unp [7, 8, 9] [] (.ix (.g 1) (.tup (.cons (.v 0) (.cons (.cs [115, 117, 109, 95, 111, 110, 101]) .nil))))) (.seq (.unp [10, 11, 12] [] (.ix (.g
    1) (.tup (.cons (.v 0) (.cons (.cs [115, 117, 109, 95, 122, 101, 114, 111]) .nil))))) (.seq (.unp [13, 14, 15, 16, 17, 18, 19, 20] [] (.v 2))
    (.seq (.for_ [] [21, 22] true (.zip (.v 1) (.v 3)) (.seq (.asg 23 [] false (.bin .BitOr (.v 17) (.bin .LShift (.v 17) (.v 4)))) (.seq (.asg 24 []
    false (.bin .Add (.bin .Add (.bin .Add (.bin .Add (.v 20) (.bin .BitAnd (.bin .BitXor (.bin .BitXor (.bin .RShift (.v 23) (.v 7)) (.bin .RShift
    (.v 23) (.v 8))) (.bin .RShift (.v 23) (.v 9))) (.v 5))) (.bin .BitXor (.bin .BitAnd (.bin .BitXor (.v 18) (.v 19)) (.v 17)) (.v 19))) (.v 21))
    (.v 22))) (.seq (.asg 23 [] false (.bin .BitOr (.v 13) (.bin .LShift (.v 13) (.v 4)))) (.seq (.asg 25 [] false (.bin .Add (.bin .BitAnd (.bin
    .BitXor (.bin .BitXor (.bin .RShift (.v 23) (.v 10)) (.bin .RShift (.v 23) (.v 11))) (.bin .RShift (.v 23) (.v 12))) (.v 5)) (.bin .BitXor (.bin
    .BitXor (.bin .BitAnd (.v 13) (.v 14)) (.bin .BitAnd (.v 13) (.v 15))) (.bin .BitAnd (.v 14) (.v 15))))) (.seq (.par [20, 19, 18, 17, 16, 15, 14]
    [] (.cons (.v 19) (.cons (.v 18) (.cons (.v 17) (.cons (.bin .BitAnd (.bin .Add (.v 16) (.v 24)) (.v 5)) (.cons (.v 15) (.cons (.v 14) (.cons (.v
    13) .nil)))))))) (.seq (.asg 13 [] false (.bin .BitAnd (.bin .Add (.v 24) (.v 25)) (.v 5))) .pass))))))) (.seq (.asg 6 [] false (.lst (.cons (.v
    13) (.cons (.v 14) (.cons (.v 15) (.cons (.v 16) (.cons (.v 17) (.cons (.v 18) (.cons (.v 19) (.cons (.v 20) .nil)))))))))) (.seq (.ret false []
    (.lc [26, 27] [26, 27] true (.zip (.v 2) (.v 6)) .no (.bin .BitAnd (.bin .Add (.v 26) (.v 27)) (.v 5)))) .pass))))))))
def f15 : FD := ⟨"compress_with", "compress_with", top 25, ["kind", "constants", "words", "inputs", "bits", "mask", "mixed", "one", "two", "three",
    "four", "five", "six", "a", "b", "c", "d", "e", "f", "g", "h", "constant", "added", "wide", "first", "second", "old", "new"], ["kind",
    "constants", "words", "inputs"], 4, [], false, t15, none⟩
def t16 : T := (.seq (.ex [] (.call 5 (.cons (.v 0) .nil))) (.seq (.iff [] (.or (.cmp .Lt (.v 1) (.ci 0)) (.cmp .Gt (.v 1) (.g 3))) (.seq (.rse 1)
    .pass) .pass) (.seq (.asg 2 [] false (.bin .Mod (.bin .Sub (.bin .Sub (.neg (.v 1)) (.ci 1)) (.call 8 (.cons (.v 0) .nil))) (.call 7 (.cons (.v 0)
    .nil)))) (.seq (.ret false [] (.bin .Add (.bin .Add (.lst (.cons (.ci 128) .nil)) (.bin .Mult (.lst (.cons (.ci 0) .nil)) (.v 2))) (.call 2 (.cons
    (.bin .Mult (.ci 8) (.v 1)) (.cons (.call 8 (.cons (.v 0) .nil)) .nil))))) .pass))))
def f16 : FD := ⟨"padding", "padding", top 28, ["kind", "length", "count"], ["kind", "length"], 2, [], false, t16, none⟩
def t17 : T := (.seq (.asg 2 [] true (.mk 3 (.cons (.v 0) .nil))) (.seq (.exM [] (.mcall 1 2 (.cons (.v 1) .nil))) (.seq (.retM [] (.mcall 2 2 .nil))
    .pass)))
def f17 : FD := ⟨"digest", "digest", top 30, ["kind", "data", "digester"], ["kind", "data"], 2, [], false, t17, none⟩
def t18 : T := (.seq (.asg 2 [] true (.mk 3 (.cons (.v 0) .nil))) (.seq (.exM [] (.mcall 1 2 (.cons (.v 1) .nil))) (.seq (.retM [] (.mcall 2 2 .nil))
    .pass)))
def f18 : FD := ⟨"digest", "digest_digest", top 30, ["kind", "data", "digester"], ["kind", "data"], 2, [], false, t18, none⟩
def t19 : T := (.seq (.asg 1 [] true (.lst .nil)) (.seq (.for_ [] [2] false (.itr (.v 0)) (.seq (.mut .lextend 1 [] (.cons (.call 2 (.cons (.bi .len
    (.cons (.v 2) .nil)) (.cons (.ci 3) .nil))) .nil)) (.seq (.mut .lextend 1 [] (.cons (.v 2) .nil)) .pass))) (.seq (.ret false [1] (.v 1)) .pass)))
def f19 : FD := ⟨"pack", "pack", top 35, ["parts", "data", "part"], ["parts"], 1, [], false, t19, none⟩
def t20 : T := (.seq (.iff [] (.isi (.v 0) .str) (.seq (.ret false [] (.call 4 (.cons (.v 0) .nil))) .pass) .pass) (.seq (.ret false [] (.bi .list
    (.cons (.v 0) .nil))) .pass))
def f20 : FD := ⟨"part_bytes", "part_bytes", top 36, ["part"], ["part"], 1, [], false, t20, none⟩
def t21 : T := (.seq (.ret false [] (.meth 5 (.mk 4 .nil) (.cons (.call 19 (.cons (.lc [2] [2] false (.itr (.lst (.cons (.cs [99, 117, 114, 118, 101,
    115, 101, 97, 108, 32, 100, 101, 115, 107]) (.cons (.v 0) (.itr (.v 1)))))) .no (.call 4 (.cons (.v 2) .nil))) .nil)) .nil))) .pass)
def f21 : FD := ⟨"first_head", "first_head", top 37, ["name", "roots", "text"], ["name", "roots"], 2, [], false, t21, none⟩
def t22 : T := (.seq (.unp [3, 4, 5, 6] [] (.v 1)) (.seq (.iff [] (.cmp .Eq (.v 3) (.cs [114, 101, 112, 108, 97, 99, 101])) (.seq (.asg 5 [] false
    (.sl (.v 5) .no (.ci 1))) .pass) .pass) (.seq (.asg 2 [] false (.lc [7] [7] false (.itr (.v 5)) .no (.call 20 (.cons (.v 7) .nil)))) (.seq (.ret
    false [] (.call 19 (.cons (.lst (.cons (.call 4 (.cons (.cs [99, 117, 114, 118, 101, 115, 101, 97, 108, 32, 101, 110, 116, 114, 121]) .nil))
    (.cons (.bi .list (.cons (.v 0) .nil)) (.cons (.call 4 (.cons (.v 3) .nil)) (.cons (.call 4 (.cons (.v 4) .nil)) (.itr (.v 2))))))) .nil)))
    .pass))))
def f22 : FD := ⟨"signed_bytes", "signed_bytes", top 38, ["head", "entry", "parts", "kind", "author", "body", "_", "part"], ["head", "entry"], 2, [],
    false, t22, none⟩
def t23 : T := (.seq (.ret false [] (.call 19 (.cons (.lst (.cons (.call 4 (.cons (.cs [99, 117, 114, 118, 101, 115, 101, 97, 108, 32, 99, 111, 110,
    115, 101, 110, 116]) .nil)) (.cons (.bi .list (.cons (.v 0) .nil)) (.cons (.call 4 (.cons (.v 1) .nil)) (.cons (.call 4 (.cons (.v 2) .nil))
    .nil))))) .nil))) .pass)
def f23 : FD := ⟨"consent_bytes", "consent_bytes", top 39, ["head", "author", "key"], ["head", "author", "key"], 3, [], false, t23, none⟩
def t24 : T := (.seq (.asg 2 [] false (.lst .nil)) (.seq (.iff [] (.cmp .Eq (.ix (.v 1) (.ci 0)) (.cs [114, 101, 112, 108, 97, 99, 101])) (.seq (.asg
    2 [] false (.bi .list (.cons (.ix (.ix (.v 1) (.ci 2)) (.ci 1)) .nil))) .pass) .pass) (.seq (.ret false [] (.meth 5 (.mk 4 .nil) (.cons (.call 19
    (.cons (.lst (.cons (.call 4 (.cons (.cs [99, 117, 114, 118, 101, 115, 101, 97, 108, 32, 104, 101, 97, 100]) .nil)) (.cons (.call 22 (.cons (.v 0)
    (.cons (.v 1) .nil))) (.cons (.v 2) (.cons (.bi .list (.cons (.ix (.v 1) (.ci 3)) .nil)) .nil))))) .nil)) .nil))) .pass)))
def f24 : FD := ⟨"next_head", "next_head", top 40, ["head", "entry", "consent"], ["head", "entry"], 2, [], false, t24, none⟩
def t25 : T := (.seq (.iff [] (.cmp .Lt (.v 1) (.bi .len (.cons (.v 0) .nil))) (.seq (.ret false [] (.bi .int (.cons (.ix (.v 0) (.v 1)) .nil)))
    .pass) .pass) (.seq (.ret false [] (.ci 0)) .pass))
def f25 : FD := ⟨"_law_cell", "_law_cell", top 42, ["_law_script", "_law_k"], ["_law_script", "_law_k"], 2, [], false, t25, none⟩
def t26 : T := (.seq (.asg 2 [] false (.bin .Mod (.bin .Add (.bin .Add (.bin .Mult (.bi .int (.cons (.v 0) .nil)) (.ci 48271)) (.bin .Mult (.v 1) (.ci
    69621))) (.ci 7)) (.ci 2147483647))) (.seq (.asg 2 [] false (.bin .Mod (.bin .Add (.bin .Add (.bin .Mult (.v 2) (.v 2)) (.bin .Mult (.v 1) (.ci
    40692))) (.ci 3)) (.ci 2147483629))) (.seq (.asg 2 [] false (.bin .Mod (.bin .Add (.bin .Add (.bin .Mult (.v 2) (.v 2)) (.bin .Mult (.v 1) (.ci
    30269))) (.ci 5)) (.ci 2147483587))) (.seq (.ret false [] (.bin .FloorDiv (.v 2) (.ci 64))) .pass))))
def f26 : FD := ⟨"_law_twice", "_law_twice", top 43, ["_law_cell_here", "_law_k", "_law_x"], ["_law_cell_here", "_law_k"], 2, [], false, t26, none⟩
def t27 : T := (.seq (.asg 2 [] false (.bi .abs (.cons (.bi .int (.cons (.v 0) .nil)) .nil))) (.seq (.asg 3 [] false (.cmp .GtE (.v 2) (.bin .Pow (.ci
    10) (.ci 18)))) (.seq (.asg 4 [] true (.lst .nil)) (.seq (.for_ [] [5] false (.rng1 (.v 1)) (.seq (.iff [] (.and (.v 3) (.cmp .Gt (.v 2) (.ci 0)))
    (.seq (.mut .lappend 4 [] (.cons (.bin .Mod (.v 2) (.ci 256)) .nil)) (.seq (.asg 2 [] false (.bin .FloorDiv (.v 2) (.ci 256))) .pass)) (.seq (.mut
    .lappend 4 [] (.cons (.bin .Mod (.call 26 (.cons (.v 0) (.cons (.v 5) .nil))) (.ci 256)) .nil)) .pass)) .pass)) (.seq (.ret false [4] (.v 4))
    .pass)))))
def f27 : FD := ⟨"_law_bytes", "_law_bytes", top 44, ["_law_cell_here", "_law_size", "_law_left", "_law_great", "_law_data", "_law_k"],
    ["_law_cell_here", "_law_size"], 2, [], false, t27, none⟩
def t28 : T := (.seq (.ret false [] (.and (.isi (.v 0) .int) (.not (.isi (.v 0) .bool)))) .pass)
def f28 : FD := ⟨"_law_integer", "_law_integer", top 45, ["_law_x"], ["_law_x"], 1, [], false, t28, none⟩
def t29 : T := (.seq (.iff [] (.or (.not (.isi (.v 0) .list)) (.cmp .NotEq (.bi .len (.cons (.v 0) .nil)) (.bi .len (.cons (.v 1) .nil)))) (.seq (.ret
    false [] (.cb false)) .pass) .pass) (.seq (.for_ [] [2, 3] true (.zip (.v 0) (.v 1)) (.seq (.iff [] (.or (.not (.call 28 (.cons (.v 2) .nil)))
    (.cmp .NotEq (.v 2) (.v 3))) (.seq (.ret false [] (.cb false)) .pass) .pass) .pass)) (.seq (.ret false [] (.cb true)) .pass)))
def f29 : FD := ⟨"_law_is_list", "_law_is_list", top 46, ["_law_found", "_law_due", "_law_one", "_law_other"], ["_law_found", "_law_due"], 2, [],
    false, t29, none⟩
def t30 : T := (.seq (.ret false [] (.lc [1] [1] false (.itr (.v 0)) .no (.bi .ord (.cons (.v 1) .nil)))) .pass)
def f30 : FD := ⟨"_law_codes", "_law_codes", top 47, ["_law_text_here", "_law_sign"], ["_law_text_here"], 1, [], false, t30, none⟩
def t31 : T := (.seq (.asg 1 [] false (.lst .nil)) (.seq (.for_ [] [2] false (.itr (.v 0)) (.seq (.asg 1 [] false (.bin .Add (.bin .Add (.v 1) (.lst
    (.cons (.bin .FloorDiv (.bi .len (.cons (.v 2) .nil)) (.ci 65536)) (.cons (.bin .Mod (.bin .FloorDiv (.bi .len (.cons (.v 2) .nil)) (.ci 256))
    (.ci 256)) (.cons (.bin .Mod (.bi .len (.cons (.v 2) .nil)) (.ci 256)) .nil))))) (.v 2))) .pass)) (.seq (.ret false [] (.v 1)) .pass)))
def f31 : FD := ⟨"_law_pack", "_law_pack", top 48, ["_law_parts", "_law_data", "_law_part"], ["_law_parts"], 1, [], false, t31, none⟩
def t32 : T := (.seq (.asg 1 [] false (.cs [97, 98, 99, 100, 101, 102, 103, 104, 105, 106, 107, 108, 109, 110, 111, 112, 113, 114, 115, 116, 117, 118,
    119, 120, 121, 122, 48, 49, 50, 51, 52, 53, 54, 55, 56, 57, 58, 45, 32])) (.seq (.asg 2 [] false (.bin .FloorDiv (.v 0) (.ci 40))) (.seq (.asg 3
    [] false (.cs [])) (.seq (.for_ [] [4] false (.rng1 (.bin .Mod (.v 0) (.ci 40))) (.seq (.asg 3 [] false (.bin .Add (.v 3) (.ix (.v 1) (.bin .Mod
    (.v 2) (.ci 39))))) (.seq (.asg 2 [] false (.bin .Add (.bin .FloorDiv (.v 2) (.ci 39)) (.bin .Mult (.ci 7) (.v 4)))) .pass))) (.seq (.ret false []
    (.v 3)) .pass)))))
def f32 : FD := ⟨"_law_text", "_law_text", top 49, ["_law_cell_here", "_law_signs", "_law_left", "_law_text_here", "_law_turn"], ["_law_cell_here"],
    1, [], false, t32, none⟩
def t33 : T := (.seq (.asg 3 [] false (.bi .abs (.cons (.call 25 (.cons (.v 0) (.cons (.v 2) .nil))) .nil))) (.seq (.asg 4 [] false (.bi .tuple (.cons
    (.call 27 (.cons (.bin .FloorDiv (.v 3) (.ci 60)) (.cons (.bin .Mod (.v 3) (.ci 60)) .nil))) .nil))) (.seq (.asg 5 [] false (.call 32 (.cons (.bi
    .abs (.cons (.call 25 (.cons (.v 0) (.cons (.bin .Add (.v 2) (.ci 1)) .nil))) .nil)) .nil))) (.seq (.asg 6 [] false (.ix (.lst (.cons (.cs [])
    (.cons (.cs [97]) (.cons (.cs [115]) (.cons (.cs [119]) (.cons (.cs [97, 115]) (.cons (.cs [97, 119]) (.cons (.cs [115, 119]) (.cons (.cs [97,
    115, 119]) .nil))))))))) (.bin .Mod (.v 3) (.ci 8)))) (.seq (.asg 7 [] false (.ix (.lst (.cons (.tup (.cons (.v 4) .nil)) (.cons (.tup (.cons (.v
    5) (.cons (.v 6) .nil))) (.cons (.tup (.cons (.v 5) (.cons (.v 4) .nil))) (.cons (.tup (.cons (.v 5) .nil)) .nil))))) (.v 1))) (.seq (.asg 8 []
    false (.call 32 (.cons (.bi .abs (.cons (.call 25 (.cons (.v 0) (.cons (.bin .Add (.v 2) (.ci 2)) .nil))) .nil)) .nil))) (.seq (.asg 9 [] false
    (.bi .tuple (.cons (.call 27 (.cons (.call 25 (.cons (.v 0) (.cons (.bin .Add (.v 2) (.ci 3)) .nil))) (.cons (.bin .Mod (.bi .abs (.cons (.call 25
    (.cons (.v 0) (.cons (.bin .Add (.v 2) (.ci 3)) .nil))) .nil)) (.ci 50)) .nil))) .nil))) (.seq (.ret false [] (.tup (.cons (.ix (.lst (.cons (.cs
    [115, 116, 97, 116, 101]) (.cons (.cs [97, 100, 109, 105, 116]) (.cons (.cs [114, 101, 112, 108, 97, 99, 101]) (.cons (.cs [119, 105, 116, 104,
    100, 114, 97, 119]) .nil))))) (.v 1)) (.cons (.v 8) (.cons (.v 7) (.cons (.v 9) .nil)))))) .pass))))))))
def f33 : FD := ⟨"_law_entry", "_law_entry", top 50, ["_law_script", "_law_kind", "_law_at", "_law_cell_here", "_law_data", "_law_text_here",
    "_law_rights", "_law_body", "_law_author", "_law_signature"], ["_law_script", "_law_kind", "_law_at"], 3, [], false, t33, none⟩
def t34 : T := (.seq (.asg 2 [] true (.lst .nil)) (.seq (.for_ [] [3] false (.itr (.ix (.v 1) (.ci 2))) (.seq (.iff [] (.isi (.v 3) .str) (.seq (.mut
    .lappend 2 [] (.cons (.call 30 (.cons (.v 3) .nil)) .nil)) .pass) (.seq (.mut .lappend 2 [] (.cons (.bi .list (.cons (.v 3) .nil)) .nil)) .pass))
    .pass)) (.seq (.iff [] (.cmp .Eq (.ix (.v 1) (.ci 0)) (.cs [114, 101, 112, 108, 97, 99, 101])) (.seq (.asg 2 [] true (.sl (.v 2) .no (.ci 1)))
    .pass) .pass) (.seq (.ret false [] (.call 31 (.cons (.bin .Add (.lst (.cons (.call 30 (.cons (.cs [99, 117, 114, 118, 101, 115, 101, 97, 108, 32,
    101, 110, 116, 114, 121]) .nil)) (.cons (.v 0) (.cons (.call 30 (.cons (.ix (.v 1) (.ci 0)) .nil)) (.cons (.call 30 (.cons (.ix (.v 1) (.ci 1))
    .nil)) .nil))))) (.v 2)) .nil))) .pass))))
def f34 : FD := ⟨"_law_signed", "_law_signed", top 51, ["_law_head", "_law_entry_here", "_law_parts", "_law_part"], ["_law_head", "_law_entry_here"],
    2, [], false, t34, none⟩
def t35 : T := (.seq (.asg 2 [] false (.lst .nil)) (.seq (.iff [] (.cmp .Eq (.ix (.v 1) (.ci 0)) (.cs [114, 101, 112, 108, 97, 99, 101])) (.seq (.asg
    2 [] false (.bi .list (.cons (.ix (.ix (.v 1) (.ci 2)) (.ci 1)) .nil))) .pass) .pass) (.seq (.ret false [] (.call 31 (.cons (.lst (.cons (.call 30
    (.cons (.cs [99, 117, 114, 118, 101, 115, 101, 97, 108, 32, 104, 101, 97, 100]) .nil)) (.cons (.call 34 (.cons (.v 0) (.cons (.v 1) .nil))) (.cons
    (.v 2) (.cons (.bi .list (.cons (.ix (.v 1) (.ci 3)) .nil)) .nil))))) .nil))) .pass)))
def f35 : FD := ⟨"_law_next", "_law_next", top 52, ["_law_head", "_law_entry_here", "_law_consent"], ["_law_head", "_law_entry_here"], 2, [], false,
    t35, none⟩
def t36 : T := (.seq (.unp [3, 4, 5, 6] [] (.v 0)) (.seq (.asg 2 [] false (.bin .Mod (.v 1) (.ci 3))) (.seq (.iff [] (.cmp .Eq (.v 2) (.ci 0)) (.seq
    (.ret false [] (.tup (.cons (.v 3) (.cons (.bin .Add (.v 4) (.cs [120])) (.cons (.v 5) (.cons (.v 6) .nil)))))) .pass) .pass) (.seq (.iff [] (.and
    (.cmp .Eq (.v 2) (.ci 1)) (.cmp .In (.v 3) (.tup (.cons (.cs [115, 116, 97, 116, 101]) (.cons (.cs [119, 105, 116, 104, 100, 114, 97, 119])
    .nil))))) (.seq (.ret false [] (.tup (.cons (.ix (.lst (.cons (.cs [119, 105, 116, 104, 100, 114, 97, 119]) (.cons (.cs [115, 116, 97, 116, 101])
    .nil))) (.bi .int (.cons (.cmp .Eq (.v 3) (.cs [119, 105, 116, 104, 100, 114, 97, 119])) .nil))) (.cons (.v 4) (.cons (.ix (.lst (.cons (.tup
    (.cons (.cs [97]) .nil)) (.cons (.tup (.cons (.tup (.cons (.ci 7) .nil)) .nil)) .nil))) (.bi .int (.cons (.cmp .Eq (.v 3) (.cs [119, 105, 116,
    104, 100, 114, 97, 119])) .nil))) (.cons (.v 6) .nil)))))) .pass) .pass) (.seq (.iff [] (.cmp .Eq (.v 3) (.cs [115, 116, 97, 116, 101])) (.seq
    (.ret false [] (.tup (.cons (.v 3) (.cons (.v 4) (.cons (.tup (.cons (.bin .Add (.ix (.v 5) (.ci 0)) (.tup (.cons (.bin .Mod (.v 1) (.ci 256))
    .nil))) .nil)) (.cons (.v 6) .nil)))))) .pass) .pass) (.seq (.ret false [] (.tup (.cons (.v 3) (.cons (.v 4) (.cons (.bin .Add (.tup (.cons (.bin
    .Add (.ix (.v 5) (.ci 0)) (.cs [122])) .nil)) (.sl (.v 5) (.ci 1) .no)) (.cons (.v 6) .nil)))))) .pass))))))
def f36 : FD := ⟨"_law_changed", "_law_changed", top 53, ["_law_entry_here", "_law_cell_here", "_law_how", "_law_kind", "_law_author", "_law_body",
    "_law_signature"], ["_law_entry_here", "_law_cell_here"], 2, [], false, t36, none⟩
def t37 : T := (.seq (.asg 1 [] false (.mk 4 .nil)) (.seq (.asg 2 [] false (.rpl [100] [(45, 99), (58, 98), (32, 97)] (.call 32 (.cons (.bin .Mod (.bi
    .abs (.cons (.call 25 (.cons (.v 0) (.cons (.ci 0) .nil))) .nil)) (.ci 9)) .nil)))) (.seq (.asg 3 [] false (.lc [12] [12] false (.rng1 (.bin .Add
    (.ci 1) (.bin .Mod (.call 25 (.cons (.v 0) (.cons (.ci 4) .nil))) (.ci 3)))) .no (.bin .Add (.bin .Add (.cs [114]) (.call 32 (.cons (.bi .abs
    (.cons (.call 25 (.cons (.v 0) (.cons (.bin .Add (.ci 1) (.v 12)) .nil))) .nil)) .nil))) (.bi .str (.cons (.v 12) .nil))))) (.seq (.asg 4 [] false
    (.bi .list (.cons (.v 3) .nil))) (.seq (.asg 5 [] false (.meth 5 (.v 1) (.cons (.call 31 (.cons (.lc [13] [13] false (.itr (.bin .Add (.lst (.cons
    (.cs [99, 117, 114, 118, 101, 115, 101, 97, 108, 32, 100, 101, 115, 107]) (.cons (.v 2) .nil))) (.v 3))) .no (.call 30 (.cons (.v 13) .nil)))
    .nil)) .nil))) (.seq (.iff [] (.or (.not (.call 29 (.cons (.call 21 (.cons (.v 2) (.cons (.v 4) .nil))) (.cons (.v 5) .nil)))) (.cmp .NotEq (.v 4)
    (.v 3))) (.seq (.ret false [] (.cb false)) .pass) .pass) (.seq (.asg 6 [] false (.call 27 (.cons (.call 25 (.cons (.v 0) (.cons (.ci 5) .nil)))
    (.cons (.ci 32) .nil)))) (.seq (.for_ [] [7] false (.rng1 (.ci 4)) (.seq (.asg 8 [] false (.call 33 (.cons (.v 0) (.cons (.v 7) (.cons (.bin .Add
    (.ci 6) (.bin .Mult (.ci 4) (.v 7))) .nil))))) (.seq (.asg 9 [] false (.bi .list (.cons (.v 6) .nil))) (.seq (.asg 10 [] false (.call 22 (.cons
    (.v 9) (.cons (.v 8) .nil)))) (.seq (.iff [] (.or (.not (.call 29 (.cons (.v 10) (.cons (.call 34 (.cons (.v 6) (.cons (.v 8) .nil))) .nil))))
    (.cmp .NotEq (.v 9) (.v 6))) (.seq (.ret false [] (.cb false)) .pass) .pass) (.seq (.iff [] (.cmp .NotEq (.call 22 (.cons (.v 9) (.cons (.bin .Add
    (.sl (.v 8) .no (.ci 3)) (.tup (.cons (.tup (.cons (.ci 1) (.cons (.ci 2) .nil))) .nil))) .nil))) (.v 10)) (.seq (.ret false [] (.cb false))
    .pass) .pass) (.seq (.iff [] (.and (.cmp .Eq (.v 7) (.ci 2)) (.cmp .NotEq (.call 22 (.cons (.v 9) (.cons (.bin .Add (.sl (.v 8) .no (.ci 2)) (.tup
    (.cons (.tup (.cons (.ix (.ix (.v 8) (.ci 2)) (.ci 0)) (.cons (.tup (.cons (.ci 9) .nil)) .nil))) (.cons (.ix (.v 8) (.ci 3)) .nil)))) .nil))) (.v
    10))) (.seq (.ret false [] (.cb false)) .pass) .pass) (.seq (.iff [] (.cmp .Eq (.call 22 (.cons (.v 9) (.cons (.call 36 (.cons (.v 8) (.cons (.bi
    .abs (.cons (.call 25 (.cons (.v 0) (.cons (.bin .Add (.ci 22) (.v 7)) .nil))) .nil)) .nil))) .nil))) (.v 10)) (.seq (.ret false [] (.cb false))
    .pass) .pass) (.seq (.iff [] (.or (.not (.call 29 (.cons (.call 24 (.cons (.v 9) (.cons (.v 8) .nil))) (.cons (.meth 5 (.v 1) (.cons (.call 35
    (.cons (.v 6) (.cons (.v 8) .nil))) .nil)) .nil)))) (.cmp .NotEq (.v 9) (.v 6))) (.seq (.ret false [] (.cb false)) .pass) .pass) (.seq (.asg 11 []
    false (.call 32 (.cons (.bi .abs (.cons (.call 25 (.cons (.v 0) (.cons (.ci 26) .nil))) .nil)) .nil))) (.seq (.asg 5 [] false (.call 31 (.cons
    (.lst (.cons (.call 30 (.cons (.cs [99, 117, 114, 118, 101, 115, 101, 97, 108, 32, 99, 111, 110, 115, 101, 110, 116]) .nil)) (.cons (.v 6) (.cons
    (.call 30 (.cons (.ix (.v 8) (.ci 1)) .nil)) (.cons (.call 30 (.cons (.v 11) .nil)) .nil))))) .nil))) (.seq (.iff [] (.not (.call 29 (.cons (.call
    23 (.cons (.v 9) (.cons (.ix (.v 8) (.ci 1)) (.cons (.v 11) .nil)))) (.cons (.v 5) .nil)))) (.seq (.ret false [] (.cb false)) .pass) .pass)
    .pass)))))))))))) (.seq (.ret false [] (.cb true)) .pass)))))))))
def f37 : FD := ⟨"law", "law", top 54, ["_law_script", "_law_hasher", "_law_name", "_law_roots", "_law_given", "_law_due", "_law_head", "_law_kind",
    "_law_entry_here", "_law_passed", "_law_found", "_law_key", "_law_k", "_law_text_here"], ["_law_script"], 1, [], false, t37, none⟩
def t38 : T := (.seq (.sfld 0 0 [] (.v 1)) (.seq (.sfld 0 1 [] (.call 13 (.cons (.v 1) .nil))) (.seq (.sfld 0 2 [] (.lst .nil)) (.seq (.sfld 0 3 []
    (.ci 0)) (.seq (.sfld 0 4 [] (.lst .nil)) .pass)))))
def f38 : FD := ⟨"__init__", "__init__", cst 29 0, ["self", "kind"], ["self", "kind"], 2, [], false, t38, some (3, true)⟩
def t39 : T := (.seq (.iff [] (.cmp .Eq (.fld 4 (.v 0)) (.lst .nil)) (.seq (.sfld 0 4 [] (.call 12 (.cons (.fld 0 (.v 0)) .nil))) .pass) .pass) .pass)
def f39 : FD := ⟨"make_ready", "make_ready", cst 29 1, ["self"], ["self"], 1, [], false, t39, some (3, true)⟩
def t40 : T := (.seq (.iff [] (.cmp .Gt (.bin .Add (.fld 3 (.v 0)) (.bi .len (.cons (.v 1) .nil))) (.g 3)) (.seq (.rse 1) .pass) .pass) (.seq (.afld 0
    3 .Add [] (.bi .len (.cons (.v 1) .nil))) (.seq (.asg 2 [] false (.call 7 (.cons (.fld 0 (.v 0)) .nil))) (.seq (.asg 3 [] false (.bin .Add (.fld 2
    (.v 0)) (.bi .list (.cons (.v 1) .nil)))) (.seq (.asg 4 [] false (.bin .Mult (.bin .FloorDiv (.bi .len (.cons (.v 3) .nil)) (.v 2)) (.v 2))) (.seq
    (.iff [] (.cmp .Gt (.v 4) (.ci 0)) (.seq (.exM [] (.mcall 0 0 .nil)) .pass) .pass) (.seq (.for_ [] [5] false (.rng3 (.ci 0) (.v 4) (.v 2)) (.seq
    (.asg 6 [] false (.call 14 (.cons (.fld 0 (.v 0)) (.cons (.sl (.v 3) (.v 5) (.bin .Add (.v 5) (.v 2))) .nil)))) (.seq (.sfld 0 1 [] (.call 15
    (.cons (.fld 0 (.v 0)) (.cons (.fld 4 (.v 0)) (.cons (.fld 1 (.v 0)) (.cons (.v 6) .nil)))))) .pass))) (.seq (.sfld 0 2 [] (.sl (.v 3) (.v 4)
    .no)) .pass))))))))
def f40 : FD := ⟨"add", "add", cst 29 2, ["self", "data", "size", "waiting", "whole", "at", "inputs"], ["self", "data"], 2, [], false, t40, some (3,
    true)⟩
def t41 : T := (.seq (.asg 1 [] false (.call 7 (.cons (.fld 0 (.v 0)) .nil))) (.seq (.asg 2 [] false (.fld 1 (.v 0))) (.seq (.asg 3 [] false (.bin
    .Add (.fld 2 (.v 0)) (.call 16 (.cons (.fld 0 (.v 0)) (.cons (.fld 3 (.v 0)) .nil))))) (.seq (.exM [] (.mcall 0 0 .nil)) (.seq (.for_ [] [4] false
    (.rng3 (.ci 0) (.bi .len (.cons (.v 3) .nil)) (.v 1)) (.seq (.asg 7 [] false (.call 14 (.cons (.fld 0 (.v 0)) (.cons (.sl (.v 3) (.v 4) (.bin .Add
    (.v 4) (.v 1))) .nil)))) (.seq (.asg 2 [] false (.call 15 (.cons (.fld 0 (.v 0)) (.cons (.fld 4 (.v 0)) (.cons (.v 2) (.cons (.v 7) .nil))))))
    .pass))) (.seq (.asg 5 [] true (.lst .nil)) (.seq (.for_ [] [6] false (.itr (.v 2)) (.seq (.mut .lextend 5 [] (.cons (.call 2 (.cons (.v 6) (.cons
    (.bin .FloorDiv (.call 6 (.cons (.fld 0 (.v 0)) .nil)) (.ci 8)) .nil))) .nil)) .pass)) (.seq (.ret false [5] (.v 5)) .pass))))))))
def f41 : FD := ⟨"told", "told", cst 29 3, ["self", "size", "words", "last", "at", "data", "word", "inputs"], ["self"], 1, [], false, t41, some (3,
    true)⟩
def t42 : T := (.seq (.ret false [] (.fld 3 (.v 0))) .pass)
def f42 : FD := ⟨"length", "length", cst 29 4, ["self"], ["self"], 1, [], false, t42, some (3, true)⟩
def t43 : T := (.seq (.ex [] (.call 0 (.cons (.ci 0) .nil))) .pass)
def f43 : FD := ⟨"twin", "twin", cst 29 5, ["self"], ["self"], 1, [], true, t43, some (3, true)⟩
def t44 : T := (.seq (.sfld 0 5 [] (.cs [115, 104, 97, 50, 53, 54])) (.seq (.sfld 0 6 [] (.call 9 (.cons (.cs [115, 104, 97, 50, 53, 54]) .nil)))
    (.seq (.sfld 0 7 [] (.call 7 (.cons (.cs [115, 104, 97, 50, 53, 54]) .nil))) .pass)))
def f44 : FD := ⟨"__init__", "__init__", cst 33 0, ["self"], ["self"], 1, [], false, t44, some (4, true)⟩
def t45 : T := (.seq (.ret false [] (.call 18 (.cons (.cs [115, 104, 97, 50, 53, 54]) (.cons (.v 1) .nil)))) .pass)
def f45 : FD := ⟨"digest", "digest", cst 33 1, ["self", "data"], ["self", "data"], 2, [], false, t45, some (4, false)⟩
def t46 : T := (.seq (.ex [] (.call 0 (.cons (.ci 1) .nil))) .pass)
def f46 : FD := ⟨"digest_parts", "digest_parts", cst 33 2, ["self", "parts"], ["self", "parts"], 2, [], false, t46, some (4, false)⟩
def t47 : T := (.seq (.ex [] (.call 0 (.cons (.ci 2) .nil))) .pass)
def f47 : FD := ⟨"keyed", "keyed", cst 33 3, ["self", "key", "data"], ["self", "key", "data"], 3, [], false, t47, some (4, false)⟩
def t48 : T := (.seq (.ex [] (.call 0 (.cons (.ci 3) .nil))) .pass)
def f48 : FD := ⟨"keyed_parts", "keyed_parts", cst 33 4, ["self", "key", "parts"], ["self", "key", "parts"], 3, [], false, t48, some (4, false)⟩
def t49 : T := (.seq (.ret false [] (.mk 3 (.cons (.cs [115, 104, 97, 50, 53, 54]) .nil))) .pass)
def f49 : FD := ⟨"pieces", "pieces", cst 33 5, ["self"], ["self"], 1, [], false, t49, some (4, false)⟩
def su (k t : Nat) : Bool := match k with
  | 0 => decide (t ∈ ([0, 1000] : List Nat))
  | 1 => decide (t ∈ ([1, 0, 1000] : List Nat))
  | 2 => decide (t ∈ ([2, 0, 1000] : List Nat))
  | _ => false
def S : Prg := ⟨⟨["CurveError", "OutOfRange", "Malformed", "Digester", "Sha256"], ["_kind", "_words", "_rest", "_length", "_constants", "name",
    "size", "block_size"], ["make_ready", "add", "told", "length", "twin", "digest", "digest_parts", "keyed", "keyed_parts", "pieces"], ["SIZES",
    "TURNS"]⟩, [0, 1, 2], su, [f0, f1, f2, f3, f4, f5, f6, f7, f8, f9, f10, f11, f12, f13, f14, f15, f16, f17, f18, f19, f20, f21, f22, f23, f24, f25,
    f26, f27, f28, f29, f30, f31, f32, f33, f34, f35, f36, f37, f38, f39, f40, f41, f42, f43, f44, f45, f46, f47, f48, f49], [("SIZES", (.dct [[[115,
    104, 97, 50, 53, 54]], [[115, 104, 97, 53, 49, 50]]] [(.tup [(.int 32), (.int 64), (.int 64), (.int 8), (.int 32)]), (.tup [(.int 64), (.int 128),
    (.int 80), (.int 16), (.int 64)])])), ("TURNS", (.dct [[[115, 104, 97, 50, 53, 54], [115, 117, 109, 95, 122, 101, 114, 111]], [[115, 104, 97, 50,
    53, 54], [115, 117, 109, 95, 111, 110, 101]], [[115, 104, 97, 50, 53, 54], [116, 117, 114, 110, 95, 122, 101, 114, 111]], [[115, 104, 97, 50, 53,
    54], [116, 117, 114, 110, 95, 111, 110, 101]], [[115, 104, 97, 53, 49, 50], [115, 117, 109, 95, 122, 101, 114, 111]], [[115, 104, 97, 53, 49, 50],
    [115, 117, 109, 95, 111, 110, 101]], [[115, 104, 97, 53, 49, 50], [116, 117, 114, 110, 95, 122, 101, 114, 111]], [[115, 104, 97, 53, 49, 50],
    [116, 117, 114, 110, 95, 111, 110, 101]]] [(.tup [(.int 2), (.int 13), (.int 22)]), (.tup [(.int 6), (.int 11), (.int 25)]), (.tup [(.int 7),
    (.int 18), (.int 3)]), (.tup [(.int 17), (.int 19), (.int 10)]), (.tup [(.int 28), (.int 34), (.int 39)]), (.tup [(.int 14), (.int 18), (.int
    41)]), (.tup [(.int 1), (.int 8), (.int 7)]), (.tup [(.int 19), (.int 61), (.int 6)])])), ("WORDS", (.int 8)), ("MESSAGE_LIMIT", (.int 1048576))],
    [(3, 38), (4, 44)], [(3, 0), (3, 1), (3, 2), (3, 3), (3, 4), (4, 5), (4, 6), (4, 7)], [((3, 0), (39, true)), ((3, 1), (40, true)), ((3, 2), (41,
    true)), ((3, 3), (42, true)), ((3, 4), (43, true)), ((4, 5), (45, false)), ((4, 6), (46, false)), ((4, 7), (47, false)), ((4, 8), (48, false)),
    ((4, 9), (49, false))], [], true⟩
theorem b0 : BindF S.tb f0 := bindF_of rfl rfl fun _ _ _ _ _ _ us hl => match us, hl with | [_], _ => rfl
theorem b1 : BindF S.tb f1 := bindF_of rfl rfl fun _ _ _ _ _ _ us hl => match us, hl with | [_, _], _ => rfl
theorem b2 : BindF S.tb f2 := bindF_of rfl rfl fun _ _ _ _ _ _ us hl => match us, hl with | [_, _], _ => rfl
theorem b3 : BindF S.tb f3 := bindF_of rfl rfl fun _ _ _ _ _ _ us hl => match us, hl with | [_], _ => rfl
theorem b4 : BindF S.tb f4 := bindF_of rfl rfl fun _ _ _ _ _ _ us hl => match us, hl with | [_], _ => rfl
theorem b5 : BindF S.tb f5 := bindF_of rfl rfl fun _ _ _ _ _ _ us hl => match us, hl with | [_], _ => rfl
theorem b6 : BindF S.tb f6 := bindF_of rfl rfl fun _ _ _ _ _ _ us hl => match us, hl with | [_], _ => rfl
theorem b7 : BindF S.tb f7 := bindF_of rfl rfl fun _ _ _ _ _ _ us hl => match us, hl with | [_], _ => rfl
theorem b8 : BindF S.tb f8 := bindF_of rfl rfl fun _ _ _ _ _ _ us hl => match us, hl with | [_], _ => rfl
theorem b9 : BindF S.tb f9 := bindF_of rfl rfl fun _ _ _ _ _ _ us hl => match us, hl with | [_], _ => rfl
theorem b10 : BindF S.tb f10 := bindF_of rfl rfl fun _ _ _ _ _ _ us hl => match us, hl with | [_], _ => rfl
theorem b11 : BindF S.tb f11 := bindF_of rfl rfl fun _ _ _ _ _ _ us hl => match us, hl with | [_, _], _ => rfl
theorem b12 : BindF S.tb f12 := bindF_of rfl rfl fun _ _ _ _ _ _ us hl => match us, hl with | [_], _ => rfl
theorem b13 : BindF S.tb f13 := bindF_of rfl rfl fun _ _ _ _ _ _ us hl => match us, hl with | [_], _ => rfl
theorem b14 : BindF S.tb f14 := bindF_of rfl rfl fun _ _ _ _ _ _ us hl => match us, hl with | [_, _], _ => rfl
theorem b15 : BindF S.tb f15 := bindF_of rfl rfl fun _ _ _ _ _ _ us hl => match us, hl with | [_, _, _, _], _ => rfl
theorem b16 : BindF S.tb f16 := bindF_of rfl rfl fun _ _ _ _ _ _ us hl => match us, hl with | [_, _], _ => rfl
theorem b17 : BindF S.tb f17 := bindF_of rfl rfl fun _ _ _ _ _ _ us hl => match us, hl with | [_, _], _ => rfl
theorem b18 : BindF S.tb f18 := bindF_of rfl rfl fun _ _ _ _ _ _ us hl => match us, hl with | [_, _], _ => rfl
theorem b19 : BindF S.tb f19 := bindF_of rfl rfl fun _ _ _ _ _ _ us hl => match us, hl with | [_], _ => rfl
theorem b20 : BindF S.tb f20 := bindF_of rfl rfl fun _ _ _ _ _ _ us hl => match us, hl with | [_], _ => rfl
theorem b21 : BindF S.tb f21 := bindF_of rfl rfl fun _ _ _ _ _ _ us hl => match us, hl with | [_, _], _ => rfl
theorem b22 : BindF S.tb f22 := bindF_of rfl rfl fun _ _ _ _ _ _ us hl => match us, hl with | [_, _], _ => rfl
theorem b23 : BindF S.tb f23 := bindF_of rfl rfl fun _ _ _ _ _ _ us hl => match us, hl with | [_, _, _], _ => rfl
theorem b24 : BindF S.tb f24 := bindF_of rfl rfl fun _ _ _ _ _ _ us hl => match us, hl with | [_, _], _ => rfl
theorem b25 : BindF S.tb f25 := bindF_of rfl rfl fun _ _ _ _ _ _ us hl => match us, hl with | [_, _], _ => rfl
theorem b26 : BindF S.tb f26 := bindF_of rfl rfl fun _ _ _ _ _ _ us hl => match us, hl with | [_, _], _ => rfl
theorem b27 : BindF S.tb f27 := bindF_of rfl rfl fun _ _ _ _ _ _ us hl => match us, hl with | [_, _], _ => rfl
theorem b28 : BindF S.tb f28 := bindF_of rfl rfl fun _ _ _ _ _ _ us hl => match us, hl with | [_], _ => rfl
theorem b29 : BindF S.tb f29 := bindF_of rfl rfl fun _ _ _ _ _ _ us hl => match us, hl with | [_, _], _ => rfl
theorem b30 : BindF S.tb f30 := bindF_of rfl rfl fun _ _ _ _ _ _ us hl => match us, hl with | [_], _ => rfl
theorem b31 : BindF S.tb f31 := bindF_of rfl rfl fun _ _ _ _ _ _ us hl => match us, hl with | [_], _ => rfl
theorem b32 : BindF S.tb f32 := bindF_of rfl rfl fun _ _ _ _ _ _ us hl => match us, hl with | [_], _ => rfl
theorem b33 : BindF S.tb f33 := bindF_of rfl rfl fun _ _ _ _ _ _ us hl => match us, hl with | [_, _, _], _ => rfl
theorem b34 : BindF S.tb f34 := bindF_of rfl rfl fun _ _ _ _ _ _ us hl => match us, hl with | [_, _], _ => rfl
theorem b35 : BindF S.tb f35 := bindF_of rfl rfl fun _ _ _ _ _ _ us hl => match us, hl with | [_, _], _ => rfl
theorem b36 : BindF S.tb f36 := bindF_of rfl rfl fun _ _ _ _ _ _ us hl => match us, hl with | [_, _], _ => rfl
theorem b37 : BindF S.tb f37 := bindF_of rfl rfl fun _ _ _ _ _ _ us hl => match us, hl with | [_], _ => rfl
theorem b38 : BindF S.tb f38 := bindF_of rfl rfl fun _ _ _ _ _ _ us hl => match us, hl with | [_, _], _ => rfl
theorem b39 : BindF S.tb f39 := bindF_of rfl rfl fun _ _ _ _ _ _ us hl => match us, hl with | [_], _ => rfl
theorem b40 : BindF S.tb f40 := bindF_of rfl rfl fun _ _ _ _ _ _ us hl => match us, hl with | [_, _], _ => rfl
theorem b41 : BindF S.tb f41 := bindF_of rfl rfl fun _ _ _ _ _ _ us hl => match us, hl with | [_], _ => rfl
theorem b42 : BindF S.tb f42 := bindF_of rfl rfl fun _ _ _ _ _ _ us hl => match us, hl with | [_], _ => rfl
theorem b43 : BindF S.tb f43 := bindF_of rfl rfl fun _ _ _ _ _ _ us hl => match us, hl with | [_], _ => rfl
theorem b44 : BindF S.tb f44 := bindF_of rfl rfl fun _ _ _ _ _ _ us hl => match us, hl with | [_], _ => rfl
theorem b45 : BindF S.tb f45 := bindF_of rfl rfl fun _ _ _ _ _ _ us hl => match us, hl with | [_, _], _ => rfl
theorem b46 : BindF S.tb f46 := bindF_of rfl rfl fun _ _ _ _ _ _ us hl => match us, hl with | [_, _], _ => rfl
theorem b47 : BindF S.tb f47 := bindF_of rfl rfl fun _ _ _ _ _ _ us hl => match us, hl with | [_, _, _], _ => rfl
theorem b48 : BindF S.tb f48 := bindF_of rfl rfl fun _ _ _ _ _ _ us hl => match us, hl with | [_, _, _], _ => rfl
theorem b49 : BindF S.tb f49 := bindF_of rfl rfl fun _ _ _ _ _ _ us hl => match us, hl with | [_], _ => rfl
theorem bAll : BindAll S.tb S.fs := ⟨b0, b1, b2, b3, b4, b5, b6, b7, b8, b9, b10, b11, b12, b13, b14, b15, b16, b17, b18, b19, b20, b21, b22, b23, b24, b25, b26, b27, b28, b29, b30, b31, b32, b33, b34, b35, b36, b37, b38, b39, b40, b41, b42, b43, b44, b45, b46, b47, b48, b49, trivial⟩
theorem bAllK : BindsK S.tb S.fs S.kws := trivial
theorem chk : chkS S = true := by kernel_rfl
abbrev Rw : PySem.W.OpenRow := PySem.W.OpenLaw.row PySem.Challenge.rw_curveseal_k66_heads_and_signed_bytes
def nm0 : List Str := ["_wall", "CurveError", "OutOfRange", "Malformed", "to_little", "to_big", "from_big", "ascii_codes", "SIZES", "TURNS", "WORDS",
    "check_kind", "word_bits", "block_size", "length_size", "digest_size", "first_primes", "whole_cube_root", "round_constants", "start_words",
    "schedule", "compress_with", "MESSAGE_LIMIT", "padding", "Digester", "digest", "digest_digest", "Sha256", "pack", "part_bytes"]
def nm1 : List Str := ["first_head", "signed_bytes", "consent_bytes", "next_head", "_law_cell", "_law_twice", "_law_bytes", "_law_integer",
    "_law_is_list", "_law_codes", "_law_pack", "_law_text", "_law_entry", "_law_signed", "_law_next", "_law_changed"]
def loose : List Str := nm0 ++ nm1
abbrev hk : PySem.W.Hook := hookV 4 S
def ob (s : PySem.W.SharedT) : AlV := obV 4 S (HandSHeadRun.getT s)
theorem ob_eq (s : PySem.W.SharedT) : ob s = hk.obs s.abs := obV_eq (HandSHeadRun.getT_eq s)
theorem run_false (w : World) : RX.RunX Rw (PySem.W.view Rw.prog [0, 54]) hk ob 16777216 8000 12 loose (w.withFollow "special-get-raises" false) := by
  unfold RX.RunX
  kernel_rfl
theorem run_true (w : World) : RX.RunX Rw (PySem.W.view Rw.prog [0, 54]) hk ob 16777216 8000 12 loose (w.withFollow "special-get-raises" true) := by
  unfold RX.RunX
  kernel_rfl
theorem run (w : World) : RX.RunX Rw (PySem.W.view Rw.prog [0, 54]) hk ob 16777216 8000 12 loose w := PySem.W.byRow2 "special-get-raises" run_false run_true w
def lvl : Nat := 16
end Pg
set_option maxHeartbeats 0
namespace Uh
def pwr (c : Bool) (x : Nat) : Nat := if c then x * x * x else x * x
theorem pwr_mono {c : Bool} {x y : Nat} (h : x ≤ y) : pwr c x ≤ pwr c y := by
  unfold pwr
  cases c
  · exact Nat.mul_le_mul h h
  · exact Nat.mul_le_mul (Nat.mul_le_mul h h) h
structure IsRt (c : Bool) (n r : Nat) : Prop where
  lo : pwr c r ≤ n
  hi : n < pwr c (r + 1)
theorem IsRt.uniq {c : Bool} {n r s : Nat} (h : IsRt c n r) (g : IsRt c n s) : r = s := by
  have a : ¬ r < s := fun q => by have := pwr_mono (c := c) (show r + 1 ≤ s from q); have := h.hi; have := g.lo; omega
  have b : ¬ s < r := fun q => by have := pwr_mono (c := c) (show s + 1 ≤ r from q); have := h.lo; have := g.hi; omega
  omega
theorem IsRt.le {c : Bool} {n r x : Nat} (h : IsRt c n r) (hx : pwr c x ≤ n) : x ≤ r := by
  refine Decidable.byContradiction fun q => ?_
  have := pwr_mono (c := c) (show r + 1 ≤ x by omega)
  have := h.hi
  omega
def rts (c : Bool) (n : Nat) : Nat → Nat → Nat → Nat
  | 0, lo, _ => lo
  | k + 1, lo, hi => if pwr c ((lo + hi + 1) / 2) ≤ n then rts c n k ((lo + hi + 1) / 2) hi else rts c n k lo ((lo + hi + 1) / 2 - 1)
theorem rts_ok {c : Bool} {n : Nat} : ∀ {k lo hi : Nat}, pwr c lo ≤ n → n < pwr c (hi + 1) → lo ≤ hi → hi - lo < 2 ^ k → IsRt c n (rts c n k lo hi)
  | 0, lo, hi, h1, h2, h3, h4 => by
    have e : hi = lo := by simp at h4; omega
    subst e
    exact ⟨h1, h2⟩
  | k + 1, lo, hi, h1, h2, h3, h4 => by
    unfold rts
    rw [Nat.pow_succ] at h4
    split
    · exact rts_ok ‹_› h2 (by omega) (by omega)
    · rename_i q
      have hm : lo < (lo + hi + 1) / 2 := by
        refine Decidable.byContradiction fun z => ?_
        have := pwr_mono (c := c) (show (lo + hi + 1) / 2 ≤ lo by omega)
        omega
      exact rts_ok h1 (by rw [show (lo + hi + 1) / 2 - 1 + 1 = (lo + hi + 1) / 2 by omega]; omega) (by omega) (by omega)
noncomputable def rt (c : Bool) (n : Nat) : Nat := rts c n n 0 n
theorem rt_ok (c : Bool) (n : Nat) : IsRt c n (rt c n) := by
  unfold rt
  refine rts_ok (by cases c <;> simp [pwr]) ?_ (Nat.zero_le _) (by simp; exact Nat.lt_two_pow_self)
  unfold pwr
  have h : n + 1 ≤ (n + 1) * (n + 1) := Nat.le_mul_of_pos_right _ (Nat.succ_pos n)
  cases c
  · show n < (n + 1) * (n + 1)
    omega
  · show n < (n + 1) * (n + 1) * (n + 1)
    have := Nat.le_mul_of_pos_right ((n + 1) * (n + 1)) (show 0 < n + 1 by omega)
    omega
theorem cube_ineq {r x : Nat} (h : 2 * x < 3 * r) : (3 * r - 2 * x) * (x * x) ≤ r * r * r := by
  rcases Nat.le_total x r with q | q
  · obtain ⟨d, rfl⟩ := Nat.exists_eq_add_of_le q
    rw [show 3 * (x + d) - 2 * x = x + 3 * d by omega]
    have : (x + d) * (x + d) * (x + d) = (x + 3 * d) * (x * x) + (3 * x * (d * d) + d * d * d) := by grind
    omega
  · obtain ⟨d, rfl⟩ := Nat.exists_eq_add_of_le q
    obtain ⟨e, he⟩ := Nat.exists_eq_add_of_le (show 2 * d ≤ r by omega)
    subst he
    rw [show 3 * (2 * d + e) - 2 * (2 * d + e + d) = e by omega]
    have : (2 * d + e) * (2 * d + e) * (2 * d + e) = e * ((2 * d + e + d) * (2 * d + e + d)) + (8 * (d * d * d) + 3 * (d * d) * e) := by grind
    omega
theorem newt_ge {n r x : Nat} (h : IsRt true n r) (hx : 0 < x) : r ≤ (2 * x + n / (x * x)) / 3 := by
  have hxx : 0 < x * x := Nat.mul_pos hx hx
  refine Decidable.byContradiction fun q => ?_
  have q1 : 2 * x + n / (x * x) + 1 ≤ 3 * r := by
    generalize n / (x * x) = z at q
    omega
  have a := cube_ineq (Nat.lt_of_lt_of_le (Nat.lt_succ_of_le (Nat.le_add_right (2 * x) _)) q1)
  have b : n < (n / (x * x) + 1) * (x * x) := by
    have := Nat.lt_mul_div_succ n hxx
    rw [Nat.mul_comm] at this
    exact this
  have c : (n / (x * x) + 1) * (x * x) ≤ (3 * r - 2 * x) * (x * x) := Nat.mul_le_mul_right _ (by
    clear q b
    generalize n / (x * x) = z at q1 ⊢
    omega)
  have := h.lo
  unfold pwr at this
  simp at this
  omega
theorem newt_stop {n r x : Nat} (h : IsRt true n r) (q : x ≤ (2 * x + n / (x * x)) / 3) : x ≤ r := by
  refine h.le ?_
  have q1 : x ≤ n / (x * x) := by
    generalize n / (x * x) = z at q
    omega
  have := Nat.le_trans (Nat.mul_le_mul_right (x * x) q1) (Nat.div_mul_le_self n _)
  show x * x * x ≤ n
  rw [Nat.mul_comm] at this
  exact this
def fps : List Nat := [2, 3, 5, 7, 11, 13, 17, 19, 23, 29, 31, 37, 41, 43, 47, 53, 59, 61, 67, 71, 73, 79, 83, 89, 97, 101, 103, 107, 109, 113, 127, 131, 137, 139, 149, 151, 157, 163, 167, 173, 179, 181, 191, 193, 197, 199, 211, 223, 227, 229, 233, 239, 241, 251, 257, 263, 269, 271, 277, 281, 283, 293, 307, 311, 313, 317, 331, 337, 347, 349, 353, 359, 367, 373, 379, 383, 389, 397, 401, 409]
def fpb (N : Nat) : List Nat := fps.filter fun p => Nat.blt p N
theorem fpb_step : (List.range 408).all (fun i => fpb (i + 3) == if (fpb (i + 2)).all (fun p => (i + 2) % p != 0) then fpb (i + 2) ++ [i + 2] else fpb (i + 2)) = true := by decide +kernel
theorem fpb_len : (List.range 408).all (fun i => Nat.blt (fpb (i + 2)).length 80) = true := by decide +kernel
theorem fpb_take : (List.range 409).all (fun i => fpb (i + 2) == fps.take (fpb (i + 2)).length) = true := by decide +kernel
theorem fpb_pos : (List.range 409).all (fun i => (fpb (i + 2)).all fun p => Nat.blt 1 p) = true := by decide +kernel
theorem step_of {N : Nat} (h2 : 2 ≤ N) (h : N < 410) : fpb (N + 1) = if (fpb N).all (fun p => N % p != 0) then fpb N ++ [N] else fpb N := by
  have := List.all_eq_true.mp fpb_step (N - 2) (List.mem_range.mpr (by omega))
  rw [show N - 2 + 3 = N + 1 by omega, show N - 2 + 2 = N by omega] at this
  exact eq_of_beq this
theorem len_of {N : Nat} (h2 : 2 ≤ N) (h : N < 410) : (fpb N).length < 80 := by
  have := List.all_eq_true.mp fpb_len (N - 2) (List.mem_range.mpr (by omega))
  rw [show N - 2 + 2 = N by omega] at this
  exact Nat.le_of_ble_eq_true this
theorem take_of {N : Nat} (h2 : 2 ≤ N) (h : N ≤ 410) : fpb N = fps.take (fpb N).length := by
  have := List.all_eq_true.mp fpb_take (N - 2) (List.mem_range.mpr (by omega))
  rw [show N - 2 + 2 = N by omega] at this
  exact eq_of_beq this
theorem pos_of {N : Nat} (h2 : 2 ≤ N) (h : N ≤ 410) : ∀ p ∈ fpb N, 1 < p := fun p hp => by
  have := List.all_eq_true.mp fpb_pos (N - 2) (List.mem_range.mpr (by omega))
  rw [show N - 2 + 2 = N by omega] at this
  exact Nat.le_of_ble_eq_true (List.all_eq_true.mp this p hp)
theorem fpb_end : (fpb 410).length = 80 := by decide +kernel
theorem isq_rt (n : Nat) : PySem.Float64.isqrt n = rt false n := by
  have h := PySem.Float64.isqrt_spec n
  exact IsRt.uniq (c := false) ⟨h.1, h.2⟩ (rt_ok false n)
def dbl : Nat → List Nat → Bool
  | _, [] => true
  | q, p :: l => Nat.ble p (2 * q) && Nat.ble p 409 && Nat.ble 2 p && dbl p l
theorem dbl_take : ∀ (l : List Nat) (q k : Nat), dbl q l = true → dbl q (l.take k) = true
  | [], _, k, _ => by cases k <;> rfl
  | p :: l, q, 0, _ => rfl
  | p :: l, q, k + 1, h => by
    simp only [dbl, Bool.and_eq_true, List.take_succ_cons] at h ⊢
    exact ⟨h.1, dbl_take l p k h.2⟩
theorem dbl_fps : dbl 2 fps = true := by decide
theorem rt_ge {p B : Nat} (hp : 1 ≤ p) : 2 ^ B ≤ rt true (p * 2 ^ (3 * B)) := by
  refine (rt_ok true _).le ?_
  show 2 ^ B * 2 ^ B * 2 ^ B ≤ _
  rw [← Nat.pow_add, ← Nat.pow_add, show B + B + B = 3 * B by omega]
  exact Nat.le_mul_of_pos_left _ hp
theorem rt_lt {p B : Nat} (hp : p ≤ 409) : rt true (p * 2 ^ (3 * B)) < 2 ^ (B + 3) := by
  refine Decidable.byContradiction fun q => ?_
  have h1 := pwr_mono (c := true) (show 2 ^ (B + 3) ≤ rt true (p * 2 ^ (3 * B)) by omega)
  have h2 := (rt_ok true (p * 2 ^ (3 * B))).lo
  have h3 : pwr true (2 ^ (B + 3)) = 512 * 2 ^ (3 * B) := by
    show 2 ^ (B + 3) * 2 ^ (B + 3) * 2 ^ (B + 3) = _
    rw [← Nat.pow_add, ← Nat.pow_add, show B + 3 + (B + 3) + (B + 3) = 9 + 3 * B by omega, Nat.pow_add]
  have h4 : p * 2 ^ (3 * B) ≤ 409 * 2 ^ (3 * B) := Nat.mul_le_mul_right _ hp
  have : 0 < 2 ^ (3 * B) := Nat.pow_pos (by decide)
  omega
theorem rt_dbl {p p' B : Nat} (hp : 1 ≤ p) (h : p' ≤ 2 * p) : rt true (p' * 2 ^ (3 * B)) ≤ 2 * rt true (p * 2 ^ (3 * B)) := by
  have hg := rt_ge (B := B) hp
  have hpos : 0 < 2 ^ B := Nat.pow_pos (by decide)
  have a := rt_ok true (p * 2 ^ (3 * B))
  have b := rt_ok true (p' * 2 ^ (3 * B))
  generalize rt true (p * 2 ^ (3 * B)) = R at *
  refine Decidable.byContradiction fun q => ?_
  have h1 := pwr_mono (c := true) (show 2 * R + 1 ≤ rt true (p' * 2 ^ (3 * B)) by omega)
  have h2 := b.lo
  have h3 := a.hi
  have h4 : p' * 2 ^ (3 * B) ≤ 2 * (p * 2 ^ (3 * B)) := by rw [← Nat.mul_assoc]; exact Nat.mul_le_mul_right _ h
  have e1 : pwr true (2 * R + 1) = 8 * (R * R * R) + 12 * (R * R) + 6 * R + 1 := by show (2 * R + 1) * (2 * R + 1) * (2 * R + 1) = _; grind
  have e2 : pwr true (R + 1) = R * R * R + 3 * (R * R) + 3 * R + 1 := by show (R + 1) * (R + 1) * (R + 1) = _; grind
  have : 0 < R * R := Nat.mul_pos (by omega) (by omega)
  omega
def chn (B : Nat) : Nat → List Nat → Prop
  | _, [] => True
  | R, p :: l => (2 ≤ p ∧ p ≤ 409 ∧ rt true (p * 2 ^ (3 * B)) ≤ 2 * R) ∧ chn B (rt true (p * 2 ^ (3 * B))) l
theorem chn_of {B : Nat} : ∀ (l : List Nat) (q R : Nat), dbl q l = true → (∀ p, p ≤ 2 * q → rt true (p * 2 ^ (3 * B)) ≤ 2 * R) → chn B R l
  | [], _, _, _, _ => trivial
  | p :: l, q, R, h, hR => by
    simp only [dbl, Bool.and_eq_true, Nat.ble_eq] at h
    exact ⟨⟨h.1.2, h.1.1.2, hR p h.1.1.1⟩, chn_of l p _ h.2 fun p' h' => rt_dbl (by omega) h'⟩
theorem chn_fps (B k : Nat) : chn B (2 ^ B) (fps.take k) := by
  refine chn_of _ 2 _ (dbl_take _ _ _ dbl_fps) fun p hp => ?_
  refine Decidable.byContradiction fun q => ?_
  have h1 := pwr_mono (c := true) (show 2 * 2 ^ B + 1 ≤ rt true (p * 2 ^ (3 * B)) by omega)
  have h2 := (rt_ok true (p * 2 ^ (3 * B))).lo
  have e1 : pwr true (2 * 2 ^ B + 1) = 8 * (2 ^ B * 2 ^ B * 2 ^ B) + 12 * (2 ^ B * 2 ^ B) + 6 * 2 ^ B + 1 := by show (2 * 2 ^ B + 1) * (2 * 2 ^ B + 1) * (2 * 2 ^ B + 1) = _; grind
  have h4 : p * 2 ^ (3 * B) ≤ 4 * 2 ^ (3 * B) := Nat.mul_le_mul_right _ (by omega)
  rw [← Nat.pow_add, ← Nat.pow_add, show B + B + B = 3 * B by omega] at e1
  have : 0 < 2 ^ (B + B) := Nat.pow_pos (by decide)
  omega
theorem fmN (a b : Nat) : (a : Int).fmod b = ((a % b : Nat) : Int) := by
  rw [Int.fmod_eq_emod_of_nonneg _ (Int.natCast_nonneg b)]
  rfl
theorem fdN (a b : Nat) : (a : Int).fdiv b = ((a / b : Nat) : Int) := by
  rw [Int.fdiv_eq_ediv_of_nonneg _ (Int.natCast_nonneg b)]
  rfl
noncomputable def rcN (b : Bool) : List Nat := (fps.take (if b then 80 else 64)).map fun p => rt true (p * 2 ^ (3 * (if b then 64 else 32))) % 2 ^ (if b then 64 else 32)
noncomputable def swN (b : Bool) : List Nat := (fps.take 8).map fun p => rt false (p * 2 ^ (2 * (if b then 64 else 32))) % 2 ^ (if b then 64 else 32)
end Uh
namespace Uh
open PySem PySem.Spec
def rotN (B c x : Nat) : Nat := x / 2 ^ c ||| (x * 2 ^ (B - c)) % 2 ^ B
theorem tb_div (x c j : Nat) : (x / 2 ^ c).testBit j = x.testBit (j + c) := by
  rw [← Nat.shiftRight_eq_div_pow, Nat.testBit_shiftRight, Nat.add_comm]
theorem tb_mul (x c j : Nat) : (x * 2 ^ c).testBit j = (decide (c ≤ j) && x.testBit (j - c)) := by
  rw [← Nat.shiftLeft_eq, Nat.testBit_shiftLeft]
theorem rot_eq {B c x : Nat} (hx : x < 2 ^ B) (hc : c ≤ B) : (x ||| x * 2 ^ B) / 2 ^ c % 2 ^ B = rotN B c x := by
  apply Nat.eq_of_testBit_eq
  intro j
  unfold rotN
  rw [Nat.testBit_mod_two_pow, tb_div, Nat.testBit_or, Nat.testBit_or, tb_mul, tb_div, Nat.testBit_mod_two_pow, tb_mul]
  by_cases hj : j < B
  · by_cases h1 : B ≤ j + c
    · have e : j + c - B = j - (B - c) := by omega
      have h2 : B - c ≤ j := by omega
      simp [hj, h1, h2, e]
    · have h2 : ¬ B - c ≤ j := by omega
      simp [hj, h1, h2]
  · have : x.testBit (j + c) = false := Nat.testBit_lt_two_pow (Nat.lt_of_lt_of_le hx (Nat.pow_le_pow_right (by decide) (by omega)))
    simp [hj, this]
theorem rot_lt {B c x : Nat} (hx : x < 2 ^ B) : rotN B c x < 2 ^ B := by
  unfold rotN
  exact Nat.or_lt_two_pow (Nat.lt_of_le_of_lt (Nat.div_le_self _ _) hx) (Nat.mod_lt _ (Nat.pow_pos (by decide)))
def mixN (B : Nat) (t : Bool) (p : Nat × Nat × Nat) (x : Nat) : Nat := rotN B p.1 x ^^^ rotN B p.2.1 x ^^^ (if t then x / 2 ^ p.2.2 else rotN B p.2.2 x)
theorem mix_eq {B : Nat} {t : Bool} {a b c x : Nat} (hx : x < 2 ^ B) (ha : a ≤ B) (hb : b ≤ B) (hc : c ≤ B) :
    ((x ||| x * 2 ^ B) / 2 ^ a ^^^ (x ||| x * 2 ^ B) / 2 ^ b ^^^ (if t then x / 2 ^ c else (x ||| x * 2 ^ B) / 2 ^ c)) % 2 ^ B = mixN B t (a, b, c) x := by
  rw [Nat.xor_mod_two_pow, Nat.xor_mod_two_pow, rot_eq hx ha, rot_eq hx hb]
  unfold mixN
  cases t
  · simp only [Bool.false_eq_true, if_false]
    rw [rot_eq hx hc]
  · simp only [if_true]
    rw [Nat.mod_eq_of_lt (Nat.lt_of_le_of_lt (Nat.div_le_self _ _) hx)]
theorem mix_lt {B : Nat} {t : Bool} {p : Nat × Nat × Nat} {x : Nat} (hx : x < 2 ^ B) : mixN B t p x < 2 ^ B := by
  unfold mixN
  refine Nat.xor_lt_two_pow (Nat.xor_lt_two_pow (rot_lt hx) (rot_lt hx)) ?_
  cases t
  · exact rot_lt hx
  · exact Nat.lt_of_le_of_lt (Nat.div_le_self _ _) hx
def tnN (b : Bool) (i : Nat) : Nat × Nat × Nat := match b, i with
  | false, 0 => (2, 13, 22) | false, 1 => (6, 11, 25) | false, 2 => (7, 18, 3) | false, _ => (17, 19, 10)
  | true, 0 => (28, 34, 39) | true, 1 => (14, 18, 41) | true, 2 => (1, 8, 7) | true, _ => (19, 61, 6)
def mwN (b : Bool) (i x : Nat) : Nat := mixN (if b then 64 else 32) (Nat.ble 2 i) (tnN b i) x
def chN (x y z : Nat) : Nat := ((y ^^^ z) &&& x) ^^^ z
def majN (x y z : Nat) : Nat := (x &&& y) ^^^ (x &&& z) ^^^ (y &&& z)
theorem or_xor_and (x y : Nat) : x ||| y = (x ^^^ y) + (x &&& y) := by
  have key : ∀ n x y : Nat, x ≤ n → x ||| y = (x ^^^ y) + (x &&& y) := by
    intro n
    induction n with
    | zero =>
      intro x y h
      obtain rfl : x = 0 := by omega
      simp
    | succ n ih =>
      intro x y h
      by_cases h0 : x = 0
      · subst h0; simp
      · have i := ih (x / 2) (y / 2) (by omega)
        have a1 := @Nat.or_div_two x y
        have a2 := @Nat.xor_div_two x y
        have a3 := @Nat.and_div_two x y
        have b1 := @Nat.or_mod_two_pow x y 1
        have b2 := @Nat.xor_mod_two_pow x y 1
        have b3 := @Nat.and_mod_two_pow x y 1
        rw [Nat.pow_one] at b1 b2 b3
        rcases Nat.mod_two_eq_zero_or_one x with c | c <;> rcases Nat.mod_two_eq_zero_or_one y with d | d <;> rw [c, d] at b1 b2 b3
        · have b1 : (x ||| y) % 2 = 0 := b1
          have b2 : (x ^^^ y) % 2 = 0 := b2
          have b3 : (x &&& y) % 2 = 0 := b3
          omega
        · have b1 : (x ||| y) % 2 = 1 := b1
          have b2 : (x ^^^ y) % 2 = 1 := b2
          have b3 : (x &&& y) % 2 = 0 := b3
          omega
        · have b1 : (x ||| y) % 2 = 1 := b1
          have b2 : (x ^^^ y) % 2 = 1 := b2
          have b3 : (x &&& y) % 2 = 0 := b3
          omega
        · have b1 : (x ||| y) % 2 = 1 := b1
          have b2 : (x ^^^ y) % 2 = 0 := b2
          have b3 : (x &&& y) % 2 = 1 := b3
          omega
  exact key x x y (Nat.le_refl _)
theorem iand (a b : Nat) : Builtin.bitAnd (a : Int) (b : Int) = ((a &&& b : Nat) : Int) := by
  unfold Builtin.bitAnd
  simp
theorem ior (a b : Nat) : Builtin.bitOr (a : Int) (b : Int) = ((a ||| b : Nat) : Int) := by
  unfold Builtin.bitOr Builtin.bitAnd Builtin.bitNot
  have h1 : ¬ (0 : Int) ≤ -(a : Int) - 1 := by omega
  have h2 : ¬ (0 : Int) ≤ -(b : Int) - 1 := by omega
  have e1 : (-(-(a : Int) - 1) - 1).toNat = a := by omega
  have e2 : (-(-(b : Int) - 1) - 1).toNat = b := by omega
  simp only [h1, h2, decide_false, e1, e2]
  omega
theorem ixor (a b : Nat) : Builtin.bitXor (a : Int) (b : Int) = ((a ^^^ b : Nat) : Int) := by
  unfold Builtin.bitXor
  rw [ior, iand, or_xor_and]
  omega
end Uh
namespace Ul
open PySem PySem.Spec PyProof.Rows L2 VE
@[simp] theorem atI_l0 {α : Type} (a : α) (r : List α) : atI (a :: r) 0 = some a := atI_nat' (k := 0)
@[simp] theorem atI_l1 {α : Type} (a b : α) (r : List α) : atI (a :: b :: r) 1 = some b := atI_nat' (k := 1)
@[simp] theorem atI_l2 {α : Type} (a b c : α) (r : List α) : atI (a :: b :: c :: r) 2 = some c := atI_nat' (k := 2)
@[simp] theorem atI_l3 {α : Type} (a b c d : α) (r : List α) : atI (a :: b :: c :: d :: r) 3 = some d := atI_nat' (k := 3)
theorem bits_of {z : Int} {n : Nat} (h : Builtin.Int.intBits z ≤ n) : z.natAbs < 2 ^ n := by
  unfold Builtin.Int.intBits at h
  by_cases hz : z = 0
  · subst hz; exact Nat.pow_pos (by decide)
  · have e : (z == 0) = false := by simpa using hz
    rw [e] at h
    simp only [Bool.false_eq_true, if_false] at h
    exact (Nat.log2_lt (by omega)).mp (by omega)
theorem getD_bits {ns : List Int} {n : Nat} (h : ∀ z ∈ ns, Builtin.Int.intBits z ≤ n) (k : Nat) : (ns.getD k 0).natAbs < 2 ^ n := by
  rw [List.getD_eq_getElem?_getD]
  cases hk : ns[k]? with
  | none => exact Nat.pow_pos (by decide)
  | some z => exact bits_of (h z (List.mem_of_getElem? hk))
def tInt : T := (.seq (.ret false [] (.and (.isi (.v 0) .int) (.not (.isi (.v 0) .bool)))) .pass)
def tCell : T := (.seq (.iff [] (.cmp .Lt (.v 1) (.bi .len (.cons (.v 0) .nil))) (.seq (.ret false [] (.bi .int (.cons (.ix (.v 0) (.v 1)) .nil))) .pass)
    .pass) (.seq (.ret false [] (.ci 0)) .pass))
def tNum : T := (.seq (.asg 2 [] false (.bi .abs (.cons (.v 0) .nil))) (.seq (.iff [] (.cmp .GtE (.v 2) (.bin .Pow (.ci 10) (.ci 18))) (.seq (.ret false
    [] (.v 0)) .pass) .pass) (.seq (.iff [] (.cmp .Eq (.bin .Mod (.v 2) (.ci 4)) (.ci 1)) (.seq (.ret false [] (.bin .Sub (.bin .Mod (.bin .FloorDiv
    (.v 2) (.ci 4)) (.ci 100)) (.ci 50))) .pass) .pass) (.seq (.asg 3 [] false (.bin .Add (.v 2) (.bin .Mult (.v 1) (.ci 7919)))) (.seq (.asg 4 []
    false (.ci 0)) (.seq (.for_ [] [5] false (.rng1 (.bin .Add (.ci 1) (.bin .Mod (.v 2) (.ci 9)))) (.seq (.asg 3 [] false (.bin .Mod (.bin .Add (.bin
    .Mult (.v 3) (.ci 48271)) (.ci 11)) (.ci 2147483647))) (.seq (.asg 4 [] false (.bin .Add (.bin .Mult (.v 4) (.bin .Pow (.ci 2) (.ci 31))) (.v 3)))
    .pass))) (.seq (.iff [] (.cmp .Eq (.bin .Mod (.v 2) (.ci 4)) (.ci 2)) (.seq (.ret false [] (.neg (.v 4))) .pass) .pass) (.seq (.ret false [] (.v
    4)) .pass))))))))
theorem isint_g {S : Prg} {f : Nat} {nm gm x p : Str} {tp : Stmt} (hf : S.fs[f]? = some ⟨nm, gm, tp, [x], [p], 1, [], false, tInt, none⟩) (n : Nat) (i : Int) : callN S (n + 1) f [.int i] = .ok (.bl true) := by
  rw [call_eq hf rfl rfl rfl]
  unfold tInt
  simp [e0, dIsi]
theorem cell_g {S : Prg} {f : Nat} {nm gm x y p q : Str} {tp : Stmt} (hf : S.fs[f]? = some ⟨nm, gm, tp, [x, y], [p, q], 2, [], false, tCell, none⟩) (n : Nat) (ns : List Int) (k : Nat) : callN S (n + 1) f [.frz (ns.map .int), .int k] = .ok (.int (ns.getD k 0)) := by
  rw [call_eq hf rfl rfl rfl]
  unfold tCell
  simp [e0, atI_nat']
  by_cases h : k < ns.length
  · simp [h]
  · simp [h]
theorem number_g {S : Prg} {f : Nat} {nm gm x0 x1 x2 x3 x4 x5 p0 p1 : Str} {tp : Stmt} (hf : S.fs[f]? = some ⟨nm, gm, tp, [x0, x1, x2, x3, x4, x5], [p0, p1], 2, [], false, tNum, none⟩) (n : Nat) (x salt : Int) (hs : 0 ≤ salt) (hs2 : salt ≤ 1000) :
    ∃ v : Int, callN S (n + 1) f [.int x, .int salt] = .ok (.int v) ∧ (v = x ∨ v.natAbs < 2 ^ 400) := by
  rw [call_eq hf rfl rfl rfl]
  unfold tNum
  have p1 : powOk 10 18 := by unfold powOk; decide
  have p2 : powOk 2 31 := by unfold powOk; decide
  generalize hr : (if x < 0 then -x else x) = r
  have r0 : 0 ≤ r := by split at hr <;> omega
  by_cases c1 : (1000000000000000000 : Int) ≤ r
  · exact ⟨x, by simp [e0, hr, p1, c1], .inl rfl⟩
  · by_cases c2 : r % 4 = 1
    · refine ⟨r / 4 % 100 - 50, by simp [e0, hr, p1, c1, c2, Int.fdiv_eq_ediv_of_nonneg, Int.fmod_eq_emod_of_nonneg], .inr ?_⟩
      have : (r / 4 % 100 - 50).natAbs < 2 ^ 10 := by omega
      exact Nat.lt_of_lt_of_le this (Nat.pow_le_pow_right (by decide) (by decide))
    · have m1 : mulOk salt 7919 := mul_ok (a := 10) (b := 13) (by omega) (by decide) (by decide)
      have r1 : VE.inR (1 + r % 9) := inR_of (by omega) (by omega)
      obtain ⟨s1, q, hq⟩ := forL_rng (forB (S.base (callN S n)) [5] false (.seq (.asg 3 [] false (.bin .Mod (.bin .Add (.bin .Mult (.v 3) (.ci 48271)) (.ci 11)) (.ci 2147483647))) (.seq (.asg 4 [] false (.bin .Add (.bin .Mult (.v 4) (.bin .Pow (.ci 2) (.ci 31))) (.v 3))) .pass)))
        (fun _ (p : Int × Int) => ((p.1 * 48271 + 11) % 2147483647, p.2 * 2147483648 + (p.1 * 48271 + 11) % 2147483647)) (fun p sl => [.val (.int x) false, .val (.int salt) false, .val (.int r) false, .val (.int p.1) false, .val (.int p.2) false, sl])
        (fun i p => 0 ≤ p.1 ∧ p.1 < 2 ^ 70 ∧ 0 ≤ p.2 ∧ p.2 < 2 ^ (40 * i + 1)) (1 + r % 9).toNat (r + salt * 7919, 0) .emp ⟨by simp only; omega, by simp only; omega, by simp, by simp⟩ (fun i p sl hi hp => by
          obtain ⟨a, b⟩ := p
          obtain ⟨h1, h2, h3, h4⟩ := hp
          simp only at h1 h2 h3 h4
          have hi2 : i < 9 := by omega
          have m2 : mulOk a 48271 := mul_ok (a := 70) (b := 16) (by omega) (by decide) (by decide)
          have m3 : mulOk b 2147483648 := mul_ok (a := 40 * i + 1) (b := 32) (by
            obtain ⟨m, rfl⟩ := Int.eq_ofNat_of_zero_le h3
            rw [Int.natAbs_natCast]
            exact_mod_cast h4) (by decide) (by omega)
          refine ⟨by simp [forB, p2, m2, m3, Int.fmod_eq_emod_of_nonneg], ?_, ?_, ?_, ?_⟩
          · show 0 ≤ (a * 48271 + 11) % 2147483647; omega
          · show (a * 48271 + 11) % 2147483647 < 2 ^ 70; omega
          · show 0 ≤ b * 2147483648 + (a * 48271 + 11) % 2147483647; omega
          · show b * 2147483648 + (a * 48271 + 11) % 2147483647 < 2 ^ (40 * (i + 1) + 1)
            have e1 : 40 * (i + 1) + 1 = (40 * i + 1) + 40 := by omega
            rw [e1, Int.pow_add]
            have := Int.mul_le_mul_of_nonneg_right (show b + 1 ≤ 2 ^ (40 * i + 1) from h4) (show (0 : Int) ≤ 2 ^ 40 by decide)
            omega)
      obtain ⟨-, -, q3, q4⟩ := hq
      generalize itN (fun _ (p : Int × Int) => ((p.1 * 48271 + 11) % 2147483647, p.2 * 2147483648 + (p.1 * 48271 + 11) % 2147483647)) 0 (1 + r % 9).toNat (r + salt * 7919, 0) = z at q q3 q4
      have hb : z.2.natAbs < 2 ^ 400 := by
        obtain ⟨m, hm⟩ := Int.eq_ofNat_of_zero_le q3
        rw [hm] at q4 ⊢
        rw [Int.natAbs_natCast]
        have q5 : m < 2 ^ (40 * (1 + r % 9).toNat + 1) := by exact_mod_cast q4
        exact Nat.lt_of_lt_of_le q5 (Nat.pow_le_pow_right (by decide) (by omega))
      by_cases c3 : r % 4 = 2
      · exact ⟨-z.2, by simp [e0, hr, p1, c1, c2, c3, m1, r1, q, Int.fdiv_eq_ediv_of_nonneg, Int.fmod_eq_emod_of_nonneg], .inr (by rw [Int.natAbs_neg]; exact hb)⟩
      · exact ⟨z.2, by simp [e0, hr, p1, c1, c2, c3, m1, r1, q, Int.fdiv_eq_ediv_of_nonneg, Int.fmod_eq_emod_of_nonneg], .inr hb⟩
end Ul
namespace Ul
open PySem PySem.Spec PyProof.Rows L2 VE
def val (l : List Nat) : Nat := l.foldl (fun a b => a * 256 + b) 0
def byt (l : List Nat) : Prop := ∀ b ∈ l, b < 256
def bd (l : List Nat) : List D := l.map fun (b : Nat) => D.int b
theorem bd_len (l : List Nat) : (bd l).length = l.length := by simp [bd]
theorem val_app (l : List Nat) (b : Nat) : val (l ++ [b]) = val l * 256 + b := by simp [val]
theorem val_bd (l : List Nat) (hb : byt l) : val l < 256 ^ l.length := by
  have : ∀ (r : List Nat), byt r.reverse → val r.reverse < 256 ^ r.length := by
    intro r
    induction r with
    | nil => intro _; decide
    | cons b r ih =>
      intro h
      rw [List.reverse_cons] at h ⊢
      have h1 := ih fun z hz => h z (by simp [hz])
      have h2 := h b (by simp)
      rw [val_app, List.length_cons, Nat.pow_succ]
      omega
  have := this l.reverse (by simpa using hb)
  simpa using this
def tBig : T := (.seq (.asg 1 [] false (.ci 0)) (.seq (.for_ [] [2] false (.itr (.v 0)) (.seq (.asg 1 [] false (.bin .Add (.bin .Mult (.v 1) (.ci 256))
    (.v 2))) .pass)) (.seq (.ret false [] (.v 1)) .pass)))
theorem bigL (cl : Pr) (s0 : Sl) : ∀ (r l : List Nat) (s2 : Sl), byt (l ++ r) → (l ++ r).length ≤ 1000000 → ∃ t2, forL (forB cl [2] false (.seq (.asg 1 [] false (.bin .Add (.bin .Mult (.v 1) (.ci 256))
    (.v 2))) .pass)) (bd r) [s0, .val (.int (val l)) false, s2] = .nx [s0, .val (.int (val (l ++ r))) false, t2]
  | [], l, s2, _, _ => ⟨s2, by simp [bd]⟩
  | b :: r, l, s2, hb, hl => by
    have e : l ++ b :: r = (l ++ [b]) ++ r := by simp
    rw [e] at hb hl ⊢
    obtain ⟨t2, q⟩ := bigL cl s0 r (l ++ [b]) (.val (.int b) false) hb hl
    refine ⟨t2, ?_⟩
    have hv := val_bd l fun z hz => hb z (by simp [hz])
    have hm : mulOk (val l : Int) 256 := mul_ok (a := 8 * l.length) (b := 9) (by
      rw [Int.natAbs_natCast, Nat.pow_mul]; exact hv) (by decide) (by simp at hl; omega)
    show forL _ (.int b :: bd r) _ = _
    rw [forL_cons]
    have st : forB cl [2] false (.seq (.asg 1 [] false (.bin .Add (.bin .Mult (.v 1) (.ci 256)) (.v 2))) .pass) (.int b) [s0, .val (.int (val l)) false, s2] = .nx [s0, .val (.int (val (l ++ [b]))) false, .val (.int b) false] := by
      rw [val_app]
      simp [forB, hm]
    rw [st]
    exact q
theorem big_g {S : Prg} {f : Nat} {nm gm x0 x1 x2 p0 : Str} {tp : Stmt} (hf : S.fs[f]? = some ⟨nm, gm, tp, [x0, x1, x2], [p0], 1, [], false, tBig, none⟩) (n : Nat) (l : List Nat) (hl : l.length ≤ 1000000) (hb : byt l) : callN S (n + 1) f [.lst (bd l)] = .ok (.int (val l)) := by
  rw [call_eq hf rfl rfl rfl]
  unfold tBig
  obtain ⟨t2, q⟩ := bigL (S.base (callN S n)) (.val (.lst (bd l)) false) l [] .emp hb hl
  have q : forL _ _ [_, .val (.int 0) false, _] = _ := q
  simp [e0, q]
end Ul
namespace Ul
open PySem PySem.Spec PyProof.Rows L2 VE
theorem and255 (n : Nat) : Builtin.bitAnd (n : Int) 255 = ((n % 256 : Nat) : Int) := by
  have e : Builtin.bitAnd (n : Int) 255 = ((n &&& 255 : Nat) : Int) := by
    unfold Builtin.bitAnd
    simp
  have e2 : n &&& 255 = n % 256 := by
    have := Nat.and_two_pow_sub_one_eq_mod n 8
    simpa using this
  rw [e, e2]
theorem bd_app (l : List Nat) (b : Nat) : bd l ++ [.int (b : Int)] = bd (l ++ [b]) := by simp [bd]
def tRow : T := (.seq (.asg 2 [] true (.lst .nil)) (.seq (.asg 3 [] false (.bi .abs (.cons (.v 0) .nil))) (.seq (.iff [] (.cmp .GtE (.v 3) (.bin .Pow
    (.ci 10) (.ci 18))) (.seq (.for_ [] [5] false (.rng1 (.v 1)) (.seq (.mut .lappend 2 [] (.cons (.bin .BitAnd (.v 3) (.ci 255)) .nil)) (.seq (.asg 3
    [] false (.bin .RShift (.v 3) (.ci 8))) .pass))) (.seq (.ret false [2] (.v 2)) .pass)) .pass) (.seq (.asg 4 [] false (.bin .Add (.bin .Mod (.bi
    .int (.cons (.v 3) .nil)) (.ci 2147483629)) (.ci 1))) (.seq (.for_ [] [5] false (.rng1 (.v 1)) (.seq (.asg 4 [] false (.bin .Mod (.bi .int (.cons
    (.bin .Mult (.v 4) (.ci 48271)) .nil)) (.ci 2147483647))) (.seq (.mut .lappend 2 [] (.cons (.bin .BitAnd (.bin .Add (.bin .FloorDiv (.v 4) (.ci
    7)) (.v 4)) (.ci 255)) .nil)) .pass))) (.seq (.ret false [2] (.v 2)) .pass))))))
theorem row_g {S : Prg} {f : Nat} {nm gm x0 x1 x2 x3 x4 x5 p0 p1 : Str} {tp : Stmt} (hf : S.fs[f]? = some ⟨nm, gm, tp, [x0, x1, x2, x3, x4, x5], [p0, p1], 2, [], false, tRow, none⟩) (n : Nat) (x : Int) (cnt : Nat) (hc : cnt ≤ 1000000) :
    ∃ l : List Nat, callN S (n + 1) f [.int x, .int cnt] = .ok (.lst (bd l)) ∧ l.length = cnt ∧ byt l := by
  rw [call_eq hf rfl rfl rfl]
  unfold tRow
  have p1 : powOk 10 18 := by unfold powOk; decide
  have r1 : VE.inR (cnt : Int) := inR_of (by omega) (by omega)
  have sz : SZ = 16777216 := rfl
  have eA : (if x < 0 then -x else x) = (x.natAbs : Int) := by split <;> omega
  generalize x.natAbs = A at eA
  by_cases c1 : (1000000000000000000 : Int) ≤ A
  · obtain ⟨s1, q, hq⟩ := forL_rng (forB (S.base (callN S n)) [5] false (.seq (.mut .lappend 2 [] (.cons (.bin .BitAnd (.v 3) (.ci 255)) .nil)) (.seq (.asg 3
    [] false (.bin .RShift (.v 3) (.ci 8))) .pass)))
      (fun _ (p : Nat × List Nat) => (p.1 / 256, p.2 ++ [p.1 % 256])) (fun p sl => [.val (.int x) false, .val (.int cnt) false, .val (.lst (bd p.2)) true, .val (.int p.1) false, .emp, sl]) (fun i p => p.2.length = i ∧ byt p.2) cnt (A, []) .emp ⟨rfl, fun b h => by cases h⟩ (fun i p sl hi hp => by
        obtain ⟨p1, p2⟩ := p
        have hz : (bd p2).length < SZ := by have := hp.1; simp only [bd_len] at this ⊢; omega
        refine ⟨?_, by have := hp.1; simp at this ⊢; exact this, fun b hb => ?_⟩
        · have e := bd_app p2 (p1 % 256)
          simp only at e ⊢
          rw [← e]
          simp [forB, hz, and255]
        · rcases List.mem_append.mp hb with z | z
          · exact hp.2 b z
          · simp at z; omega)
    generalize itN (fun _ (p : Nat × List Nat) => (p.1 / 256, p.2 ++ [p.1 % 256])) 0 cnt (A, []) = w at q hq
    have q : forL _ _ [_, _, .val (.lst []) true, .val (.int A) false, _, _] = _ := q
    exact ⟨w.2, by simp [e0, eA, p1, c1, r1, q, clrE_one], hq.1, hq.2⟩
  · obtain ⟨s1, q, hq⟩ := forL_rng (forB (S.base (callN S n)) [5] false (.seq (.asg 4 [] false (.bin .Mod (.bi .int (.cons
    (.bin .Mult (.v 4) (.ci 48271)) .nil)) (.ci 2147483647))) (.seq (.mut .lappend 2 [] (.cons (.bin .BitAnd (.bin .Add (.bin .FloorDiv (.v 4) (.ci
    7)) (.v 4)) (.ci 255)) .nil)) .pass)))
      (fun _ (p : Nat × List Nat) => (p.1 * 48271 % 2147483647, p.2 ++ [(p.1 * 48271 % 2147483647 / 7 + p.1 * 48271 % 2147483647) % 256])) (fun p sl => [.val (.int x) false, .val (.int cnt) false, .val (.lst (bd p.2)) true, .val (.int A) false, .val (.int p.1) false, sl]) (fun i p => p.1 < 2147483648 ∧ p.2.length = i ∧ byt p.2) cnt (A % 2147483629 + 1, []) .emp ⟨by simp only; omega, rfl, fun b h => by cases h⟩ (fun i p sl hi hp => by
        obtain ⟨p1, p2⟩ := p
        obtain ⟨h1, h2, h3⟩ := hp
        simp only at h1 h2 h3
        have hz : (bd p2).length < SZ := by rw [bd_len]; omega
        have hm : mulOk (p1 : Int) 48271 := mul_ok (a := 32) (b := 16) (by omega) (by decide) (by decide)
        refine ⟨?_, by simp only; omega, by simp only [List.length_append, List.length_singleton]; omega, fun b hb => ?_⟩
        · have e := bd_app p2 ((p1 * 48271 % 2147483647 / 7 + p1 * 48271 % 2147483647) % 256)
          have a := and255 (p1 * 48271 % 2147483647 / 7 + p1 * 48271 % 2147483647)
          simp only [Int.natCast_add, Int.natCast_ediv, Int.natCast_emod, Int.natCast_mul] at e a ⊢
          rw [← e]
          simp [forB, hz, hm, Int.fdiv_eq_ediv_of_nonneg, Int.fmod_eq_emod_of_nonneg]
          simpa using a
        · rcases List.mem_append.mp hb with z | z
          · exact h3 b z
          · simp at z; omega)
    generalize itN (fun _ (p : Nat × List Nat) => (p.1 * 48271 % 2147483647, p.2 ++ [(p.1 * 48271 % 2147483647 / 7 + p.1 * 48271 % 2147483647) % 256])) 0 cnt (A % 2147483629 + 1, []) = w at q hq
    have q : forL _ _ [_, _, .val (.lst []) true, .val (.int A) false, .val (.int ((A % 2147483629 + 1 : Nat) : Int)) false, _] = _ := q
    simp only [Int.natCast_add, Int.natCast_emod] at q
    exact ⟨w.2, by simp at q; simp [e0, eA, p1, c1, r1, q, clrE_one, Int.fmod_eq_emod_of_nonneg], hq.2.1, hq.2.2⟩
end Ul
set_option linter.all false
set_option maxHeartbeats 0
set_option maxRecDepth 100000
set_option exponentiation.threshold 700
namespace Pg
open PySem PySem.Spec PyProof.Rows L2 VE Ul Uh
def kS (b : Bool) : List Nat := if b then [115, 104, 97, 53, 49, 50] else [115, 104, 97, 50, 53, 54]
abbrev bt (b : Bool) : Nat := if b then 64 else 32
theorem glS : Option.map (fun x => x.snd) S.glo[0]? = some (D.dct [[kS false], [kS true]] [.tup [.int 32, .int 64, .int 64, .int 8, .int 32], .tup [.int 64, .int 128, .int 80, .int 16, .int 64]]) := (rfl)
@[simp] theorem atI_l4 {α : Type} (a b c d e : α) (r : List α) : atI (a :: b :: c :: d :: e :: r) 4 = some e := atI_nat' (k := 4)
abbrev rnd (b : Bool) : Nat := if b then 80 else 64
def szD (b : Bool) : D := .tup [.int (bt b), .int (2 * bt b : Nat), .int (rnd b), .int (bt b / 4 : Nat), .int (bt b)]
theorem dOkS (b : Bool) : dctOk [kS b] [[kS false], [kS true]] = true := by cases b <;> rfl
theorem dGetS (b : Bool) : dctGet [kS b] [[kS false], [kS true]] [.tup [.int 32, .int 64, .int 64, .int 8, .int 32], .tup [.int 64, .int 128, .int 80, .int 16, .int 64]] = some (szD b) := by cases b <;> rfl
theorem check_ok (n : Nat) (b : Bool) : callN S (n + 1) 5 [.str (kS b)] = .ok .non := by
  rw [call_eq (F := f5) rfl rfl rfl rfl]
  unfold f5 t5
  cases b <;> simp [e0, glS, kS, dctOk]
theorem check_bad (n : Nat) (s : List Nat) (h1 : s ≠ kS false) (h2 : s ≠ kS true) : callN S (n + 1) 5 [.str s] = .exc 1 := by
  rw [call_eq (F := f5) rfl rfl rfl rfl]
  unfold f5 t5
  simp [e0, glS, dctOk, h1, h2]
theorem wbits (n : Nat) (b : Bool) : callN S (n + 2) 6 [.str (kS b)] = .ok (.int (bt b)) := by
  rw [call_eq (F := f6) rfl rfl rfl rfl]
  unfold f6 t6
  have c := check_ok n b
  cases b <;> (simp [kS] at c; simp [e0, glS, kS, dctOk, dctGet, c, bt])
theorem wbits_bad (n : Nat) (s : List Nat) (h1 : s ≠ kS false) (h2 : s ≠ kS true) : callN S (n + 2) 6 [.str s] = .exc 1 := by
  rw [call_eq (F := f6) rfl rfl rfl rfl]
  unfold f6 t6
  simp [e0, glS, check_bad n s h1 h2]
theorem bsize (n : Nat) (b : Bool) : callN S (n + 2) 7 [.str (kS b)] = .ok (.int (2 * bt b)) := by
  rw [call_eq (F := f7) rfl rfl rfl rfl]
  unfold f7 t7
  have c := check_ok n b
  cases b <;> (simp [kS] at c; simp [e0, glS, kS, dctOk, dctGet, c, bt])
theorem bsize_bad (n : Nat) (s : List Nat) (h1 : s ≠ kS false) (h2 : s ≠ kS true) : callN S (n + 2) 7 [.str s] = .exc 1 := by
  rw [call_eq (F := f7) rfl rfl rfl rfl]
  unfold f7 t7
  simp [e0, glS, check_bad n s h1 h2]
theorem dsize (n : Nat) (b : Bool) : callN S (n + 2) 9 [.str (kS b)] = .ok (.int (bt b)) := by
  rw [call_eq (F := f9) rfl rfl rfl rfl]
  unfold f9 t9
  have c := check_ok n b
  cases b <;> (simp [kS] at c; simp [e0, glS, kS, dctOk, dctGet, c, bt])
theorem lsize (n : Nat) (b : Bool) : callN S (n + 2) 8 [.str (kS b)] = .ok (.int (bt b / 4 : Nat)) := by
  rw [call_eq (F := f8) rfl rfl rfl rfl]
  unfold f8 t8
  have c := check_ok n b
  cases b <;> (simp [kS] at c; simp [e0, glS, kS, dctOk, dctGet, c, bt])
theorem allT (cl : Pr) (N : Nat) (l : List Nat) (hl : l.length < 2 ^ 20) (hp : ∀ p ∈ l, 1 < p) (s0 s3 : Sl) (hs : slN s3 = true) : evX cl true (.bi .all (.cons (.lc [3] [3] false (.itr (.v 1)) .no (.cmp .NotEq (.bin .Mod (.v 2) (.v 3)) (.ci 0))) .nil)) [s0, .val (.lst (bd l)) true, .val (.int N) false, s3] =
    .ok (.bl (l.all fun p => N % p != 0)) := by
  have L : lcRun (lcF cl [3] [3] false .no (.cmp .NotEq (.bin .Mod (.v 2) (.v 3)) (.ci 0)) [s0, .val (.lst (bd l)) true, .val (.int N) false, s3]) (bd l) = .ok (l.map fun p => D.bl (N % p != 0)) := by
    have := lcRun_map (f := lcF cl [3] [3] false .no (.cmp .NotEq (.bin .Mod (.v 2) (.v 3)) (.ci 0)) [s0, .val (.lst (bd l)) true, .val (.int N) false, s3]) (g := fun d => match d with | .int i => .bl (N % i.toNat != 0) | _ => .non) (bd l) (fun d hd => by
      obtain ⟨p, hp', rfl⟩ := List.mem_map.mp hd
      have := hp p hp'
      have p0 : ¬ p = 0 := by omega
      have e : decide (((N : Int) % p) = 0) = (N % p == 0) := by
        rw [Bool.eq_iff_iff]
        simp
        omega
      simp [lcF, optC, consO, p0, fmN]
      rw [bne, e, Bool.not_not])
    rw [this]
    simp [bd]
  have sz : l.length < SZ := by have : SZ = 16777216 := rfl; omega
  have bl : blsOf (l.map fun p => D.bl (N % p != 0)) = some (l.map fun p => N % p != 0) := by
    clear L hl hp sz
    induction l with
    | nil => rfl
    | cons a r ih =>
      rw [List.map_cons, List.map_cons]
      unfold blsOf
      rw [ih]
      rfl
  simp [L, sz, hs, dBi, bl, bd_len]
theorem fploop (cl : Pr) (cnt : Nat) (hc : cnt ≤ 80) : ∀ (k N : Nat) (s3 : Sl), slN s3 = true → N + k = 410 → 2 ≤ N → (fpb N).length ≤ cnt → ∃ N' : Nat, whl (whB (cl) (.cmp .Lt (.bi .len (.cons (.v 1) .nil)) (.v 0)) (.seq (.iff [] (.bi .all (.cons (.lc [3] [3] false (.itr (.v 1)) .no (.cmp .NotEq (.bin .Mod (.v 2) (.v 3)) (.ci 0))) .nil)) (.seq (.mut .lappend 1 [] (.cons (.v 2) .nil)) .pass) .pass) (.seq (.asg 2 [] false (.bin .Add (.v 2) (.ci 1))) .pass))) [.val (.int cnt) false, .val (.lst (bd (fpb N))) true, .val (.int N) false, s3] =
    .nx [.val (.int cnt) false, .val (.lst (bd (fps.take cnt))) true, .val (.int N') false, s3]
  | 0, N, s3, hs, hk, h2, hl => by
    have e : N = 410 := by omega
    subst e
    have e2 := take_of h2 (Nat.le_refl _)
    rw [fpb_end] at hl
    have : cnt = 80 := by omega
    subst this
    refine ⟨410, ?_⟩
    rw [whl_eq]
    unfold whB whStep
    have n80 : ¬ ((bd (fpb 410)).length : Int) < 80 := by rw [bd_len, fpb_end]; decide
    rw [fpb_end] at e2
    simp [n80]
    rw [e2]
  | k + 1, N, s3, hs, hk, h2, hl => by
    by_cases he : (fpb N).length = cnt
    · refine ⟨N, ?_⟩
      have e2 := take_of h2 (by omega)
      rw [whl_eq]
      unfold whB whStep
      rw [he] at e2
      simp [bd_len, he]
      rw [← e2]
    · have st := step_of h2 (show N < 410 by omega)
      have hlt := len_of h2 (show N < 410 by omega)
      obtain ⟨N', q⟩ := fploop cl cnt hc k (N + 1) s3 hs (by omega) (by omega) (by
        rw [st]
        split
        · simp; omega
        · exact hl)
      refine ⟨N', ?_⟩
      rw [← q, whl_eq]
      have a := allT cl N (fpb N) (by omega) (pos_of h2 (by omega)) (.val (.int cnt) false) s3 hs
      have lt : (fpb N).length < cnt := by omega
      have sz : (fpb N).length < SZ := by have : SZ = 16777216 := rfl; omega
      have ex : whB cl (.cmp .Lt (.bi .len (.cons (.v 1) .nil)) (.v 0)) (.seq (.iff [] (.bi .all (.cons (.lc [3] [3] false (.itr (.v 1)) .no (.cmp .NotEq (.bin .Mod (.v 2) (.v 3)) (.ci 0))) .nil)) (.seq (.mut .lappend 1 [] (.cons (.v 2) .nil)) .pass) .pass) (.seq (.asg 2 [] false (.bin .Add (.v 2) (.ci 1))) .pass)) [.val (.int cnt) false, .val (.lst (bd (fpb N))) true, .val (.int N) false, s3] = .inl [.val (.int cnt) false, .val (.lst (bd (fpb (N + 1)))) true, .val (.int ((N + 1 : Nat) : Int)) false, s3] := by
        unfold whB whStep
        rw [st]
        generalize ((fpb N).all fun p => N % p != 0) = bb at a
        have ap : bd (fpb N) ++ [D.int N] = bd (fpb N ++ [N]) := by simp [bd]
        have el : evX cl true (.bi .len (.cons (.v 1) .nil)) [.val (.int cnt) false, .val (.lst (bd (fpb N))) true, .val (.int N) false, s3] = .ok (.int ((fpb N).length : Nat)) := by simp [bd_len]
        have lt' : ((fpb N).length : Int) < cnt := by omega
        cases bb <;> simp [-evX_bi, bd_len, lt', el, a, sz, ap, lt]
      rw [ex]
theorem first_primes_ok (n cnt : Nat) (hc : cnt ≤ 80) : callN S (n + 1) 10 [.int cnt] = .ok (.lst (bd (fps.take cnt))) := by
  rw [call_eq (F := f10) rfl rfl rfl rfl]
  unfold f10 t10
  obtain ⟨N', q⟩ := fploop (S.base (callN S n)) cnt hc 408 2 .emp rfl rfl (by omega) (by simp [fpb, fps])
  have q : whl _ [_, .val (.lst []) true, .val (.int 2) false, _] = _ := q
  simp [e0, q, clrE_one]
theorem and_mask (x w : Nat) : Builtin.bitAnd (x : Int) (2 ^ w - 1) = ((x % 2 ^ w : Nat) : Int) := by
  have hp : 0 < 2 ^ w := Nat.pow_pos (by decide)
  have e : ((2 : Int) ^ w - 1) = ((2 ^ w - 1 : Nat) : Int) := by
    have : ((2 : Int) ^ w) = ((2 ^ w : Nat) : Int) := by rw [Int.natCast_pow]; rfl
    omega
  rw [e]
  have e2 : Builtin.bitAnd (x : Int) ((2 ^ w - 1 : Nat) : Int) = ((x &&& (2 ^ w - 1) : Nat) : Int) := by
    unfold Builtin.bitAnd
    simp
  rw [e2, Nat.and_two_pow_sub_one_eq_mod]
def nwt (n x : Nat) : Nat := (2 * x + n / (x * x)) / 3
theorem nwt_i (n x : Nat) : ((2 : Int) * x + (n : Int).fdiv ((x : Int) * x)).fdiv 3 = ((nwt n x : Nat) : Int) := by
  rw [← Int.natCast_mul, fdN, show (2 : Int) = ((2 : Nat) : Int) from rfl, ← Int.natCast_mul, ← Int.natCast_add, show (3 : Int) = ((3 : Nat) : Int) from rfl, fdN]
  rfl
theorem cloop (cl : Pr) {n r : Nat} (h : IsRt true n r) (h0 : 1 ≤ r) (s1 : Sl) : ∀ (k x : Nat), x ≤ k → r ≤ x → x < 2 ^ 80 → whl (whB (cl) (.cmp .Lt (.v 3) (.v 2)) (.seq (.asg 2 [] false (.v 3)) (.seq (.asg 3 [] false (.bin .FloorDiv (.bin .Add (.bin .Mult (.ci 2) (.v 2)) (.bin .FloorDiv (.v 0) (.bin .Mult (.v 2) (.v 2)))) (.ci 3))) .pass))) [.val (.int n) false, s1, .val (.int x) false, .val (.int (nwt n x)) false] =
    .nx [.val (.int n) false, s1, .val (.int r) false, .val (.int (nwt n r)) false] := by
  intro k
  induction k with
  | zero => intro x hk hx; omega
  | succ k ih =>
    intro x hk hx hb
    rw [whl_eq]
    by_cases c : nwt n x < x
    · have hr : r ≤ nwt n x := newt_ge h (by omega)
      rw [← ih (nwt n x) (by omega) hr (by omega)]
      have m1 : mulOk 2 (nwt n x : Int) := mul_ok (a := 2) (b := 80) (by decide) (by rw [Int.natAbs_natCast]; omega) (by decide)
      have m2 : mulOk (nwt n x : Int) (nwt n x : Int) := mul_ok (a := 80) (b := 80) (by rw [Int.natAbs_natCast]; omega) (by rw [Int.natAbs_natCast]; omega) (by decide)
      have z : ¬ ((nwt n x : Int) * (nwt n x : Int) = 0) := by
        have : 0 < nwt n x * nwt n x := Nat.mul_pos (by omega) (by omega)
        rw [← Int.natCast_mul]
        omega
      have ei := nwt_i n (nwt n x)
      have st : (whB (cl) (.cmp .Lt (.v 3) (.v 2)) (.seq (.asg 2 [] false (.v 3)) (.seq (.asg 3 [] false (.bin .FloorDiv (.bin .Add (.bin .Mult (.ci 2) (.v 2)) (.bin .FloorDiv (.v 0) (.bin .Mult (.v 2) (.v 2)))) (.ci 3))) .pass))) [.val (.int n) false, s1, .val (.int x) false, .val (.int (nwt n x)) false] = .inl [.val (.int n) false, s1, .val (.int (nwt n x)) false, .val (.int (nwt n (nwt n x))) false] := by
        unfold whB whStep
        simp [c, m1, m2, z, ei]
      rw [st]
    · have e : x = r := by
        have := newt_stop h (show x ≤ (2 * x + n / (x * x)) / 3 by unfold nwt at c; omega)
        omega
      subst e
      unfold whB whStep
      simp [c]
theorem cube_ok (n m x : Nat) (h0 : 1 ≤ rt true m) (h1 : rt true m ≤ x) (h2 : x < 2 ^ 80) : callN S (n + 1) 11 [.int m, .int x] = .ok (.int (rt true m : Nat)) := by
  rw [call_eq (F := f11) rfl rfl rfl rfl]
  unfold f11 t11
  have q := cloop (S.base (callN S n)) (rt_ok true m) h0 (.val (.int x) false) x x (Nat.le_refl _) h1 h2
  have m1 : mulOk 2 (x : Int) := mul_ok (a := 2) (b := 80) (by decide) (by rw [Int.natAbs_natCast]; omega) (by decide)
  have m2 : mulOk (x : Int) (x : Int) := mul_ok (a := 80) (b := 80) (by rw [Int.natAbs_natCast]; omega) (by rw [Int.natAbs_natCast]; omega) (by decide)
  have z : ¬ ((x : Int) * (x : Int) = 0) := by
    have : 0 < x * x := Nat.mul_pos (by omega) (by omega)
    rw [← Int.natCast_mul]
    omega
  have ei := nwt_i m x
  simp [e0, m1, m2, z, ei, q]
theorem rcloop (n : Nat) (b : Bool) (s0 s4 s5 s6 : Sl) : ∀ (l : List Nat) (R : Nat) (acc : List Nat) (s3 : Sl), chn (bt b) R l → R < 2 ^ (bt b + 3) → acc.length + l.length < 1000 → ∃ R' s3', forL (forB (S.base (callN S (n + 1))) [3] false (.seq (.asg 2 [] false (.call 11 (.cons (.bin .LShift (.v 3) (.bin .Mult (.ci 3) (.v 4))) (.cons (.bin .Mult (.ci 2) (.v 2)) .nil)))) (.seq (.mut .lappend 1 [] (.cons (.bin .BitAnd (.v 2) (.bin .Sub (.bin .LShift (.ci 1) (.v 4)) (.ci 1))) .nil)) .pass))) (bd l)
    [s0, .val (.lst (bd acc)) true, .val (.int R) false, s3, .val (.int (bt b)) false, s5, s6] = .nx [s0, .val (.lst (bd (acc ++ l.map fun p => rt true (p * 2 ^ (3 * bt b)) % 2 ^ bt b))) true, .val (.int (R' : Nat)) false, s3', .val (.int (bt b)) false, s5, s6]
  | [], R, acc, s3, _, _, _ => ⟨R, s3, by simp [bd]⟩
  | p :: l, R, acc, s3, hc, hR, hl => by
    obtain ⟨⟨h2, h9, h3⟩, hc⟩ := hc
    have hb : bt b ≤ 64 := by cases b <;> decide
    have hlt := rt_lt (B := bt b) h9
    have hge := rt_ge (p := p) (B := bt b) (by omega)
    have hp0 : 0 < 2 ^ bt b := Nat.pow_pos (by decide)
    have hp1 : 2 ^ (bt b + 3) ≤ 2 ^ 67 := Nat.pow_le_pow_right (by decide) (by omega)
    obtain ⟨R', s3', q⟩ := rcloop n b s0 s4 s5 s6 l (rt true (p * 2 ^ (3 * bt b))) (acc ++ [rt true (p * 2 ^ (3 * bt b)) % 2 ^ bt b]) (.val (.int p) false) hc hlt (by simp at hl ⊢; omega)
    refine ⟨R', s3', ?_⟩
    rw [List.map_cons, show acc ++ (rt true (p * 2 ^ (3 * bt b)) % 2 ^ bt b) :: l.map (fun p => rt true (p * 2 ^ (3 * bt b)) % 2 ^ bt b) = acc ++ [rt true (p * 2 ^ (3 * bt b)) % 2 ^ bt b] ++ l.map (fun p => rt true (p * 2 ^ (3 * bt b)) % 2 ^ bt b) by simp, ← q]
    show forL _ (.int p :: bd l) _ = _
    rw [forL_cons]
    have cu := cube_ok n (p * 2 ^ (3 * bt b)) (2 * R) (by omega) h3 (by omega)
    have sh : shlOk (p : Int) (3 * (bt b : Int)) := shl_ok (a := 9) (by rw [Int.natAbs_natCast]; omega) (by omega) (by omega)
    have sh2 : shlOk 1 (bt b : Int) := shl_ok (a := 1) (by decide) (by omega) (by omega)
    have m1 : mulOk 3 (bt b : Int) := mul_ok (a := 2) (b := 7) (by decide) (by rw [Int.natAbs_natCast]; omega) (by decide)
    have m2 : mulOk 2 (R : Int) := mul_ok (a := 2) (b := 80) (by decide) (by rw [Int.natAbs_natCast]; omega) (by decide)
    have e3 : ((3 : Int) * (bt b : Int)).toNat = 3 * bt b := by omega
    have sz : (bd acc).length < SZ := by have : SZ = 16777216 := rfl; simp at hl; rw [bd_len]; omega
    have ap : bd acc ++ [D.int ((rt true (p * 2 ^ (3 * bt b)) % 2 ^ bt b : Nat) : Int)] = bd (acc ++ [rt true (p * 2 ^ (3 * bt b)) % 2 ^ bt b]) := by simp [bd]
    rw [Int.natCast_mul, Int.natCast_mul, Int.natCast_pow] at cu
    have cu : callN S (n + 1) 11 [.int ((p : Int) * 2 ^ (3 * bt b)), .int (2 * (R : Int))] = _ := cu
    have am := and_mask (rt true (p * 2 ^ (3 * bt b))) (bt b)
    generalize rt true (p * 2 ^ (3 * bt b)) = Z at *
    have bo : (forB (S.base (callN S (n + 1))) [3] false (.seq (.asg 2 [] false (.call 11 (.cons (.bin .LShift (.v 3) (.bin .Mult (.ci 3) (.v 4))) (.cons (.bin .Mult (.ci 2) (.v 2)) .nil)))) (.seq (.mut .lappend 1 [] (.cons (.bin .BitAnd (.v 2) (.bin .Sub (.bin .LShift (.ci 1) (.v 4)) (.ci 1))) .nil)) .pass))) (.int p) [s0, .val (.lst (bd acc)) true, .val (.int R) false, s3, .val (.int (bt b)) false, s5, s6] = .nx [s0, .val (.lst (bd (acc ++ [Z % 2 ^ bt b]))) true, .val (.int Z) false, .val (.int p) false, .val (.int (bt b)) false, s5, s6] := by
      rw [← ap]
      generalize hB : bt b = B at *
      unfold forB
      simp [-Int.natCast_emod, -Int.natCast_pow, sh, sh2, m1, m2, e3, cu, am, sz]
    rw [bo]
theorem rc_ok (n : Nat) (b : Bool) : callN S (n + 2) 12 [.str (kS b)] = .ok (.lst (bd (rcN b))) := by
  rw [call_eq (F := f12) rfl rfl rfl rfl]
  unfold f12 t12
  have c := check_ok n b
  have sh2 : shlOk 1 (bt b : Int) := shl_ok (a := 1) (by decide) (by omega) (by cases b <;> decide)
  have fp := first_primes_ok n (rnd b) (by cases b <;> decide)
  obtain ⟨R', s3', q⟩ := rcloop n b (.val (.str (kS b)) false) (.val (.int (bt b)) false) (.val (.int (bt b)) false) (.val (.int (rnd b)) false) (fps.take (rnd b)) (2 ^ bt b) [] .emp (chn_fps _ _) (Nat.pow_lt_pow_right (by decide) (by omega)) (by cases b <;> decide)
  have q : forL _ _ [_, .val (.lst []) true, .val (.int ((2 : Int) ^ bt b)) false, _, _, _, _] = _ := q
  have er : rcN b = (fps.take (rnd b)).map fun p => rt true (p * 2 ^ (3 * bt b)) % 2 ^ bt b := by cases b <;> rfl
  rw [er]
  generalize fps.take (rnd b) = L at *
  have dk := dOkS b
  have dg := dGetS b
  generalize kS b = k at *
  unfold szD at dg
  generalize hB : bt b = B at *
  generalize rnd b = rr at *
  simp at q
  simp [e0, glS, c, dk, dg, sh2, fp, q, clrE_one]
theorem evX_isq (cl : Pr) (w : Bool) (a : T) (e : Ev) : evX cl w (.isq a) e = (evX cl true a e).bind dIsq := (rfl)
theorem glW : Option.map (fun x => x.snd) S.glo[2]? = some (D.int 8) := (rfl)
theorem sw_ok (n : Nat) (b : Bool) : callN S (n + 3) 13 [.str (kS b)] = .ok (.lst (bd (swN b))) := by
  rw [call_eq (F := f13) rfl rfl rfl rfl]
  unfold f13 t13
  have c := wbits n b
  have sh2 : shlOk 1 (bt b : Int) := shl_ok (a := 1) (by decide) (by omega) (by cases b <;> decide)
  have fp := first_primes_ok (n + 1) 8 (by decide)
  have fp : callN S (n + 1 + 1) 10 [.int 8] = _ := fp
  have m2 : mulOk 2 (bt b : Int) := mul_ok (a := 2) (b := 7) (by decide) (by cases b <;> decide) (by decide)
  have e2 : ((2 : Int) * (bt b : Int)).toNat = 2 * bt b := by omega
  have L : ∀ s0 s2, slN s0 = true → lcRun (lcF (S.base (callN S (n + 2))) [2] [2] false .no (.bin .BitAnd (.isq (.bin .LShift (.v 2) (.bin .Mult (.ci 2) (.v 1)))) (.bin .Sub (.bin .LShift (.ci 1) (.v 1)) (.ci 1))) [s0, .val (.int (bt b)) false, s2]) (bd (fps.take 8)) = .ok (bd (swN b)) := fun s0 s2 h0 => by
    have := lcRun_map (f := lcF (S.base (callN S (n + 2))) [2] [2] false .no (.bin .BitAnd (.isq (.bin .LShift (.v 2) (.bin .Mult (.ci 2) (.v 1)))) (.bin .Sub (.bin .LShift (.ci 1) (.v 1)) (.ci 1))) [s0, .val (.int (bt b)) false, s2]) (g := fun d => match d with | .int i => .int ((rt false (i.toNat * 2 ^ (2 * bt b)) % 2 ^ bt b : Nat) : Int) | _ => .non) (bd (fps.take 8)) (fun d hd => by
      obtain ⟨p, hp', rfl⟩ := List.mem_map.mp hd
      have hp : p < 2 ^ 9 := by
        have : ∀ p ∈ fps.take 8, p < 2 ^ 9 := by decide
        exact this p hp'
      have sh : shlOk (p : Int) (2 * (bt b : Int)) := shl_ok (a := 9) (by rw [Int.natAbs_natCast]; exact hp) (by omega) (by cases b <;> decide)
      have am := and_mask (rt false (p * 2 ^ (2 * bt b))) (bt b)
      have lg : (p * 2 ^ (2 * bt b)).log2 < 13000 := by
        have h1 : p * 2 ^ (2 * bt b) < 2 ^ 200 := by
          have : p * 2 ^ (2 * bt b) < 2 ^ 9 * 2 ^ (2 * bt b) := Nat.mul_lt_mul_of_pos_right hp (Nat.pow_pos (by decide))
          rw [← Nat.pow_add] at this
          exact Nat.lt_of_lt_of_le this (Nat.pow_le_pow_right (by decide) (by cases b <;> decide))
        have := log2_le h1
        omega
      have iq : dIsq (.int ((p : Int) * 2 ^ (2 * bt b))) = .ok (.int (rt false (p * 2 ^ (2 * bt b)) : Nat)) := by
        have e : ((p : Int) * 2 ^ (2 * bt b)) = ((p * 2 ^ (2 * bt b) : Nat) : Int) := by rw [Int.natCast_mul, Int.natCast_pow]; rfl
        rw [e]
        unfold dIsq
        have h0 : (0 : Int) ≤ ((p * 2 ^ (2 * bt b) : Nat) : Int) := Int.natCast_nonneg _
        simp only [Int.natAbs_natCast, Int.toNat_natCast, lg, h0, and_self, if_true, isq_rt]
      show _ = R.ok (some (D.int ((rt false (((p : Nat) : Int).toNat * 2 ^ (2 * bt b)) % 2 ^ bt b : Nat) : Int)))
      rw [Int.toNat_natCast]
      generalize rt false (p * 2 ^ (2 * bt b)) = Z at *
      generalize bt b = B at *
      simp [-Int.natCast_emod, -Int.natCast_pow, lcF, optC, consO, sh, sh2, m2, e2, iq, am, evX_isq])
    rw [this]
    have : swN b = (fps.take 8).map fun p => rt false (p * 2 ^ (2 * bt b)) % 2 ^ bt b := by cases b <;> rfl
    rw [this]
    congr 1
  have sz : (bd (fps.take 8)).length < SZ := by rw [bd_len]; decide
  have L := L (.val (.str (kS b)) false) .emp rfl
  generalize swN b = W at *
  generalize kS b = k at *
  generalize bt b = B at *
  generalize fps.take 8 = P at *
  have ef : ∀ o tg tp it cd a e, evF (S.base (callN S (n + 2))) (.lc o tg tp it cd a) e = evX (S.base (callN S (n + 2))) false (.lc o tg tp it cd a) e := fun _ _ _ _ _ _ _ => rfl
  simp [e0, c, glW, fp, L, sz, ef]
def nmS (i : Nat) : List Nat := match i with
  | 0 => [115, 117, 109, 95, 122, 101, 114, 111] | 1 => [115, 117, 109, 95, 111, 110, 101] | 2 => [116, 117, 114, 110, 95, 122, 101, 114, 111] | _ => [116, 117, 114, 110, 95, 111, 110, 101]
def tnK : List (List (List Nat)) := [[kS false, nmS 0], [kS false, nmS 1], [kS false, nmS 2], [kS false, nmS 3], [kS true, nmS 0], [kS true, nmS 1], [kS true, nmS 2], [kS true, nmS 3]]
def tnD (p : Nat × Nat × Nat) : D := .tup [.int p.1, .int p.2.1, .int p.2.2]
def tnV : List D := [tnD (tnN false 0), tnD (tnN false 1), tnD (tnN false 2), tnD (tnN false 3), tnD (tnN true 0), tnD (tnN true 1), tnD (tnN true 2), tnD (tnN true 3)]
theorem glT : Option.map (fun x => x.snd) S.glo[1]? = some (D.dct tnK tnV) := (rfl)
theorem dOkT (k nm : List Nat) : dctOk [k, nm] tnK = true := rfl
theorem dGetT (b : Bool) (i : Nat) (hi : i < 4) : dctGet [kS b, nmS i] tnK tnV = some (tnD (tnN b i)) := by
  match i, hi with
  | 0, _ => cases b <;> rfl
  | 1, _ => cases b <;> rfl
  | 2, _ => cases b <;> rfl
  | 3, _ => cases b <;> rfl
theorem memT (b : Bool) (i : Nat) (hi : i < 4) : [kS b, nmS i] ∈ tnK := by
  match i, hi with
  | 0, _ => cases b <;> decide
  | 1, _ => cases b <;> decide
  | 2, _ => cases b <;> decide
  | 3, _ => cases b <;> decide
theorem memT_not (b : Bool) (nm : List Nat) (h : ∀ i, i < 4 → nm ≠ nmS i) : [kS b, nm] ∉ tnK := by
  intro m
  have h0 := h 0 (by decide)
  have h1 := h 1 (by decide)
  have h2 := h 2 (by decide)
  have h3 := h 3 (by decide)
  unfold tnK at m
  simp at m
  rcases m with ⟨_, z⟩ | ⟨_, z⟩ | ⟨_, z⟩ | ⟨_, z⟩ | ⟨_, z⟩ | ⟨_, z⟩ | ⟨_, z⟩ | ⟨_, z⟩ <;> contradiction
theorem tn_le (b : Bool) (i : Nat) (hi : i < 4) : (tnN b i).1 ≤ bt b ∧ (tnN b i).2.1 ≤ bt b ∧ (tnN b i).2.2 ≤ bt b := by
  match i, hi with
  | 0, _ => cases b <;> decide
  | 1, _ => cases b <;> decide
  | 2, _ => cases b <;> decide
  | 3, _ => cases b <;> decide
theorem divN (a k : Nat) : (a : Int) / 2 ^ k = ((a / 2 ^ k : Nat) : Int) := by rw [Int.natCast_ediv, Int.natCast_pow]; rfl
theorem mulN (a k : Nat) : (a : Int) * 2 ^ k = ((a * 2 ^ k : Nat) : Int) := by rw [Int.natCast_mul, Int.natCast_pow]; rfl
theorem dEq_of' {a b : D} {k : Bool} (h : (dOk a 60 && dOk b 60) = true) (h2 : dEqv a b = k) : dEq a b = .ok k := by
  unfold dEq
  rw [if_pos h, h2]
end Pg
namespace Uh
open PySem PySem.Spec VE Ul
theorem clrE_sz : ∀ (k : List Nat) (e : Ev), (clrE k e).length = e.length
  | [], e => rfl
  | i :: k, e => by rw [clrE_one, List.length_set, clrE_sz k e]
theorem clrE_big (k : List Nat) (e : Ev) (h : e.length < 1000) : clrE (1000 :: k) e = clrE k e := by
  rw [clrE_one, List.set_eq_of_length_le]
  rw [clrE_sz]
  omega
abbrev bs (b : Bool) : Nat := if b then 64 else 32
abbrev rs (b : Bool) : Nat := if b then 80 else 64
def wdN (b : Bool) (blk : List Nat) (k : Nat) : Nat := val ((blk.drop (bs b / 8 * k)).take (bs b / 8))
def nxN (b : Bool) (L : List Nat) : Nat := (mwN b 2 (L.getD (L.length - 15) 0) + mwN b 3 (L.getD (L.length - 2) 0) + L.getD (L.length - 7) 0 + L.getD (L.length - 16) 0) % 2 ^ bs b
def schI (b : Bool) : Nat → List Nat → List Nat
  | 0, L => L
  | n + 1, L => schI b n (L ++ [nxN b L])
def schN (b : Bool) (blk : List Nat) : List Nat := schI b (rs b - 16) ((List.range 16).map (wdN b blk))
structure W8 where
  (a b c d e f g h : Nat)
def W8.lst (x : W8) : List Nat := [x.a, x.b, x.c, x.d, x.e, x.f, x.g, x.h]
def rnd1 (B : Bool) (x : W8) (k w : Nat) : W8 :=
  let t1 := x.h + mwN B 1 x.e + chN x.e x.f x.g + k + w
  let t2 := mwN B 0 x.a + majN x.a x.b x.c
  ⟨(t1 + t2) % 2 ^ bs B, x.a, x.b, x.c, (x.d + t1) % 2 ^ bs B, x.e, x.f, x.g⟩
def rnds (B : Bool) : List (Nat × Nat) → W8 → W8
  | [], x => x
  | p :: l, x => rnds B l (rnd1 B x p.1 p.2)
def W8.plus (B : Bool) (x y : W8) : W8 := ⟨(x.a + y.a) % 2 ^ bs B, (x.b + y.b) % 2 ^ bs B, (x.c + y.c) % 2 ^ bs B, (x.d + y.d) % 2 ^ bs B, (x.e + y.e) % 2 ^ bs B, (x.f + y.f) % 2 ^ bs B, (x.g + y.g) % 2 ^ bs B, (x.h + y.h) % 2 ^ bs B⟩
noncomputable def cmpN (B : Bool) (x : W8) (blk : List Nat) : W8 := x.plus B (rnds B ((rcN B).zip (schN B blk)) x)
structure W8.Ok (B : Bool) (x : W8) : Prop where
  a : x.a < 2 ^ bs B
  b : x.b < 2 ^ bs B
  c : x.c < 2 ^ bs B
  d : x.d < 2 ^ bs B
  e : x.e < 2 ^ bs B
  f : x.f < 2 ^ bs B
  g : x.g < 2 ^ bs B
  h : x.h < 2 ^ bs B
theorem p2 (n : Nat) : 0 < 2 ^ n := Nat.pow_pos (by decide)
theorem rnd1_ok {B : Bool} {x : W8} (h : x.Ok B) (k w : Nat) : (rnd1 B x k w).Ok B :=
  ⟨Nat.mod_lt _ (p2 _), h.a, h.b, h.c, Nat.mod_lt _ (p2 _), h.e, h.f, h.g⟩
theorem rnds_ok {B : Bool} : ∀ {l : List (Nat × Nat)} {x : W8}, x.Ok B → (rnds B l x).Ok B
  | [], _, h => h
  | p :: l, _, h => rnds_ok (l := l) (rnd1_ok h _ _)
theorem plus_ok (B : Bool) (x y : W8) : (x.plus B y).Ok B :=
  ⟨Nat.mod_lt _ (p2 _), Nat.mod_lt _ (p2 _), Nat.mod_lt _ (p2 _), Nat.mod_lt _ (p2 _), Nat.mod_lt _ (p2 _), Nat.mod_lt _ (p2 _), Nat.mod_lt _ (p2 _), Nat.mod_lt _ (p2 _)⟩
theorem mw_lt {b : Bool} {i x : Nat} (h : x < 2 ^ bs b) : mwN b i x < 2 ^ bs b := mix_lt h
theorem ch_lt {n x y z : Nat} (hx : x < 2 ^ n) (hz : z < 2 ^ n) : chN x y z < 2 ^ n := by
  unfold chN
  exact Nat.xor_lt_two_pow (Nat.and_lt_two_pow _ hx) hz
theorem maj_lt {n x y z : Nat} (hx : x < 2 ^ n) (hy : y < 2 ^ n) : majN x y z < 2 ^ n := by
  unfold majN
  refine Nat.xor_lt_two_pow (Nat.xor_lt_two_pow (Nat.and_lt_two_pow _ hy) ?_) ?_
  · rw [Nat.and_comm]; exact Nat.and_lt_two_pow _ hx
  · rw [Nat.and_comm]; exact Nat.and_lt_two_pow _ hy
theorem ch_alt {n x y z : Nat} (hx : x < 2 ^ n) (hz : z < 2 ^ n) : (x &&& y) ^^^ ((2 ^ n - 1 - x) &&& z) = chN x y z := by
  apply Nat.eq_of_testBit_eq
  intro j
  unfold chN
  have e : 2 ^ n - 1 - x = 2 ^ n - (x + 1) := by omega
  rw [e]
  simp only [Nat.testBit_xor, Nat.testBit_and, Nat.testBit_two_pow_sub_succ hx]
  by_cases hj : j < n
  · cases x.testBit j <;> cases y.testBit j <;> cases z.testBit j <;> simp [hj]
  · have z1 : z.testBit j = false := Nat.testBit_lt_two_pow (Nat.lt_of_lt_of_le hz (Nat.pow_le_pow_right (by decide) (by omega)))
    have z2 : x.testBit j = false := Nat.testBit_lt_two_pow (Nat.lt_of_lt_of_le hx (Nat.pow_le_pow_right (by decide) (by omega)))
    simp [z1, z2]
theorem maj_alt (x y z : Nat) : (x &&& y) ||| (x &&& z) ||| (y &&& z) = majN x y z := by
  apply Nat.eq_of_testBit_eq
  intro j
  unfold majN
  simp only [Nat.testBit_xor, Nat.testBit_and, Nat.testBit_or]
  cases x.testBit j <;> cases y.testBit j <;> cases z.testBit j <;> rfl
end Uh
namespace Ul
open PySem PySem.Spec PyProof.Rows L2 VE
theorem sIx_none (n d : Nat) : HT.sIx n d none = d := by rfl
theorem sIx_nat (n d k : Nat) : HT.sIx n d (some (k : Int)) = min k n := by
  unfold HT.sIx
  simp
  intro h
  omega
theorem bd_take (l : List Nat) (k : Nat) : bd (l.take k) = (bd l).take k := by simp [bd, List.map_take]
theorem bd_drop (l : List Nat) (k : Nat) : bd (l.drop k) = (bd l).drop k := by simp [bd, List.map_drop]
def sli (l : List Nat) (a b : Nat) : List Nat := (l.take b).drop a
theorem cut_bd (l : List Nat) (a b : Nat) : VE.cutD (bd l) (some (a : Int)) (some (b : Int)) = bd (sli l a b) := by
  unfold VE.cutD sli
  rw [sIx_nat, sIx_nat, bd_drop, bd_take, bd_len, List.drop_take]
  apply List.ext_getElem?
  intro i
  by_cases hi : a + i < l.length
  · simp only [List.getElem?_take, List.getElem?_drop]
    have e : min a l.length = a := by omega
    rw [e]
    by_cases hb : i < b - a
    · rw [if_pos hb, if_pos (by omega)]
    · rw [if_neg hb, if_neg (by omega)]
  · rw [List.getElem?_eq_none (by simp [bd_len]; omega), List.getElem?_eq_none (by simp [bd_len]; omega)]
theorem cut_bd_hi (l : List Nat) (b : Nat) : VE.cutD (bd l) none (some (b : Int)) = bd (l.take b) := by
  unfold VE.cutD
  rw [sIx_nat, sIx_none, bd_take, bd_len, List.drop_zero, Nat.sub_zero]
  rcases Nat.le_total b l.length with h | h
  · rw [Nat.min_eq_left h]
  · rw [Nat.min_eq_right h, List.take_of_length_le (by rw [bd_len]; omega), List.take_of_length_le (by rw [bd_len]; omega)]
theorem cut_bd_lo (l : List Nat) (a : Nat) : VE.cutD (bd l) (some (a : Int)) none = bd (l.drop a) := by
  unfold VE.cutD
  rw [sIx_nat, sIx_none, bd_drop, bd_len, List.take_of_length_le (by simp [bd_len])]
  rcases Nat.le_total a l.length with h | h
  · rw [Nat.min_eq_left h]
  · rw [Nat.min_eq_right h, List.drop_of_length_le (by rw [bd_len]; omega), List.drop_of_length_le (by rw [bd_len]; omega)]
theorem at_bd {l : List Nat} {i : Nat} (h : i < l.length) : atI (bd l) (i : Int) = some (.int (l[i] : Nat)) := by
  rw [atI_nat']
  unfold bd
  rw [List.getElem?_map, List.getElem?_eq_getElem h]
  rfl
theorem eq_bd (l m : List Nat) : dEq (.lst (bd l)) (.lst (bd m)) = .ok (decide (l = m)) := by
  have e : ∀ l, bd l = (l.map fun (b : Nat) => (b : Int)).map D.int := fun l => by simp [bd]
  rw [e, e, dEq_ints]
  congr 1
  apply decide_eq_decide.mpr
  constructor
  · intro h
    have := congrArg (List.map Int.toNat) h
    simpa [List.map_map, Function.comp_def] using this
  · rintro rfl; rfl
theorem byt_take {l : List Nat} (h : byt l) (k : Nat) : byt (l.take k) := fun b hb => h b (List.mem_of_mem_take hb)
theorem byt_drop {l : List Nat} (h : byt l) (k : Nat) : byt (l.drop k) := fun b hb => h b (List.mem_of_mem_drop hb)
theorem byt_sli {l : List Nat} (h : byt l) (a b : Nat) : byt (sli l a b) := byt_drop (byt_take h b) a
end Ul
set_option linter.all false
set_option maxHeartbeats 0
set_option maxRecDepth 100000
set_option exponentiation.threshold 700
namespace Pg
open PySem PySem.Spec PyProof.Rows L2 VE Ul Uh
theorem big_ok (n : Nat) (l : List Nat) (hl : l.length ≤ 1000000) (hb : byt l) : callN S (n + 1) 3 [.lst (bd l)] = .ok (.int (val l)) := big_g (S := S) (f := 3) rfl n l hl hb
theorem byt_sub {l : List Nat} (h : byt l) (a s : Nat) : byt ((l.drop a).take s) := fun b m => h b (List.mem_of_mem_drop (List.mem_of_mem_take m))
theorem wd_lt {b : Bool} {blk : List Nat} (h : byt blk) (k : Nat) : wdN b blk k < 2 ^ bs b := by
  unfold wdN
  have h1 := val_bd _ (byt_sub h (bs b / 8 * k) (bs b / 8))
  refine Nat.lt_of_lt_of_le h1 ?_
  rw [show (256 : Nat) = 2 ^ 8 from rfl, ← Nat.pow_mul]
  refine Nat.pow_le_pow_right (by decide) ?_
  have : ((blk.drop (bs b / 8 * k)).take (bs b / 8)).length ≤ bs b / 8 := by rw [List.length_take]; omega
  have : bs b / 8 * 8 = bs b := by cases b <;> rfl
  omega
theorem mw_line (b : Bool) (i x : Nat) (hi : i < 4) (hx : x < 2 ^ bt b) (p1 p2 p3 : Nat) (hp : tnN b i = (p1, p2, p3)) :
    Builtin.bitAnd ((((x ||| x * 2 ^ bt b) / 2 ^ p1 ^^^ (x ||| x * 2 ^ bt b) / 2 ^ p2 ^^^ (if Nat.ble 2 i then x / 2 ^ p3 else (x ||| x * 2 ^ bt b) / 2 ^ p3) : Nat)) : Int) (2 ^ bt b - 1) = ((mwN b i x : Nat) : Int) := by
  obtain ⟨l1, l2, l3⟩ := tn_le b i hi
  rw [hp] at l1 l2 l3
  rw [and_mask, mix_eq (t := Nat.ble 2 i) hx l1 l2 l3]
  unfold mwN
  rw [hp]
theorem sch_len {b : Bool} : ∀ (n : Nat) (L : List Nat), (schI b n L).length = L.length + n
  | 0, L => rfl
  | n + 1, L => by rw [schI, sch_len n, List.length_append]; simp; omega
theorem nx_lt (b : Bool) (L : List Nat) : nxN b L < 2 ^ bs b := Nat.mod_lt _ (p2 _)
theorem sch_body (cl : Pr) (b : Bool) (L : List Nat) (hl : 16 ≤ L.length) (hl2 : L.length < 1000) (hw : ∀ w ∈ L, w < 2 ^ bt b) (p1 p2 p3 q1 q2 q3 : Nat) (hp : tnN b 2 = (p1, p2, p3)) (hq : tnN b 3 = (q1, q2, q3)) (s0 s1 s3 s5 s7 s8 s9 s16 s17 s18 : Sl) :
    ∃ u16 u17 u18, (forB (cl) [5] false (.seq (.asg 16 [] false (.bin .BitOr (.ix (.v 4) (.bin .Sub (.v 5) (.ci 15))) (.bin .LShift (.ix (.v 4) (.bin .Sub (.v 5) (.ci 15))) (.v 6)))) (.seq (.asg 17 [] false (.bin .BitOr (.ix (.v 4) (.bin .Sub (.v 5) (.ci 2))) (.bin .LShift (.ix (.v 4) (.bin .Sub (.v 5) (.ci 2))) (.v 6)))) (.seq (.asg 18 [] false (.bin .BitAnd (.bin .BitXor (.bin .BitXor (.bin .RShift (.v 16) (.v 10)) (.bin .RShift (.v 16) (.v 11))) (.bin .RShift (.ix (.v 4) (.bin .Sub (.v 5) (.ci 15))) (.v 12))) (.v 2))) (.seq (.asg 18 [] false (.bin .Add (.v 18) (.bin .BitAnd (.bin .BitXor (.bin .BitXor (.bin .RShift (.v 17) (.v 13)) (.bin .RShift (.v 17) (.v 14))) (.bin .RShift (.ix (.v 4) (.bin .Sub (.v 5) (.ci 2))) (.v 15))) (.v 2)))) (.seq (.mut .lappend 4 [] (.cons (.bin .BitAnd (.bin .Add (.bin .Add (.v 18) (.ix (.v 4) (.bin .Sub (.v 5) (.ci 7)))) (.ix (.v 4) (.bin .Sub (.v 5) (.ci 16)))) (.v 2)) .nil)) .pass)))))) (.int (L.length : Nat)) [s0, s1, .val (.int (2 ^ bt b - 1)) false, s3, .val (.lst (bd L)) true, s5, .val (.int (bt b)) false, s7, s8, s9, .val (.int p1) false, .val (.int p2) false, .val (.int p3) false, .val (.int q1) false, .val (.int q2) false, .val (.int q3) false, s16, s17, s18] =
      .nx [s0, s1, .val (.int (2 ^ bt b - 1)) false, s3, .val (.lst (bd (L ++ [nxN b L]))) true, .val (.int (L.length : Nat)) false, .val (.int (bt b)) false, s7, s8, s9, .val (.int p1) false, .val (.int p2) false, .val (.int p3) false, .val (.int q1) false, .val (.int q2) false, .val (.int q3) false, u16, u17, u18] := by
  have hB : bt b ≤ 64 := by cases b <;> decide
  have gl : ∀ k, k < L.length → 0 < k → (bd L)[L.length - k]? = some (.int (L.getD (L.length - k) 0 : Nat)) := by
    intro k hk h0
    have : L.length - k < L.length := by omega
    simp [bd, this]
  have ge : ∀ k, k < L.length → 0 < k → atI (bd L) ((L.length : Int) - (k : Nat)) = some (.int (L.getD (L.length - k) 0 : Nat)) := by
    intro k hk h0
    rw [show (L.length : Int) - (k : Nat) = ((L.length - k : Nat) : Int) by omega, atI_nat', gl k hk h0]
  have g15 := ge 15 (by omega) (by decide)
  have g2 := ge 2 (by omega) (by decide)
  have g7 := ge 7 (by omega) (by decide)
  have g16 : atI (bd L) ((L.length : Int) - (16 : Nat)) = some (.int (L.getD (L.length - 16) 0 : Nat)) := by
    rw [show (L.length : Int) - (16 : Nat) = ((L.length - 16 : Nat) : Int) by omega, atI_nat']
    have : L.length - 16 < L.length := by omega
    simp [bd, this]
  have g15 : atI (bd L) ((L.length : Int) - 15) = _ := g15
  have g2 : atI (bd L) ((L.length : Int) - 2) = _ := g2
  have g7 : atI (bd L) ((L.length : Int) - 7) = _ := g7
  have g16 : atI (bd L) ((L.length : Int) - 16) = _ := g16
  have lt : ∀ k, k < L.length → L.getD k 0 < 2 ^ bt b := by
    intro k hk
    rw [List.getD_eq_getElem?_getD, List.getElem?_eq_getElem hk]
    exact hw _ (List.getElem_mem hk)
  have h15 := lt (L.length - 15) (by omega)
  have h2 := lt (L.length - 2) (by omega)
  have m1 := mw_line b 2 _ (by decide) h15 p1 p2 p3 hp
  have m2 := mw_line b 3 _ (by decide) h2 q1 q2 q3 hq
  have t2 : Nat.ble 2 2 = true := rfl
  have t3 : Nat.ble 2 3 = true := rfl
  rw [t2, if_pos rfl] at m1
  rw [t3, if_pos rfl] at m2
  have sz : L.length < SZ := by have : SZ = 16777216 := rfl; omega
  have sh : ∀ x : Nat, x < 2 ^ bt b → shlOk (x : Int) (bt b : Int) := fun x hx => shl_ok (a := 64) (by rw [Int.natAbs_natCast]; exact Nat.lt_of_lt_of_le hx (Nat.pow_le_pow_right (by decide) hB)) (by omega) (by omega)
  have sh15 := sh _ h15
  have sh2 := sh _ h2
  have am := and_mask (mwN b 2 (L.getD (L.length - 15) 0) + mwN b 3 (L.getD (L.length - 2) 0) + L.getD (L.length - 7) 0 + L.getD (L.length - 16) 0) (bt b)
  rw [Int.natCast_add, Int.natCast_add, Int.natCast_add] at am
  have ap : bd L ++ [D.int ((nxN b L : Nat) : Int)] = bd (L ++ [nxN b L]) := by simp [bd]
  have en : nxN b L = (mwN b 2 (L.getD (L.length - 15) 0) + mwN b 3 (L.getD (L.length - 2) 0) + L.getD (L.length - 7) 0 + L.getD (L.length - 16) 0) % 2 ^ bt b := rfl
  rw [← en] at am
  generalize nxN b L = Z at *
  generalize mwN b 2 (L.getD (L.length - 15) 0) = A1 at *
  generalize mwN b 3 (L.getD (L.length - 2) 0) = A2 at *
  generalize L.getD (L.length - 15) 0 = x15 at *
  generalize L.getD (L.length - 2) 0 = x2 at *
  generalize L.getD (L.length - 7) 0 = x7 at *
  generalize L.getD (L.length - 16) 0 = x16 at *
  refine ⟨.val (.int (x15 ||| x15 * 2 ^ bt b : Nat)) false, .val (.int (x2 ||| x2 * 2 ^ bt b : Nat)) false, .val (.int ((A1 : Int) + A2)) false, ?_⟩
  rw [← ap]
  generalize hBB : bt b = B at *
  unfold forB
  simp [-Int.natCast_ediv, -Int.natCast_mul, -Int.natCast_pow, -Int.natCast_add, g15, g2, g7, g16, sh15, sh2, mulN, ior, divN, ixor, m1, m2, am, bd_len, sz]
theorem sch_loop (cl : Pr) (b : Bool) (p1 p2 p3 q1 q2 q3 : Nat) (hp : tnN b 2 = (p1, p2, p3)) (hq : tnN b 3 = (q1, q2, q3)) (s0 s1 s3 s7 s8 s9 : Sl) : ∀ (m : Nat) (L : List Nat) (s5 s16 s17 s18 : Sl), 16 ≤ L.length → L.length + m < 1000 → (∀ w ∈ L, w < 2 ^ bt b) →
    ∃ u5 u16 u17 u18, forL (forB (cl) [5] false (.seq (.asg 16 [] false (.bin .BitOr (.ix (.v 4) (.bin .Sub (.v 5) (.ci 15))) (.bin .LShift (.ix (.v 4) (.bin .Sub (.v 5) (.ci 15))) (.v 6)))) (.seq (.asg 17 [] false (.bin .BitOr (.ix (.v 4) (.bin .Sub (.v 5) (.ci 2))) (.bin .LShift (.ix (.v 4) (.bin .Sub (.v 5) (.ci 2))) (.v 6)))) (.seq (.asg 18 [] false (.bin .BitAnd (.bin .BitXor (.bin .BitXor (.bin .RShift (.v 16) (.v 10)) (.bin .RShift (.v 16) (.v 11))) (.bin .RShift (.ix (.v 4) (.bin .Sub (.v 5) (.ci 15))) (.v 12))) (.v 2))) (.seq (.asg 18 [] false (.bin .Add (.v 18) (.bin .BitAnd (.bin .BitXor (.bin .BitXor (.bin .RShift (.v 17) (.v 13)) (.bin .RShift (.v 17) (.v 14))) (.bin .RShift (.ix (.v 4) (.bin .Sub (.v 5) (.ci 2))) (.v 15))) (.v 2)))) (.seq (.mut .lappend 4 [] (.cons (.bin .BitAnd (.bin .Add (.bin .Add (.v 18) (.ix (.v 4) (.bin .Sub (.v 5) (.ci 7)))) (.ix (.v 4) (.bin .Sub (.v 5) (.ci 16)))) (.v 2)) .nil)) .pass)))))) (rngL (L.length : Nat) 1 m) [s0, s1, .val (.int (2 ^ bt b - 1)) false, s3, .val (.lst (bd L)) true, s5, .val (.int (bt b)) false, s7, s8, s9, .val (.int p1) false, .val (.int p2) false, .val (.int p3) false, .val (.int q1) false, .val (.int q2) false, .val (.int q3) false, s16, s17, s18] =
      .nx [s0, s1, .val (.int (2 ^ bt b - 1)) false, s3, .val (.lst (bd (schI b m L))) true, u5, .val (.int (bt b)) false, s7, s8, s9, .val (.int p1) false, .val (.int p2) false, .val (.int p3) false, .val (.int q1) false, .val (.int q2) false, .val (.int q3) false, u16, u17, u18]
  | 0, L, s5, s16, s17, s18, _, _, _ => ⟨s5, s16, s17, s18, rfl⟩
  | m + 1, L, s5, s16, s17, s18, h1, h2, hw => by
    obtain ⟨u16, u17, u18, bo⟩ := sch_body cl b L h1 (by omega) hw p1 p2 p3 q1 q2 q3 hp hq s0 s1 s3 s5 s7 s8 s9 s16 s17 s18
    obtain ⟨v5, v16, v17, v18, q⟩ := sch_loop cl b p1 p2 p3 q1 q2 q3 hp hq s0 s1 s3 s7 s8 s9 m (L ++ [nxN b L]) (.val (.int (L.length : Nat)) false) u16 u17 u18 (by simp; omega) (by simp; omega) (by
      intro w hm
      rcases List.mem_append.mp hm with hm | hm
      · exact hw w hm
      · obtain rfl : w = nxN b L := by simpa using hm
        exact nx_lt b L)
    refine ⟨v5, v16, v17, v18, ?_⟩
    rw [rngL_succ, forL_cons, bo]
    rw [show ((L ++ [nxN b L]).length : Nat) = L.length + 1 by simp] at q
    exact q
theorem tn_ex (b : Bool) (i : Nat) : ∃ p1 p2 p3, tnN b i = (p1, p2, p3) := ⟨_, _, _, rfl⟩
theorem rsz (b : Bool) : Builtin.Range.rangeSize 0 (2 * bt b : Nat) (bt b / 8 : Nat) = 16 ∧ Builtin.Range.small 0 (2 * bt b : Nat) (bt b / 8 : Nat) = true := by cases b <;> decide
theorem sch_ok (n : Nat) (b : Bool) (blk : List Nat) (hl : blk.length = 2 * bt b) (hb : byt blk) : callN S (n + 3) 14 [.str (kS b), .lst (bd blk)] = .ok (.lst (bd (schN b blk))) := by
  rw [call_eq (F := f14) rfl rfl rfl rfl]
  unfold f14 t14
  have z := bsize n b
  have hB : bt b ≤ 64 := by cases b <;> decide
  have sh2 : shlOk 1 (bt b : Int) := shl_ok (a := 1) (by decide) (by omega) (by omega)
  obtain ⟨p1, p2, p3, hp⟩ := tn_ex b 2
  obtain ⟨q1, q2, q3, hq⟩ := tn_ex b 3
  have dg2 := dGetT b 2 (by decide)
  have dg3 := dGetT b 3 (by decide)
  rw [hp] at dg2
  rw [hq] at dg3
  have dg2 : dctGet [kS b, [116, 117, 114, 110, 95, 122, 101, 114, 111]] tnK tnV = some (.tup [.int p1, .int p2, .int p3]) := dg2
  have dg3 : dctGet [kS b, [116, 117, 114, 110, 95, 111, 110, 101]] tnK tnV = some (.tup [.int q1, .int q2, .int q3]) := dg3
  have dk2 := dOkT (kS b) [116, 117, 114, 110, 95, 122, 101, 114, 111]
  have dk3 := dOkT (kS b) [116, 117, 114, 110, 95, 111, 110, 101]
  obtain ⟨rz, rsm⟩ := rsz b
  have d8 : (bt b : Int).fdiv 8 = ((bt b / 8 : Nat) : Int) := fdN (bt b) 8
  have L : ∀ s0 s2 s4 s6 s7 s8 s9 s10 s11 s12 s13 s14 s15 s16 s17 s18, lcRun (lcF (S.base (callN S (n + 2))) [5] [5] false .no (.call 3 (.cons (.sl (.v 1) (.v 5) (.bin .Add (.v 5) (.v 3))) .nil)) [s0, .val (.lst (bd blk)) false, s2, .val (.int (bt b / 8 : Nat)) false, s4, .emp, s6, s7, s8, s9, s10, s11, s12, s13, s14, s15, s16, s17, s18]) (rngL 0 (bt b / 8 : Nat) 16) = .ok (bd ((List.range 16).map (wdN b blk))) := by
    intro s0 s2 s4 s6 s7 s8 s9 s10 s11 s12 s13 s14 s15 s16 s17 s18
    have e : rngL 0 (bt b / 8 : Nat) 16 = bd ((List.range 16).map fun i => bt b / 8 * i) := by
      unfold rngL bd
      rw [List.map_map]
      refine List.map_congr_left fun i _ => ?_
      show D.int _ = D.int _
      rw [Int.natCast_mul, Int.mul_comm, Int.zero_add]
    rw [e]
    have := lcRun_map (f := lcF (S.base (callN S (n + 2))) [5] [5] false .no (.call 3 (.cons (.sl (.v 1) (.v 5) (.bin .Add (.v 5) (.v 3))) .nil)) [s0, .val (.lst (bd blk)) false, s2, .val (.int (bt b / 8 : Nat)) false, s4, .emp, s6, s7, s8, s9, s10, s11, s12, s13, s14, s15, s16, s17, s18]) (g := fun d => match d with | .int i => .int ((val ((blk.drop i.toNat).take (bt b / 8)) : Nat) : Int) | _ => .non) (bd ((List.range 16).map fun i => bt b / 8 * i)) (fun d hd => by
      obtain ⟨a, ha, rfl⟩ := List.mem_map.mp hd
      have cu := cut_bd blk a (a + bt b / 8)
      have es : sli blk a (a + bt b / 8) = (blk.drop a).take (bt b / 8) := by
        unfold sli
        rw [List.drop_take, Nat.add_sub_cancel_left]
      rw [es, Int.natCast_add] at cu
      have bg := big_ok (n + 1) ((blk.drop a).take (bt b / 8)) (by rw [List.length_take]; omega) (byt_sub hb _ _)
      show _ = R.ok (some (D.int ((val ((blk.drop ((a : Nat) : Int).toNat).take (bt b / 8)) : Nat) : Int)))
      rw [Int.toNat_natCast]
      generalize (blk.drop a).take (bt b / 8) = X at *
      generalize bt b / 8 = s at *
      have o1 : isNo (.v 5) = false := rfl
      have o2 : isNo (.bin .Add (.v 5) (.v 3)) = false := rfl
      simp [lcF, optC, consO, optI_ok (.v 5) o1, optI_ok (.bin .Add (.v 5) (.v 3)) o2, cu, bg])
    rw [this]
    congr 1
  have hw0 : ∀ w ∈ (List.range 16).map (wdN b blk), w < 2 ^ bt b := by
    intro w hm
    obtain ⟨k, _, rfl⟩ := List.mem_map.mp hm
    exact wd_lt hb k
  have hl0 : ((List.range 16).map (wdN b blk)).length = 16 := by simp
  have hr : 16 ≤ rnd b ∧ rnd b ≤ 80 := by cases b <;> decide
  obtain ⟨u5, u16, u17, u18, q⟩ := sch_loop (S.base (callN S (n + 2))) b p1 p2 p3 q1 q2 q3 hp hq (.val (.str (kS b)) false) (.val (.lst (bd blk)) false) (.val (.int (bt b / 8 : Nat)) false) (.val (.int (2 * bt b : Nat)) false) (.val (.int (rnd b)) false) (.val (.int (bt b)) false) (rnd b - 16) ((List.range 16).map (wdN b blk)) .emp .emp .emp .emp (by omega) (by omega) hw0
  rw [hl0] at q
  have q : forL _ (rngL 16 1 (rnd b - 16)) _ = _ := q
  have es : schI b (rnd b - 16) ((List.range 16).map (wdN b blk)) = schN b blk := by cases b <;> rfl
  rw [es] at q
  have r1 : VE.inR ((2 * bt b : Nat) : Int) := inR_of (by omega) (by omega)
  have r2 : VE.inR ((bt b / 8 : Nat) : Int) := inR_of (by omega) (by omega)
  have r3 : VE.inR (rnd b : Int) := inR_of (by omega) (by omega)
  have r0 : VE.inR 0 := inR_of (by decide) (by decide)
  have r16 : VE.inR 16 := inR_of (by decide) (by decide)
  have nz : ¬ ((bt b / 8 : Nat) : Int) = 0 := by cases b <;> decide
  have nb : ((bt b / 8 : Nat) : Int).natAbs < 1073741824 := by rw [Int.natAbs_natCast]; omega
  have nz2 : ¬ bt b / 8 = 0 := by cases b <;> decide
  have nb2 : bt b / 8 < 1073741824 := by omega
  have e16 : ((rnd b : Int) - 16).toNat = rnd b - 16 := by omega
  have hl' : ((2 * bt b : Nat) : Int) = 2 * (bt b : Int) := by omega
  have dk := dOkS b
  have dg := dGetS b
  unfold szD at dg
  have zl : (rngL 0 (bt b / 8 : Nat) 16).length < SZ := by simp [rngL]; decide
  generalize schN b blk = Z at *
  generalize (List.range 16).map (wdN b blk) = W0 at *
  generalize bt b / 8 = B8 at *
  generalize bt b / 4 = B4 at *
  generalize rnd b = RN at *
  generalize kS b = K at *
  have hlb : (bd blk).length = 2 * bt b := by rw [bd_len, hl]
  generalize bt b = B at *
  rw [← hl'] at z
  generalize h2B : 2 * B = B2 at *
  have t16 : (16 : Int).toNat = 16 := rfl
  simp [-Int.natCast_ediv, -Int.natCast_mul, e0, hlb, z, glS, dk, dg, sh2, d8, L, glT, dk2, dk3, dg2, dg3, r0, r1, r2, r3, r16, nz, nb, rz, rsm, e16, q, clrE_one, zl, nz2, nb2]
theorem sch_badk (n : Nat) (s : List Nat) (x : List D) (h1 : s ≠ kS false) (h2 : s ≠ kS true) : callN S (n + 3) 14 [.str s, .lst x] = .exc 1 := by
  rw [call_eq (F := f14) rfl rfl rfl rfl]
  unfold f14 t14
  simp [e0, bsize_bad n s h1 h2]
theorem sch_badl (n : Nat) (b : Bool) (x : List D) (h : x.length ≠ 2 * bt b) : callN S (n + 3) 14 [.str (kS b), .lst x] = .exc 1 := by
  rw [call_eq (F := f14) rfl rfl rfl rfl]
  unfold f14 t14
  have h' : ¬ (x.length : Int) = 2 * (bt b : Int) := by omega
  simp [e0, bsize n b, h']
theorem sch_lt {b : Bool} {blk : List Nat} (hb : byt blk) : ∀ w ∈ schN b blk, w < 2 ^ bt b := by
  have key : ∀ (n : Nat) (L : List Nat), (∀ w ∈ L, w < 2 ^ bt b) → ∀ w ∈ schI b n L, w < 2 ^ bt b := by
    intro n
    induction n with
    | zero => intro L h; exact h
    | succ n ih =>
      intro L h
      refine ih _ fun w hm => ?_
      rcases List.mem_append.mp hm with hm | hm
      · exact h w hm
      · obtain rfl : w = nxN b L := by simpa using hm
        exact nx_lt b L
  refine key _ _ fun w hm => ?_
  obtain ⟨k, _, rfl⟩ := List.mem_map.mp hm
  exact wd_lt hb k
theorem schN_len (b : Bool) (blk : List Nat) : (schN b blk).length = rnd b := by
  unfold schN
  rw [sch_len]
  cases b <;> simp [rs, rnd]
theorem rcN_len (b : Bool) : (rcN b).length = rnd b := by cases b <;> (unfold rcN; rw [List.length_map]; rfl)
theorem cw_body (cl : Pr) (b : Bool) (x : W8) (hx : x.Ok b) (k w p1 p2 p3 q1 q2 q3 : Nat) (hp : tnN b 1 = (p1, p2, p3)) (hq : tnN b 0 = (q1, q2, q3)) (s0 s1 s2 s3 s6 s21 s22 s23 s24 s25 s26 s27 : Sl) :
    ∃ u23 u24 u25, (forB (cl) [21, 22] true (.seq (.asg 23 [] false (.bin .BitOr (.v 17) (.bin .LShift (.v 17) (.v 4)))) (.seq (.asg 24 [] false (.bin .Add (.bin .Add (.bin .Add (.bin .Add (.v 20) (.bin .BitAnd (.bin .BitXor (.bin .BitXor (.bin .RShift (.v 23) (.v 7)) (.bin .RShift (.v 23) (.v 8))) (.bin .RShift (.v 23) (.v 9))) (.v 5))) (.bin .BitXor (.bin .BitAnd (.bin .BitXor (.v 18) (.v 19)) (.v 17)) (.v 19))) (.v 21)) (.v 22))) (.seq (.asg 23 [] false (.bin .BitOr (.v 13) (.bin .LShift (.v 13) (.v 4)))) (.seq (.asg 25 [] false (.bin .Add (.bin .BitAnd (.bin .BitXor (.bin .BitXor (.bin .RShift (.v 23) (.v 10)) (.bin .RShift (.v 23) (.v 11))) (.bin .RShift (.v 23) (.v 12))) (.v 5)) (.bin .BitXor (.bin .BitXor (.bin .BitAnd (.v 13) (.v 14)) (.bin .BitAnd (.v 13) (.v 15))) (.bin .BitAnd (.v 14) (.v 15))))) (.seq (.par [20, 19, 18, 17, 16, 15, 14] [] (.cons (.v 19) (.cons (.v 18) (.cons (.v 17) (.cons (.bin .BitAnd (.bin .Add (.v 16) (.v 24)) (.v 5)) (.cons (.v 15) (.cons (.v 14) (.cons (.v 13) .nil)))))))) (.seq (.asg 13 [] false (.bin .BitAnd (.bin .Add (.v 24) (.v 25)) (.v 5))) .pass))))))) (.tup [.int k, .int w]) [s0, s1, s2, s3, .val (.int (bt b)) false, .val (.int (2 ^ bt b - 1)) false, s6, .val (.int p1) false, .val (.int p2) false, .val (.int p3) false, .val (.int q1) false, .val (.int q2) false, .val (.int q3) false,
      .val (.int x.a) false, .val (.int x.b) false, .val (.int x.c) false, .val (.int x.d) false, .val (.int x.e) false, .val (.int x.f) false, .val (.int x.g) false, .val (.int x.h) false, s21, s22, s23, s24, s25, s26, s27] =
      .nx [s0, s1, s2, s3, .val (.int (bt b)) false, .val (.int (2 ^ bt b - 1)) false, s6, .val (.int p1) false, .val (.int p2) false, .val (.int p3) false, .val (.int q1) false, .val (.int q2) false, .val (.int q3) false,
      .val (.int (rnd1 b x k w).a) false, .val (.int (rnd1 b x k w).b) false, .val (.int (rnd1 b x k w).c) false, .val (.int (rnd1 b x k w).d) false, .val (.int (rnd1 b x k w).e) false, .val (.int (rnd1 b x k w).f) false, .val (.int (rnd1 b x k w).g) false, .val (.int (rnd1 b x k w).h) false, .val (.int k) false, .val (.int w) false, u23, u24, u25, s26, s27] := by
  have hB : bt b ≤ 64 := by cases b <;> decide
  have m1 := mw_line b 1 x.e (by decide) hx.e p1 p2 p3 hp
  have m2 := mw_line b 0 x.a (by decide) hx.a q1 q2 q3 hq
  have t2 : Nat.ble 2 1 = false := rfl
  have t3 : Nat.ble 2 0 = false := rfl
  rw [t2] at m1
  rw [t3] at m2
  simp only [Bool.false_eq_true, if_false] at m1 m2
  have sh : ∀ x : Nat, x < 2 ^ bt b → shlOk (x : Int) (bt b : Int) := fun x hx => shl_ok (a := 64) (by rw [Int.natAbs_natCast]; exact Nat.lt_of_lt_of_le hx (Nat.pow_le_pow_right (by decide) hB)) (by omega) (by omega)
  have she := sh _ hx.e
  have sha := sh _ hx.a
  have a1 := and_mask (x.d + (x.h + mwN b 1 x.e + chN x.e x.f x.g + k + w)) (bt b)
  have a2 := and_mask (x.h + mwN b 1 x.e + chN x.e x.f x.g + k + w + (mwN b 0 x.a + majN x.a x.b x.c)) (bt b)
  simp only [Int.natCast_add] at a1 a2
  obtain ⟨a, b', c, d, e, f, g, h⟩ := x
  unfold rnd1
  simp only at *
  have ec : ((f ^^^ g) &&& e) ^^^ g = chN e f g := rfl
  have em : (a &&& b') ^^^ (a &&& c) ^^^ (b' &&& c) = majN a b' c := rfl
  generalize mwN b 1 e = M1 at *
  generalize mwN b 0 a = M2 at *
  generalize hC : chN e f g = C at *
  generalize hM : majN a b' c = MJ at *
  refine ⟨.val (.int (a ||| a * 2 ^ bt b : Nat)) false, .val (.int ((h : Int) + M1 + C + k + w)) false, .val (.int ((M2 : Int) + MJ)) false, ?_⟩
  have eb : (2 : Nat) ^ bs b = 2 ^ bt b := rfl
  rw [eb]
  generalize bt b = B at *
  unfold forB
  simp [-Int.natCast_ediv, -Int.natCast_emod, -Int.natCast_mul, -Int.natCast_pow, -Int.natCast_add, she, sha, mulN, ior, divN, ixor, iand, m1, m2, a1, a2, ec, em]
theorem cw_loop (cl : Pr) (b : Bool) (p1 p2 p3 q1 q2 q3 : Nat) (hp : tnN b 1 = (p1, p2, p3)) (hq : tnN b 0 = (q1, q2, q3)) (s0 s1 s2 s3 s6 s26 s27 : Sl) : ∀ (l : List (Nat × Nat)) (x : W8) (s21 s22 s23 s24 s25 : Sl), x.Ok b →
    ∃ u21 u22 u23 u24 u25, forL (forB (cl) [21, 22] true (.seq (.asg 23 [] false (.bin .BitOr (.v 17) (.bin .LShift (.v 17) (.v 4)))) (.seq (.asg 24 [] false (.bin .Add (.bin .Add (.bin .Add (.bin .Add (.v 20) (.bin .BitAnd (.bin .BitXor (.bin .BitXor (.bin .RShift (.v 23) (.v 7)) (.bin .RShift (.v 23) (.v 8))) (.bin .RShift (.v 23) (.v 9))) (.v 5))) (.bin .BitXor (.bin .BitAnd (.bin .BitXor (.v 18) (.v 19)) (.v 17)) (.v 19))) (.v 21)) (.v 22))) (.seq (.asg 23 [] false (.bin .BitOr (.v 13) (.bin .LShift (.v 13) (.v 4)))) (.seq (.asg 25 [] false (.bin .Add (.bin .BitAnd (.bin .BitXor (.bin .BitXor (.bin .RShift (.v 23) (.v 10)) (.bin .RShift (.v 23) (.v 11))) (.bin .RShift (.v 23) (.v 12))) (.v 5)) (.bin .BitXor (.bin .BitXor (.bin .BitAnd (.v 13) (.v 14)) (.bin .BitAnd (.v 13) (.v 15))) (.bin .BitAnd (.v 14) (.v 15))))) (.seq (.par [20, 19, 18, 17, 16, 15, 14] [] (.cons (.v 19) (.cons (.v 18) (.cons (.v 17) (.cons (.bin .BitAnd (.bin .Add (.v 16) (.v 24)) (.v 5)) (.cons (.v 15) (.cons (.v 14) (.cons (.v 13) .nil)))))))) (.seq (.asg 13 [] false (.bin .BitAnd (.bin .Add (.v 24) (.v 25)) (.v 5))) .pass))))))) (l.map fun p => D.tup [.int p.1, .int p.2]) [s0, s1, s2, s3, .val (.int (bt b)) false, .val (.int (2 ^ bt b - 1)) false, s6, .val (.int p1) false, .val (.int p2) false, .val (.int p3) false, .val (.int q1) false, .val (.int q2) false, .val (.int q3) false,
      .val (.int x.a) false, .val (.int x.b) false, .val (.int x.c) false, .val (.int x.d) false, .val (.int x.e) false, .val (.int x.f) false, .val (.int x.g) false, .val (.int x.h) false, s21, s22, s23, s24, s25, s26, s27] =
      .nx [s0, s1, s2, s3, .val (.int (bt b)) false, .val (.int (2 ^ bt b - 1)) false, s6, .val (.int p1) false, .val (.int p2) false, .val (.int p3) false, .val (.int q1) false, .val (.int q2) false, .val (.int q3) false,
      .val (.int (rnds b l x).a) false, .val (.int (rnds b l x).b) false, .val (.int (rnds b l x).c) false, .val (.int (rnds b l x).d) false, .val (.int (rnds b l x).e) false, .val (.int (rnds b l x).f) false, .val (.int (rnds b l x).g) false, .val (.int (rnds b l x).h) false, u21, u22, u23, u24, u25, s26, s27]
  | [], x, s21, s22, s23, s24, s25, _ => ⟨s21, s22, s23, s24, s25, rfl⟩
  | (k, w) :: l, x, s21, s22, s23, s24, s25, hx => by
    obtain ⟨u23, u24, u25, bo⟩ := cw_body cl b x hx k w p1 p2 p3 q1 q2 q3 hp hq s0 s1 s2 s3 s6 s21 s22 s23 s24 s25 s26 s27
    obtain ⟨v21, v22, v23, v24, v25, q⟩ := cw_loop cl b p1 p2 p3 q1 q2 q3 hp hq s0 s1 s2 s3 s6 s26 s27 l (rnd1 b x k w) (.val (.int k) false) (.val (.int w) false) u23 u24 u25 (rnd1_ok hx k w)
    refine ⟨v21, v22, v23, v24, v25, ?_⟩
    rw [List.map_cons, forL_cons, bo]
    exact q
theorem zip_bd (l m : List Nat) : ((bd l).zip (bd m)).map (fun p => D.tup [p.1, p.2]) = (l.zip m).map fun p => D.tup [.int p.1, .int p.2] := by
  unfold bd
  rw [List.zip_map, List.map_map]
  rfl
theorem plus_lst (b : Bool) (x y : W8) : (x.plus b y).lst = (x.lst.zip y.lst).map fun p => (p.1 + p.2) % 2 ^ bt b := rfl
theorem cw_ok (n : Nat) (b : Bool) (x : W8) (hx : x.Ok b) (RC SC : List Nat) (hl : RC.length < 1000) : callN S (n + 3) 15 [.str (kS b), .lst (bd RC), .lst (bd x.lst), .lst (bd SC)] = .ok (.lst (bd (x.plus b (rnds b (RC.zip SC) x)).lst)) := by
  rw [call_eq (F := f15) rfl rfl rfl rfl]
  unfold f15 t15
  have w := wbits n b
  have hB : bt b ≤ 64 := by cases b <;> decide
  have sh2 : shlOk 1 (bt b : Int) := shl_ok (a := 1) (by decide) (by omega) (by omega)
  obtain ⟨p1, p2, p3, hp⟩ := tn_ex b 1
  obtain ⟨q1, q2, q3, hq⟩ := tn_ex b 0
  have dg2 := dGetT b 1 (by decide)
  have dg3 := dGetT b 0 (by decide)
  rw [hp] at dg2
  rw [hq] at dg3
  have dg2 : dctGet [kS b, [115, 117, 109, 95, 111, 110, 101]] tnK tnV = some (.tup [.int p1, .int p2, .int p3]) := dg2
  have dg3 : dctGet [kS b, [115, 117, 109, 95, 122, 101, 114, 111]] tnK tnV = some (.tup [.int q1, .int q2, .int q3]) := dg3
  have dk2 := dOkT (kS b) [115, 117, 109, 95, 111, 110, 101]
  have dk3 := dOkT (kS b) [115, 117, 109, 95, 122, 101, 114, 111]
  obtain ⟨u21, u22, u23, u24, u25, q⟩ := cw_loop (S.base (callN S (n + 2))) b p1 p2 p3 q1 q2 q3 hp hq (.val (.str (kS b)) false) (.val (.lst (bd RC)) false) (.val (.lst (bd x.lst)) false) (.val (.lst (bd SC)) false) .emp .emp .emp (RC.zip SC) x .emp .emp .emp .emp .emp hx
  have zb := zip_bd RC SC
  rw [plus_lst]
  generalize rnds b (RC.zip SC) x = y at *
  have L : ∀ s0 s1 s2 s3 s4 s6 s7 s8 s9 s10 s11 s12 s13 s14 s15 s16 s17 s18 s19 s20 s21 s22 s23 s24 s25, lcRun (lcF (S.base (callN S (n + 2))) [26, 27] [26, 27] true .no (.bin .BitAnd (.bin .Add (.v 26) (.v 27)) (.v 5)) [s0, s1, s2, s3, s4, .val (.int (2 ^ bt b - 1)) false, s6, s7, s8, s9, s10, s11, s12, s13, s14, s15, s16, s17, s18, s19, s20, s21, s22, s23, s24, s25, .emp, .emp]) ((x.lst.zip y.lst).map fun p => D.tup [.int p.1, .int p.2]) =
      .ok (bd ((x.lst.zip y.lst).map fun p => (p.1 + p.2) % 2 ^ bt b)) := by
    intro s0 s1 s2 s3 s4 s6 s7 s8 s9 s10 s11 s12 s13 s14 s15 s16 s17 s18 s19 s20 s21 s22 s23 s24 s25
    have := lcRun_map (f := lcF (S.base (callN S (n + 2))) [26, 27] [26, 27] true .no (.bin .BitAnd (.bin .Add (.v 26) (.v 27)) (.v 5)) [s0, s1, s2, s3, s4, .val (.int (2 ^ bt b - 1)) false, s6, s7, s8, s9, s10, s11, s12, s13, s14, s15, s16, s17, s18, s19, s20, s21, s22, s23, s24, s25, .emp, .emp]) (g := fun d => match d with | .tup [.int i, .int j] => .int (((i.toNat + j.toNat) % 2 ^ bt b : Nat) : Int) | _ => .non) ((x.lst.zip y.lst).map fun p => D.tup [.int p.1, .int p.2]) (fun d hd => by
      obtain ⟨p, hp', rfl⟩ := List.mem_map.mp hd
      have am := and_mask (p.1 + p.2) (bt b)
      rw [Int.natCast_add] at am
      show _ = R.ok (some (D.int (((((p.1 : Nat) : Int).toNat + ((p.2 : Nat) : Int).toNat) % 2 ^ bt b : Nat) : Int)))
      rw [Int.toNat_natCast, Int.toNat_natCast]
      generalize bt b = B at *
      simp [-Int.natCast_emod, -Int.natCast_pow, lcF, optC, consO, am])
    rw [this]
    congr 1
  have zb2 := zip_bd x.lst y.lst
  have s8 : ((x.lst.zip y.lst).map fun p => D.tup [.int p.1, .int p.2]).length < SZ := by
    rw [List.length_map]
    have : (x.lst.zip y.lst).length = 8 := rfl
    rw [this]
    decide
  have ex : bd x.lst = [.int x.a, .int x.b, .int x.c, .int x.d, .int x.e, .int x.f, .int x.g, .int x.h] := rfl
  have ey : bd y.lst = [.int y.a, .int y.b, .int y.c, .int y.d, .int y.e, .int y.f, .int y.g, .int y.h] := rfl
  generalize hz : (x.lst.zip y.lst).map (fun p => D.tup [.int p.1, .int p.2]) = ZZ at *
  generalize (x.lst.zip y.lst).map (fun p => (p.1 + p.2) % 2 ^ bt b) = RR at *
  rw [ex] at zb2 q ⊢
  rw [ey] at zb2
  generalize kS b = K at *
  generalize bt b = B at *
  simp at zb2
  simp [e0, w, sh2, glT, dk2, dk3, dg2, dg3, zb, q, zb2, L, s8]
end Pg
namespace Ul
open PySem PySem.Spec PyProof.Rows L2 VE
def lit : Nat → Nat → List Nat
  | _, 0 => []
  | x, n + 1 => x % 256 :: lit (x / 256) n
theorem lit_len (n : Nat) : ∀ x, (lit x n).length = n := by
  induction n with
  | zero => intro x; rfl
  | succ n ih => intro x; simp [lit, ih]
theorem lit_byt (s : Nat) : ∀ x : Nat, byt (lit x s) := by
  induction s with
  | zero => intro x b h; cases h
  | succ s ih =>
    intro x b h
    rcases List.mem_cons.mp h with rfl | h
    · omega
    · exact ih _ b h
theorem val_lit (s : Nat) : ∀ x : Nat, x < 256 ^ s → val (lit x s).reverse = x := by
  induction s with
  | zero => intro x h1; simp at h1; simp [lit, val]; omega
  | succ s ih =>
    intro x h1
    rw [lit, List.reverse_cons, val_app, ih (x / 256) (by rw [Nat.pow_succ] at h1; omega)]
    omega
theorem lit_val : ∀ (l : List Nat), byt l → lit (val l.reverse) l.length = l
  | [], _ => rfl
  | b :: r, h => by
    have hb := h b (by simp)
    rw [List.reverse_cons, val_app, List.length_cons, lit, show (val r.reverse * 256 + b) % 256 = b by omega, show (val r.reverse * 256 + b) / 256 = val r.reverse by omega, lit_val r fun z hz => h z (by simp [hz])]
theorem it_lit (n : Nat) : ∀ (k x : Nat) (l : List Nat), itN (fun _ (p : Nat × List Nat) => (p.1 / 256, p.2 ++ [p.1 % 256])) k n (x, l) = (x / 256 ^ n, l ++ lit x n) := by
  induction n with
  | zero => intro k x l; simp [itN, lit]
  | succ n ih =>
    intro k x l
    show itN _ (k + 1) n (x / 256, l ++ [x % 256]) = _
    rw [ih]
    simp only [lit, List.append_assoc, List.singleton_append, Prod.mk.injEq, and_true]
    rw [Nat.div_div_eq_div_mul, Nat.pow_succ, Nat.mul_comm]
def tLit : T := (.seq (.iff [] (.or (.cmp .Lt (.v 1) (.ci 0)) (.cmp .Gt (.v 1) (.ci 4096))) (.seq (.rse 1) .pass) .pass) (.seq (.iff [] (.or (.cmp .Lt
    (.v 0) (.ci 0)) (.cmp .NotEq (.bin .RShift (.v 0) (.bin .Mult (.ci 8) (.v 1))) (.ci 0))) (.seq (.rse 1) .pass) .pass) (.seq (.asg 2 [] true (.lst
    .nil)) (.seq (.for_ [] [3] false (.rng1 (.v 1)) (.seq (.mut .lappend 2 [] (.cons (.bin .BitAnd (.v 0) (.ci 255)) .nil)) (.seq (.asg 0 [] false
    (.bin .RShift (.v 0) (.ci 8))) .pass))) (.seq (.ret false [2] (.v 2)) .pass)))))
theorem little_g {S : Prg} {f : Nat} {nm gm x0 x1 x2 x3 p0 p1 : Str} {tp : Stmt} (hf : S.fs[f]? = some ⟨nm, gm, tp, [x0, x1, x2, x3], [p0, p1], 2, [], false, tLit, none⟩) (n x s : Nat) (hs : s ≤ 4096) (h1 : x < 256 ^ s) : callN S (n + 1) f [.int x, .int s] = .ok (.lst (bd (lit x s))) := by
  rw [call_eq hf rfl rfl rfl]
  unfold tLit
  have e1 : ¬ (4096 < (s : Int)) := by omega
  have e3 : mulOk 8 (s : Int) := mul_ok (a := 4) (b := 13) (by decide) (by simp; omega) (by decide)
  have e4 : (x : Int) / 2 ^ (8 * (s : Int)).toNat = 0 := by
    have : (8 * (s : Int)).toNat = 8 * s := by omega
    rw [this, Int.pow_mul]
    refine Int.ediv_eq_zero_of_lt (by omega) ?_
    have : ((2 : Int) ^ 8) ^ s = ((256 ^ s : Nat) : Int) := by rw [Int.natCast_pow]; rfl
    omega
  have e5 : VE.inR (s : Int) := inR_of (by omega) (by omega)
  have e6 : 0 ≤ 8 * (s : Int) := by omega
  have e7 : ¬ ((s : Int) < 0) := by omega
  have e8 : ¬ ((x : Int) < 0) := by omega
  obtain ⟨s1, q, _⟩ := forL_rng (forB (S.base (callN S n)) [3] false (.seq (.mut .lappend 2 [] (.cons (.bin .BitAnd (.v 0) (.ci 255)) .nil)) (.seq (.asg 0 [] false (.bin .RShift (.v 0) (.ci 8))) .pass)))
    (fun _ (p : Nat × List Nat) => (p.1 / 256, p.2 ++ [p.1 % 256])) (fun p sl => [.val (.int p.1) false, .val (.int s) false, .val (.lst (bd p.2)) true, sl]) (fun i p => p.2.length = i) s (x, []) .emp rfl (fun i p sl hi hp => by
      obtain ⟨p1, p2⟩ := p
      have hz : (bd p2).length < SZ := by have : SZ = 16777216 := rfl; rw [bd_len]; simp at hp; omega
      refine ⟨?_, by simp at hp ⊢; exact hp⟩
      have e := bd_app p2 (p1 % 256)
      simp only at e ⊢
      rw [← e]
      simp [forB, hz, and255])
  rw [it_lit] at q
  have q : forL _ _ [.val (.int x) false, _, .val (.lst []) true, _] = Out.nx [_, _, .val (.lst (bd (lit x s))) true, _] := q
  simp [e0, e1, e3, e4, e5, e6, e7, e8, q, clrE_one]
theorem big_w {S : Prg} {f g : Nat} {nm gm x0 x1 x2 x3 p0 p1 nm' y0 y1 z0 z1 : Str} {tp tp' : Stmt} (hf : S.fs[f]? = some ⟨nm, gm, tp, [x0, x1, x2, x3], [p0, p1], 2, [], false, tLit, none⟩) (hg : S.fs[g]? = some ⟨nm', gm', tp', [y0, y1], [z0, z1], 2, [], false, (.seq (.ret false [] (.lrev (.call f (.cons (.v 0) (.cons (.v 1) .nil))))) .pass), none⟩) (n x s : Nat) (hs : s ≤ 4096) (h1 : x < 256 ^ s) :
    callN S (n + 2) g [.int x, .int s] = .ok (.lst (bd (lit x s).reverse)) := by
  rw [call_eq hg rfl rfl rfl]
  have e : (bd (lit x s)).reverse = bd (lit x s).reverse := by simp [bd]
  simp [e0, little_g hf n x s hs h1, e]
end Ul
namespace Uh
open PySem PySem.Spec VE Ul
abbrev bz (b : Bool) : Nat := 2 * bs b
noncomputable def blks (b : Bool) : Nat → List Nat → W8 → W8
  | 0, _, x => x
  | n + 1, m, x => blks b n (m.drop (bz b)) (cmpN b x (m.take (bz b)))
noncomputable def st8 (b : Bool) : W8 := ⟨(swN b).getD 0 0, (swN b).getD 1 0, (swN b).getD 2 0, (swN b).getD 3 0, (swN b).getD 4 0, (swN b).getD 5 0, (swN b).getD 6 0, (swN b).getD 7 0⟩
def bg (x s : Nat) : List Nat := (lit x s).reverse
def zer (b : Bool) (L : Nat) : Nat := (bz b * (L + 1 + bs b / 4) - (L + 1 + bs b / 4)) % bz b
def padN (b : Bool) (L : Nat) : List Nat := 128 :: (List.replicate (zer b L) 0 ++ bg (8 * L) (bs b / 4))
noncomputable def outN (b : Bool) (x : W8) : List Nat := x.lst.flatMap fun w => bg w (bs b / 8)
noncomputable def wds (b : Bool) (m : List Nat) : W8 := blks b (m.length / bz b) m (st8 b)
def rst (b : Bool) (m : List Nat) : List Nat := m.drop (m.length / bz b * bz b)
noncomputable def dgN (b : Bool) (m : List Nat) : List Nat := outN b (wds b (m ++ padN b m.length))
theorem bg_len (x s : Nat) : (bg x s).length = s := by unfold bg; rw [List.length_reverse, lit_len]
theorem bg_byt (x s : Nat) : byt (bg x s) := fun b h => lit_byt s x b (List.mem_reverse.mp h)
theorem bz_pos (b : Bool) : 0 < bz b := by cases b <;> decide
theorem blks_add (b : Bool) : ∀ (n k : Nat) (m : List Nat) (x : W8), blks b (n + k) m x = blks b k (m.drop (n * bz b)) (blks b n m x)
  | 0, k, m, x => by rw [Nat.zero_add, Nat.zero_mul, List.drop_zero]; rfl
  | n + 1, k, m, x => by
    rw [show n + 1 + k = n + k + 1 by omega]
    show blks b (n + k) (m.drop (bz b)) (cmpN b x (m.take (bz b))) = blks b k (m.drop ((n + 1) * bz b)) (blks b n (m.drop (bz b)) (cmpN b x (m.take (bz b))))
    rw [blks_add b n k, List.drop_drop, Nat.succ_mul, Nat.add_comm (n * bz b)]
theorem blks_app (b : Bool) : ∀ (n : Nat) (m d : List Nat) (x : W8), n * bz b ≤ m.length → blks b n (m ++ d) x = blks b n m x
  | 0, _, _, _, _ => rfl
  | n + 1, m, d, x, h => by
    have h1 : bz b ≤ m.length := by
      have : bz b ≤ (n + 1) * bz b := Nat.le_mul_of_pos_left _ (by omega)
      omega
    show blks b n ((m ++ d).drop (bz b)) (cmpN b x ((m ++ d).take (bz b))) = blks b n (m.drop (bz b)) (cmpN b x (m.take (bz b)))
    rw [List.drop_append_of_le_length h1, List.take_append_of_le_length h1]
    exact blks_app b n (m.drop (bz b)) d _ (by
      rw [List.length_drop]
      rw [Nat.succ_mul] at h
      omega)
theorem rst_len (b : Bool) (m : List Nat) : (rst b m).length = m.length % bz b := by
  unfold rst
  rw [List.length_drop]
  have := Nat.div_add_mod m.length (bz b)
  rw [Nat.mul_comm] at this
  omega
theorem wds_app (b : Bool) (m d : List Nat) : wds b (m ++ d) = blks b ((rst b m ++ d).length / bz b) (rst b m ++ d) (wds b m) ∧ rst b (m ++ d) = (rst b m ++ d).drop ((rst b m ++ d).length / bz b * bz b) := by
  have h0 := bz_pos b
  have hq : m.length / bz b * bz b ≤ m.length := Nat.div_mul_le_self _ _
  have e1 : (m ++ d).length / bz b = m.length / bz b + (rst b m ++ d).length / bz b := by
    rw [List.length_append, List.length_append, rst_len]
    have h := Nat.div_add_mod m.length (bz b)
    have : m.length + d.length = bz b * (m.length / bz b) + (m.length % bz b + d.length) := by omega
    rw [this, Nat.mul_add_div h0]
  have e2 : (m ++ d).drop (m.length / bz b * bz b) = rst b m ++ d := by
    unfold rst
    rw [List.drop_append_of_le_length hq]
  constructor
  · unfold wds
    rw [e1, blks_add, e2, blks_app b _ m d _ hq]
  · show (m ++ d).drop ((m ++ d).length / bz b * bz b) = _
    rw [e1, Nat.add_mul, ← List.drop_drop, e2]
theorem pad_len (b : Bool) (L : Nat) : (L + (padN b L).length) % bz b = 0 := by
  unfold padN
  rw [List.length_cons, List.length_append, List.length_replicate, bg_len]
  unfold zer
  have h0 := bz_pos b
  generalize hN : L + 1 + bs b / 4 = N
  have hz : (bz b * N - N) % bz b = (bz b - 1) * N % bz b := by
    congr 1
    rw [Nat.sub_mul, Nat.one_mul]
  have key : ((bz b * N - N) % bz b + N) % bz b = 0 := by
    rw [Nat.mod_add_mod, Nat.sub_add_cancel (Nat.le_mul_of_pos_left _ h0)]
    exact Nat.mul_mod_right _ _
  rw [show L + ((bz b * N - N) % bz b + bs b / 4 + 1) = (bz b * N - N) % bz b + N by omega]
  exact key
theorem dgN_eq (b : Bool) (m : List Nat) : dgN b m = outN b (blks b ((rst b m ++ padN b m.length).length / bz b) (rst b m ++ padN b m.length) (wds b m)) := by
  unfold dgN
  rw [(wds_app b m (padN b m.length)).1]
theorem out_len (b : Bool) (x : W8) : (outN b x).length = bs b := by
  unfold outN W8.lst
  simp [bg_len]
  cases b <;> rfl
theorem dg_len (b : Bool) (m : List Nat) : (dgN b m).length = bs b := out_len b _
theorem out_byt (b : Bool) (x : W8) : byt (outN b x) := fun y h => by
  unfold outN at h
  obtain ⟨w, _, hw⟩ := List.mem_flatMap.mp h
  exact bg_byt _ _ y hw
theorem dg_byt (b : Bool) (m : List Nat) : byt (dgN b m) := out_byt b _
theorem pad_byt (b : Bool) (L : Nat) : byt (padN b L) := fun y h => by
  unfold padN at h
  rcases List.mem_cons.mp h with rfl | h
  · decide
  · rcases List.mem_append.mp h with h | h
    · rw [(List.mem_replicate.mp h).2]; decide
    · exact bg_byt _ _ y h
theorem blks_ok (b : Bool) : ∀ (n : Nat) (m : List Nat) (x : W8), x.Ok b → (blks b n m x).Ok b
  | 0, _, _, h => h
  | n + 1, m, x, h => blks_ok b n _ _ (plus_ok b x _)
theorem sw_lst (b : Bool) : (st8 b).lst = swN b := by
  have h : ∀ l : List Nat, l.length = 8 → [l.getD 0 0, l.getD 1 0, l.getD 2 0, l.getD 3 0, l.getD 4 0, l.getD 5 0, l.getD 6 0, l.getD 7 0] = l := by
    intro l hl
    match l, hl with
    | [a0, a1, a2, a3, a4, a5, a6, a7], _ => rfl
  exact h (swN b) (by cases b <;> (unfold swN; rw [List.length_map]; rfl))
theorem st8_ok (b : Bool) : (st8 b).Ok b := by
  have h : ∀ k, (swN b).getD k 0 < 2 ^ bs b := by
    intro k
    rw [List.getD_eq_getElem?_getD]
    cases e : (swN b)[k]? with
    | none => exact p2 _
    | some w =>
      have hm := List.mem_of_getElem? e
      unfold swN at hm
      obtain ⟨p, _, rfl⟩ := List.mem_map.mp hm
      exact Nat.mod_lt _ (p2 _)
  exact ⟨h 0, h 1, h 2, h 3, h 4, h 5, h 6, h 7⟩
theorem wds_ok (b : Bool) (m : List Nat) : (wds b m).Ok b := blks_ok b _ _ _ (st8_ok b)
theorem rst_byt {b : Bool} {m : List Nat} (h : byt m) : byt (rst b m) := fun y hy => h y (List.mem_of_mem_drop hy)
end Uh
set_option linter.all false
set_option maxHeartbeats 0
set_option maxRecDepth 100000
set_option exponentiation.threshold 700
namespace Pg
open PySem PySem.Spec PyProof.Rows L2 VE Ul Uh
noncomputable def dgO (b : Bool) (m : List Nat) (r : Bool) : D := .obj 3 [0, 1, 2, 3, 4] [.str (kS b), .lst (bd (wds b m).lst), .lst (bd (rst b m)), .int (m.length : Nat), .lst (bd (if r then rcN b else []))]
theorem kC0 : (3, 0) ∈ S.fk := by decide
theorem kC1 : (3, 1) ∈ S.fk := by decide
theorem kC2 : (3, 2) ∈ S.fk := by decide
theorem kC3 : (3, 3) ∈ S.fk := by decide
theorem kC4 : (3, 4) ∈ S.fk := by decide
theorem gML : Option.map (fun x => x.snd) S.glo[3]? = some (D.int 1048576) := (rfl)
theorem mt_ready : S.ms.lookup (3, 0) = some (39, true) := rfl
theorem mt_add : S.ms.lookup (3, 1) = some (40, true) := rfl
theorem mt_told : S.ms.lookup (3, 2) = some (41, true) := rfl
theorem cs_dg : S.cs.lookup 3 = some 38 := rfl
theorem wds_nil (b : Bool) : wds b [] = st8 b := by unfold wds; simp [blks]
theorem rst_nil (b : Bool) : rst b [] = [] := by unfold rst; simp
theorem dinit_ok (n : Nat) (b : Bool) : callN S (n + 4) 38 [.obj 3 [] [], .str (kS b)] = .ok (.tup [.non, dgO b [] false]) := by
  rw [callM_eq (F := f38) rfl rfl rfl rfl]
  unfold f38 t38 dgO
  have s := sw_ok n b
  rw [wds_nil, sw_lst, rst_nil]
  have k0 := kC0
  have k1 := kC1
  have k2 := kC2
  have k3 := kC3
  have k4 := kC4
  generalize kS b = K at *
  generalize bd (swN b) = W at *
  simp [e0M, s, k0, k1, k2, k3, k4, bd]
theorem mk_dg (n : Nat) (b : Bool) (e : Ev) (w : Bool) (a : T) (h : evL (S.base (callN S (n + 4))) false a e = .ok [.str (kS b)]) : evX (S.base (callN S (n + 4))) w (.mk 3 a) e = .ok (dgO b [] false) := by
  have i := dinit_ok n b
  have c := cs_dg
  simp [h, c, i]
theorem rng_z {k z : Nat} (hz : 0 < z) : (Builtin.Range.rangeSize 0 ((k * z : Nat) : Int) (z : Int)).toNat = k := by
  unfold Builtin.Range.rangeSize
  rw [if_pos (by omega)]
  by_cases hk : k = 0
  · subst hk
    simp
  · have h1 : (0 : Int) < ((k * z : Nat) : Int) := by
      have : 0 < k * z := Nat.mul_pos (by omega) hz
      omega
    rw [if_pos h1]
    have h2 : (((k * z : Nat) : Int) - 0 - 1) = ((k * z - 1 : Nat) : Int) := by omega
    rw [h2, ← Int.natCast_ediv]
    have h3 : (k * z - 1) / z = k - 1 := by
      obtain ⟨j, rfl⟩ : ∃ j, k = j + 1 := ⟨k - 1, by omega⟩
      rw [Nat.succ_mul, Nat.div_eq_of_lt_le (k := j)]
      · rfl
      · omega
      · rw [Nat.succ_mul]; omega
    rw [h3]
    omega
theorem rng_small {k z : Nat} (hz : 0 < z) (h : k * z ≤ 4000000) (hz2 : z ≤ 1000) : Builtin.Range.small 0 ((k * z : Nat) : Int) (z : Int) = true := by
  have hr : (Builtin.Range.rangeSize 0 ((k * z : Nat) : Int) (z : Int)) = (k : Nat) := by
    have h0 := rng_z (k := k) hz
    have hp : 0 ≤ Builtin.Range.rangeSize 0 ((k * z : Nat) : Int) (z : Int) := by
      unfold Builtin.Range.rangeSize
      rw [if_pos (by omega)]
      split
      · have : 0 ≤ (((k * z : Nat) : Int) - 0 - 1) / (z : Int) := Int.ediv_nonneg (by omega) (by omega)
        omega
      · omega
    omega
  have hk : k ≤ 4000000 := Nat.le_trans (Nat.le_mul_of_pos_right k hz) h
  unfold Builtin.Range.small
  rw [hr]
  have hz' : (z : Int) > 0 := by omega
  rw [if_pos hz']
  simp only [Builtin.Range.rangeFitsLong, Bool.and_eq_true, Bool.or_eq_true, decide_eq_true_eq, beq_iff_eq]
  generalize k * z = P at *
  omega
theorem zer_i (b : Bool) (L : Nat) : (-(L : Int) - 1 - ((bt b / 4 : Nat) : Int)).fmod (2 * (bt b : Int)) = (zer b L : Nat) := by
  unfold zer
  have h0 := bz_pos b
  rw [show (2 : Int) * (bt b : Int) = ((bz b : Nat) : Int) by show (2 : Int) * (bt b : Int) = ((2 * bt b : Nat) : Int); omega]
  have hN : -(L : Int) - 1 - ((bt b / 4 : Nat) : Int) = ((bz b * (L + 1 + bs b / 4) - (L + 1 + bs b / 4) : Nat) : Int) + ((bz b : Nat) : Int) * (-((L + 1 + bs b / 4 : Nat) : Int)) := by
    have h1 : L + 1 + bs b / 4 ≤ bz b * (L + 1 + bs b / 4) := Nat.le_mul_of_pos_left _ h0
    rw [Int.ofNat_sub h1, Int.mul_neg, Int.natCast_mul]
    show -(L : Int) - 1 - ((bs b / 4 : Nat) : Int) = _
    rw [Int.natCast_add, Int.natCast_add]
    generalize (bz b : Int) * ((L : Int) + (1 : Nat) + ((bs b / 4 : Nat) : Int)) = X
    omega
  rw [hN, Int.fmod_eq_emod_of_nonneg _ (by omega), Int.add_mul_emod_self_left]
  rfl
theorem to_big_ok (n x s : Nat) (hs : s ≤ 4096) (h : x < 256 ^ s) : callN S (n + 2) 2 [.int x, .int s] = .ok (.lst (bd (bg x s))) := by
  rw [call_eq (F := f2) rfl rfl rfl rfl]
  unfold f2 t2
  have e : (bd (lit x s)).reverse = bd (lit x s).reverse := by simp [bd]
  have l := little_g (S := S) (f := 1) rfl n x s hs h
  have g : bg x s = (lit x s).reverse := rfl
  rw [g, ← e]
  simp [e0, l, evF]
theorem pad_ok (n : Nat) (b : Bool) (L : Nat) (hL : L ≤ 1048576) : callN S (n + 3) 16 [.str (kS b), .int L] = .ok (.lst (bd (padN b L))) := by
  rw [call_eq (F := f16) rfl rfl rfl rfl]
  unfold f16 t16
  have c := check_ok (n + 1) b
  have l := lsize n b
  have z := bsize n b
  have m := zer_i b L
  have hz : zer b L < 128 := Nat.lt_of_lt_of_le (Nat.mod_lt _ (bz_pos b)) (by cases b <;> decide)
  have tb := to_big_ok n (8 * L) (bt b / 4) (by cases b <;> decide) (by
    have h1 : 256 ^ 8 ≤ 256 ^ (bt b / 4) := Nat.pow_le_pow_right (by decide) (by cases b <;> decide)
    omega)
  rw [Int.natCast_mul] at tb
  have tb : callN S (n + 2) 2 [.int (8 * (L : Int)), .int (bt b / 4 : Nat)] = _ := tb
  have nz : ¬ (2 * (bt b : Int)) = 0 := by cases b <;> decide
  have nz2 : ¬ bt b = 0 := by cases b <;> decide
  have n1 : ¬ ((L : Int) < 0) := by omega
  have n2 : ¬ ((1048576 : Int) < (L : Int)) := by omega
  have ro : repOk 1 ((zer b L : Nat) : Int) := by have : SZ = 16777216 := rfl; unfold repOk; omega
  have m8 : mulOk 8 (L : Int) := mul_ok (a := 4) (b := 22) (by decide) (by rw [Int.natAbs_natCast]; omega) (by decide)
  have gl := gML
  have e1 : (List.replicate (zer b L) [D.int 0]).flatten = bd (List.replicate (zer b L) 0) := by simp [bd]
  have e2 : D.int 128 :: (bd (List.replicate (zer b L) 0) ++ bd (bg (8 * L) (bt b / 4))) = bd (padN b L) := by simp [bd, padN]
  have zl : (bd (bg (8 * L) (bt b / 4))).length = bt b / 4 := by rw [bd_len, bg_len]
  have hb4 : bt b / 4 ≤ 16 := by cases b <;> decide
  have s1 : 1 + (bd (List.replicate (zer b L) 0)).length ≤ SZ := by have : SZ = 16777216 := rfl; rw [bd_len, List.length_replicate]; omega
  have s2 : (bd (List.replicate (zer b L) 0)).length + 1 + bt b / 4 ≤ SZ := by have : SZ = 16777216 := rfl; rw [bd_len, List.length_replicate]; omega
  rw [← e2]
  generalize zer b L = Z at *
  generalize bd (List.replicate Z 0) = ZZ at *
  generalize bd (bg (8 * L) (bt b / 4)) = X at *
  generalize bt b / 4 = B4 at *
  generalize kS b = K at *
  generalize bt b = B at *
  simp [-List.flatten_replicate_singleton, e0, c, n1, n2, gl, l, z, nz2, m, ro, m8, tb, e1, zl, s1, s2]
def dgP (b : Bool) (x : List D) (rest : List D) (L : Nat) (cs : List D) : D := .obj 3 [0, 1, 2, 3, 4] [.str (kS b), .lst x, .lst rest, .int L, .lst cs]
theorem dgO_P (b : Bool) (m : List Nat) (r : Bool) : dgO b m r = dgP b (bd (wds b m).lst) (bd (rst b m)) m.length (bd (if r then rcN b else [])) := rfl
theorem ready_P (n : Nat) (b : Bool) (x rest : List D) (L : Nat) (r : Bool) : callN S (n + 3) 39 [dgP b x rest L (bd (if r then rcN b else []))] = .ok (.tup [.non, dgP b x rest L (bd (rcN b))]) := by
  rw [callM_eq (F := f39) rfl rfl rfl rfl]
  unfold f39 t39 dgP
  have c := rc_ok n b
  have k0 := kC0
  have k4 := kC4
  have e1 : dEq (.lst []) (.lst []) = .ok true := rfl
  have e2 : dEq (.lst (bd (rcN b))) (.lst []) = .ok false := by
    have h : (rcN b).length = rnd b := rcN_len b
    have e : bd (rcN b) = (rcN b |>.map fun (x : Nat) => (x : Int)).map D.int := by simp [bd]
    rw [e, show ([] : List D) = ([] : List Int).map D.int from rfl, dEq_ints]
    congr 1
    have : rcN b ≠ [] := fun z => by rw [z] at h; cases b <;> cases h
    simp [this]
  generalize kS b = K at *
  cases r
  · simp only [Bool.false_eq_true, if_false, if_true, show bd [] = [] from rfl]
    generalize bd (rcN b) = RC at *
    simp [e0M, k0, k4, e1, c]
  · simp only [if_true]
    generalize bd (rcN b) = RC at *
    simp [e0M, k0, k4, e2, c]
theorem objC_P (b : Bool) (x rest : List D) (L : Nat) (cs : List D) : objC (dgP b x rest L cs) = .ok 3 := rfl
theorem ownO_P (b : Bool) (x rest : List D) (L : Nat) (cs : List D) : slO (.val (dgP b x rest L cs) true) = .ok (dgP b x rest L cs) := rfl
theorem rngL_step (lo z : Int) (n : Nat) : rngL lo z (n + 1) = .int lo :: rngL (lo + z) z n := by
  unfold rngL
  rw [List.range_succ_eq_map, List.map_cons, List.map_map]
  congr 1
  · simp
  · apply List.map_congr_left
    intro i _
    simp only [Function.comp]
    congr 1
    push_cast
    rw [Int.add_mul, Int.one_mul]
    omega
theorem add_body (n : Nat) (b : Bool) (x : W8) (hx : x.Ok b) (rest : List D) (L : Nat) (W : List Nat) (hb : byt W) (a : Nat) (ha : a + bz b ≤ W.length) (s1 s4 s5 s6 : Sl) : ∃ u6, (forB (S.base (callN S (n + 3))) [5] false (.seq (.asg 6 [] false (.call 14 (.cons (.fld 0 (.v 0)) (.cons (.sl (.v 3) (.v 5) (.bin .Add (.v 5) (.v 2))) .nil)))) (.seq (.sfld 0 1 [] (.call 15 (.cons (.fld 0 (.v 0)) (.cons (.fld 4 (.v 0)) (.cons (.fld 1 (.v 0)) (.cons (.v 6) .nil)))))) .pass))) (.int a) [.val (dgP b (bd x.lst) rest L (bd (rcN b))) true, s1, .val (.int (bz b : Nat)) false, .val (.lst (bd W)) false, s4, s5, s6] =
    .nx [.val (dgP b (bd (cmpN b x ((W.drop a).take (bz b))).lst) rest L (bd (rcN b))) true, s1, .val (.int (bz b : Nat)) false, .val (.lst (bd W)) false, s4, .val (.int a) false, u6] := by
  have cu := cut_bd W a (a + bz b)
  have es : sli W a (a + bz b) = (W.drop a).take (bz b) := by
    unfold sli
    rw [List.drop_take, Nat.add_sub_cancel_left]
  rw [es, Int.natCast_add] at cu
  have hl : ((W.drop a).take (bz b)).length = 2 * bt b := by
    rw [List.length_take, List.length_drop]
    show min (2 * bt b) _ = _
    have : a + 2 * bt b ≤ W.length := ha
    omega
  have s := sch_ok n b ((W.drop a).take (bz b)) hl (byt_sub hb _ _)
  have c := cw_ok n b x hx (rcN b) (schN b ((W.drop a).take (bz b))) (by rw [rcN_len]; cases b <;> decide)
  have e : cmpN b x ((W.drop a).take (bz b)) = x.plus b (rnds b ((rcN b).zip (schN b ((W.drop a).take (bz b)))) x) := rfl
  rw [← e] at c
  refine ⟨.val (.lst (bd (schN b ((W.drop a).take (bz b))))) false, ?_⟩
  have k0 := kC0
  have k1 := kC1
  have k4 := kC4
  have o1 : isNo (.v 5) = false := rfl
  have o2 : isNo (.bin .Add (.v 5) (.v 2)) = false := rfl
  unfold dgP
  generalize bd (cmpN b x ((W.drop a).take (bz b))).lst = Y at *
  generalize bd (schN b ((W.drop a).take (bz b))) = SC at *
  generalize bd ((W.drop a).take (bz b)) = Wa at *
  generalize bd x.lst = X at *
  generalize bd (rcN b) = RC at *
  generalize bz b = z at *
  generalize kS b = K at *
  unfold forB
  simp [k0, k1, k4, optI_ok (.v 5) o1, optI_ok (.bin .Add (.v 5) (.v 2)) o2, cu, s, c]
theorem add_loop (n : Nat) (b : Bool) (rest : List D) (L : Nat) (W : List Nat) (hb : byt W) (s1 s4 : Sl) : ∀ (k a : Nat) (x : W8) (s5 s6 : Sl), x.Ok b → a + k * bz b ≤ W.length → ∃ u5 u6, forL (forB (S.base (callN S (n + 3))) [5] false (.seq (.asg 6 [] false (.call 14 (.cons (.fld 0 (.v 0)) (.cons (.sl (.v 3) (.v 5) (.bin .Add (.v 5) (.v 2))) .nil)))) (.seq (.sfld 0 1 [] (.call 15 (.cons (.fld 0 (.v 0)) (.cons (.fld 4 (.v 0)) (.cons (.fld 1 (.v 0)) (.cons (.v 6) .nil)))))) .pass))) (rngL (a : Nat) (bz b : Nat) k) [.val (dgP b (bd x.lst) rest L (bd (rcN b))) true, s1, .val (.int (bz b : Nat)) false, .val (.lst (bd W)) false, s4, s5, s6] =
    .nx [.val (dgP b (bd (blks b k (W.drop a) x).lst) rest L (bd (rcN b))) true, s1, .val (.int (bz b : Nat)) false, .val (.lst (bd W)) false, s4, u5, u6]
  | 0, a, x, s5, s6, _, _ => ⟨s5, s6, rfl⟩
  | k + 1, a, x, s5, s6, hx, ha => by
    rw [Nat.succ_mul] at ha
    obtain ⟨u6, q⟩ := add_body n b x hx rest L W hb a (by omega) s1 s4 s5 s6
    obtain ⟨v5, v6, ih⟩ := add_loop n b rest L W hb s1 s4 k (a + bz b) _ (.val (.int a) false) u6 (plus_ok b x _ : (cmpN b x ((W.drop a).take (bz b))).Ok b) (by omega)
    refine ⟨v5, v6, ?_⟩
    rw [rngL_step, forL_cons, q]
    show forL _ _ _ = Out.nx [.val (dgP b (bd (blks b k ((W.drop a).drop (bz b)) (cmpN b x ((W.drop a).take (bz b)))).lst) _ _ _) true, _, _, _, _, _, _]
    rw [List.drop_drop, ← Int.natCast_add]
    exact ih
theorem dAug_ii (i j : Int) : dAug .Add (.int i) (.int j) = .ok (.int (i + j)) := rfl
theorem dadd_ok (n : Nat) (b : Bool) (m d : List Nat) (r : Bool) (hm : byt m) (hd : byt d) (hl : m.length + d.length ≤ 1048576) : ∃ r', callN S (n + 4) 40 [dgO b m r, .lst (bd d)] = .ok (.tup [.non, dgO b (m ++ d) r']) := by
  rw [callM_eq (F := f40) rfl rfl rfl rfl]
  unfold f40 t40
  have zz := bsize (n + 1) b
  have zz : callN S (n + 3) 7 [.str (kS b)] = .ok (.int (bz b : Nat)) := by
    rw [show ((bz b : Nat) : Int) = 2 * (bt b : Int) by show ((2 * bt b : Nat) : Int) = _; omega]
    exact zz
  have hz := bz_pos b
  have hz2 : bz b ≤ 128 := by cases b <;> decide
  obtain ⟨w1, w2⟩ := wds_app b m d
  have hrl : (rst b m).length < 128 := by
    rw [rst_len]
    exact Nat.lt_of_lt_of_le (Nat.mod_lt _ hz) hz2
  generalize hW : rst b m ++ d = W at *
  have hWb : byt W := by
    rw [← hW]
    intro y hy
    rcases List.mem_append.mp hy with hy | hy
    · exact rst_byt hm y hy
    · exact hd y hy
  have hWl : W.length = (rst b m).length + d.length := by rw [← hW, List.length_append]
  generalize hk : W.length / bz b = k at *
  have hkz : k * bz b ≤ W.length := by rw [← hk]; exact Nat.div_mul_le_self _ _
  refine ⟨r || decide (0 < k), ?_⟩
  have n1 : ¬ ((1048576 : Int) < (m.length : Int) + (d.length : Int)) := by omega
  have gl := gML
  have k0 := kC0
  have k1 := kC1
  have k2 := kC2
  have k3 := kC3
  have k4 := kC4
  have eW : bd (rst b m) ++ bd d = bd W := by rw [← hW]; simp [bd]
  have szW : (rst b m).length + d.length ≤ SZ := by have : SZ = 16777216 := rfl; omega
  have fd : (W.length : Int).fdiv (bz b : Nat) = (k : Nat) := by rw [fdN, hk]
  have mk : mulOk (k : Int) (bz b : Nat) := mul_ok (a := 30) (b := 8) (by
    rw [Int.natAbs_natCast]
    have : k ≤ k * bz b := Nat.le_mul_of_pos_right _ hz
    omega) (by rw [Int.natAbs_natCast]; omega) (by decide)
  have ri : VE.inR ((k * bz b : Nat) : Int) := inR_of (by omega) (by omega)
  have rz : VE.inR ((bz b : Nat) : Int) := inR_of (by omega) (by omega)
  have r0 : VE.inR 0 := inR_of (by decide) (by decide)
  have nz : ¬ bz b = 0 := by omega
  have nb : bz b < 1073741824 := by omega
  have rs1 := rng_z (k := k) hz
  have rs2 := rng_small (k := k) hz (by omega) (by omega)
  have cu := cut_bd_lo W (k * bz b)
  have o4 : isNo (.v 4) = false := rfl
  have rd := ready_P n b (bd (wds b m).lst) (bd (rst b m)) (m.length + d.length) r
  have mt := mt_ready
  have kc : k * bz b = 0 ↔ k = 0 := by
    constructor
    · intro h
      rcases Nat.mul_eq_zero.mp h with h | h
      · exact h
      · omega
    · intro h; rw [h, Nat.zero_mul]
  have fin : dgO b (m ++ d) (r || decide (0 < k)) = dgP b (bd (blks b k W (wds b m)).lst) (bd (W.drop (k * bz b))) (m.length + d.length) (bd (if (r || decide (0 < k)) then rcN b else [])) := by
    rw [dgO_P, w1, w2, List.length_append]
  rw [fin, dgO_P]
  have hlW : (bd W).length = W.length := bd_len W
  by_cases hk0 : k = 0
  · subst hk0
    have hx : (r || decide (0 < 0)) = r := by simp
    have rg : rngL 0 (bz b : Nat) (Builtin.Range.rangeSize 0 ((0 * bz b : Nat) : Int) (bz b : Nat)).toNat = [] := by rw [rs1]; rfl
    rw [hx]
    rw [Nat.zero_mul] at cu rg rs2 ⊢
    have bk : blks b 0 W (wds b m) = wds b m := rfl
    rw [bk]
    unfold dgP
    generalize bd (if r then rcN b else []) = CS at *
    generalize bd (wds b m).lst = X at *
    generalize bz b = ZB at *
    generalize kS b = K at *
    have cu : VE.cutD (bd W) (some 0) none = _ := cu
    have rs2 : Builtin.Range.small 0 0 (ZB : Int) = true := rs2
    have rg : rngL 0 (ZB : Int) (Builtin.Range.rangeSize 0 0 (ZB : Int)).toNat = [] := rg
    have mk0 : mulOk 0 (ZB : Int) := mk
    simp [mk0, e0M, gl, k0, k1, k2, k3, k4, n1, dAug_ii, zz, dBi, eW, szW, bd_len, fd, r0, rz, nz, nb, rs2, rg, optI_ok (.v 4) o4, cu]
  · have hk1 : 0 < k := by omega
    have hx : (r || decide (0 < k)) = true := by simp [hk1]
    rw [hx, if_pos rfl]
    have hp : 0 < ((k * bz b : Nat) : Int) := by
      have : 0 < k * bz b := Nat.mul_pos hk1 hz
      omega
    obtain ⟨u5, u6, q⟩ := add_loop n b (bd (rst b m)) (m.length + d.length) W hWb (.val (.lst (bd d)) false) (.val (.int (k * bz b : Nat)) false) k 0 (wds b m) .emp .emp (wds_ok b m) (by omega)
    rw [List.drop_zero] at q
    have rg : rngL 0 (bz b : Nat) (Builtin.Range.rangeSize 0 ((k * bz b : Nat) : Int) (bz b : Nat)).toNat = rngL 0 (bz b : Nat) k := by rw [rs1]
    have q : forL _ (rngL 0 (bz b : Nat) k) _ = _ := q
    have ek : (k : Int) * (bz b : Nat) = ((k * bz b : Nat) : Int) := (Int.natCast_mul k (bz b)).symm
    have eL : ((m.length + d.length : Nat) : Int) = (m.length : Int) + (d.length : Int) := by omega
    have hp3 : ¬ k * bz b = 0 := by
      have : 0 < k * bz b := Nat.mul_pos hk1 hz
      omega
    unfold dgP at *
    rw [eL] at q rd ⊢
    generalize bd (if r then rcN b else []) = CS at *
    generalize bd (blks b k W (wds b m)).lst = Y at *
    generalize bd (wds b m).lst = X at *
    generalize bd (rcN b) = RC at *
    generalize k * bz b = KZ at *
    generalize bz b = ZB at *
    generalize kS b = K at *
    simp [hp3, -Int.natCast_mul, e0M, gl, k0, k1, k2, k3, k4, n1, dAug_ii, zz, dBi, eW, szW, bd_len, fd, mk, ek, hp, mt, rd, r0, ri, rz, nz, nb, rs2, rg, q, optI_ok (.v 4) o4, cu]
end Pg
set_option linter.all false
set_option maxHeartbeats 0
set_option maxRecDepth 100000
set_option exponentiation.threshold 700
namespace Pg
open PySem PySem.Spec PyProof.Rows L2 VE Ul Uh
theorem told_body (n : Nat) (b : Bool) (x : W8) (hx : x.Ok b) (X0 rest : List D) (L : Nat) (W : List Nat) (hb : byt W) (a : Nat) (ha : a + bz b ≤ W.length) (s4 s5 s6 s7 : Sl) : ∃ u7, (forB (S.base (callN S (n + 3))) [4] false (.seq (.asg 7 [] false (.call 14 (.cons (.fld 0 (.v 0)) (.cons (.sl (.v 3) (.v 4) (.bin .Add (.v 4) (.v 1))) .nil)))) (.seq (.asg 2 [] false (.call 15 (.cons (.fld 0 (.v 0)) (.cons (.fld 4 (.v 0)) (.cons (.v 2) (.cons (.v 7) .nil)))))) .pass))) (.int a) [.val (dgP b X0 rest L (bd (rcN b))) true, .val (.int (bz b : Nat)) false, .val (.lst (bd x.lst)) false, .val (.lst (bd W)) false, s4, s5, s6, s7] =
    .nx [.val (dgP b X0 rest L (bd (rcN b))) true, .val (.int (bz b : Nat)) false, .val (.lst (bd (cmpN b x ((W.drop a).take (bz b))).lst)) false, .val (.lst (bd W)) false, .val (.int a) false, s5, s6, u7] := by
  have cu := cut_bd W a (a + bz b)
  have es : sli W a (a + bz b) = (W.drop a).take (bz b) := by
    unfold sli
    rw [List.drop_take, Nat.add_sub_cancel_left]
  rw [es, Int.natCast_add] at cu
  have hl : ((W.drop a).take (bz b)).length = 2 * bt b := by
    rw [List.length_take, List.length_drop]
    show min (2 * bt b) _ = _
    have : a + 2 * bt b ≤ W.length := ha
    omega
  have s := sch_ok n b ((W.drop a).take (bz b)) hl (byt_sub hb _ _)
  have c := cw_ok n b x hx (rcN b) (schN b ((W.drop a).take (bz b))) (by rw [rcN_len]; cases b <;> decide)
  have e : cmpN b x ((W.drop a).take (bz b)) = x.plus b (rnds b ((rcN b).zip (schN b ((W.drop a).take (bz b)))) x) := rfl
  rw [← e] at c
  refine ⟨.val (.lst (bd (schN b ((W.drop a).take (bz b))))) false, ?_⟩
  have k0 := kC0
  have k4 := kC4
  have o1 : isNo (.v 4) = false := rfl
  have o2 : isNo (.bin .Add (.v 4) (.v 1)) = false := rfl
  unfold dgP
  generalize bd (cmpN b x ((W.drop a).take (bz b))).lst = Y at *
  generalize bd (schN b ((W.drop a).take (bz b))) = SC at *
  generalize bd ((W.drop a).take (bz b)) = Wa at *
  generalize bd x.lst = X at *
  generalize bd (rcN b) = RC at *
  generalize bz b = z at *
  generalize kS b = K at *
  unfold forB
  simp [k0, k4, optI_ok (.v 4) o1, optI_ok (.bin .Add (.v 4) (.v 1)) o2, cu, s, c]
theorem told_loop (n : Nat) (b : Bool) (X0 rest : List D) (L : Nat) (W : List Nat) (hb : byt W) (s5 s6 : Sl) : ∀ (k a : Nat) (x : W8) (s4 s7 : Sl), x.Ok b → a + k * bz b ≤ W.length → ∃ u4 u7, forL (forB (S.base (callN S (n + 3))) [4] false (.seq (.asg 7 [] false (.call 14 (.cons (.fld 0 (.v 0)) (.cons (.sl (.v 3) (.v 4) (.bin .Add (.v 4) (.v 1))) .nil)))) (.seq (.asg 2 [] false (.call 15 (.cons (.fld 0 (.v 0)) (.cons (.fld 4 (.v 0)) (.cons (.v 2) (.cons (.v 7) .nil)))))) .pass))) (rngL (a : Nat) (bz b : Nat) k) [.val (dgP b X0 rest L (bd (rcN b))) true, .val (.int (bz b : Nat)) false, .val (.lst (bd x.lst)) false, .val (.lst (bd W)) false, s4, s5, s6, s7] =
    .nx [.val (dgP b X0 rest L (bd (rcN b))) true, .val (.int (bz b : Nat)) false, .val (.lst (bd (blks b k (W.drop a) x).lst)) false, .val (.lst (bd W)) false, u4, s5, s6, u7]
  | 0, a, x, s4, s7, _, _ => ⟨s4, s7, rfl⟩
  | k + 1, a, x, s4, s7, hx, ha => by
    rw [Nat.succ_mul] at ha
    obtain ⟨u7, q⟩ := told_body n b x hx X0 rest L W hb a (by omega) s4 s5 s6 s7
    obtain ⟨v4, v7, ih⟩ := told_loop n b X0 rest L W hb s5 s6 k (a + bz b) _ (.val (.int a) false) u7 (plus_ok b x _ : (cmpN b x ((W.drop a).take (bz b))).Ok b) (by omega)
    refine ⟨v4, v7, ?_⟩
    rw [rngL_step, forL_cons, q]
    show forL _ _ _ = Out.nx [_, _, .val (.lst (bd (blks b k ((W.drop a).drop (bz b)) (cmpN b x ((W.drop a).take (bz b)))).lst)) false, _, _, _, _, _]
    rw [List.drop_drop, ← Int.natCast_add]
    exact ih
theorem out_body (n : Nat) (b : Bool) (w : Nat) (hw : w < 2 ^ bt b) (o : List Nat) (ho : o.length ≤ 1000) (X0 rest : List D) (L : Nat) (cs : List D) (s1 s2 s3 s4 s6 s7 : Sl) : (forB (S.base (callN S (n + 3))) [6] false (.seq (.mut .lextend 5 [] (.cons (.call 2 (.cons (.v 6) (.cons (.bin .FloorDiv (.call 6 (.cons (.fld 0 (.v 0)) .nil)) (.ci 8)) .nil))) .nil)) .pass)) (.int w) [.val (dgP b X0 rest L cs) true, s1, s2, s3, s4, .val (.lst (bd o)) true, s6, s7] =
    .nx [.val (dgP b X0 rest L cs) true, s1, s2, s3, s4, .val (.lst (bd (o ++ bg w (bt b / 8)))) true, .val (.int w) false, s7] := by
  have wb := wbits (n + 1) b
  have e8 : ((8 : Nat) : Int) = 8 := rfl
  have p8 : bt b = 8 * (bt b / 8) := by cases b <;> rfl
  have hwk : w < 256 ^ (bt b / 8) := by
    rw [show (256 : Nat) = 2 ^ 8 by decide, ← Nat.pow_mul, ← p8]
    exact hw
  have h16 : bt b / 8 ≤ 16 := by cases b <;> decide
  have tb := to_big_ok (n + 1) w (bt b / 8) (by omega) hwk
  have fd : (bt b : Int).fdiv 8 = (bt b / 8 : Nat) := fdN (bt b) 8
  have ln : (bd o).length = o.length := bd_len o
  have ln2 : (bd (bg w (bt b / 8))).length = bt b / 8 := by rw [bd_len, bg_len]
  have sz : o.length + bt b / 8 ≤ SZ := by have : SZ = 16777216 := rfl; omega
  have e : bd o ++ bd (bg w (bt b / 8)) = bd (o ++ bg w (bt b / 8)) := by simp [bd]
  have k0 := kC0
  rw [← e]
  unfold dgP
  generalize bd (bg w (bt b / 8)) = WW at *
  generalize bd o = OO at *
  generalize bt b / 8 = K8 at *
  generalize kS b = K at *
  unfold forB
  simp [k0, wb, fd, tb, ln, ln2, sz]
theorem out_loop (n : Nat) (b : Bool) (X0 rest : List D) (L : Nat) (cs : List D) (s1 s2 s3 s4 s7 : Sl) : ∀ (ws : List Nat) (o : List Nat) (s6 : Sl), (∀ w ∈ ws, w < 2 ^ bt b) → o.length + ws.length * 8 ≤ 1000 → ∃ u6, forL (forB (S.base (callN S (n + 3))) [6] false (.seq (.mut .lextend 5 [] (.cons (.call 2 (.cons (.v 6) (.cons (.bin .FloorDiv (.call 6 (.cons (.fld 0 (.v 0)) .nil)) (.ci 8)) .nil))) .nil)) .pass)) (bd ws) [.val (dgP b X0 rest L cs) true, s1, s2, s3, s4, .val (.lst (bd o)) true, s6, s7] =
    .nx [.val (dgP b X0 rest L cs) true, s1, s2, s3, s4, .val (.lst (bd (o ++ ws.flatMap fun w => bg w (bt b / 8)))) true, u6, s7]
  | [], o, s6, _, _ => ⟨s6, by simp [bd, forL]⟩
  | w :: ws, o, s6, h, ho => by
    rw [List.length_cons] at ho
    have h8 : bt b / 8 ≤ 8 := by cases b <;> decide
    obtain ⟨v6, ih⟩ := out_loop n b X0 rest L cs s1 s2 s3 s4 s7 ws (o ++ bg w (bt b / 8)) (.val (.int w) false) (fun y hy => h y (.tail _ hy)) (by rw [List.length_append, bg_len]; omega)
    refine ⟨v6, ?_⟩
    rw [show bd (w :: ws) = .int w :: bd ws by rfl, forL_cons, out_body n b w (h w (.head _)) o (by omega)]
    rw [List.flatMap_cons, ← List.append_assoc]
    exact ih
theorem ok_lst {b : Bool} {x : W8} (h : x.Ok b) : ∀ w ∈ x.lst, w < 2 ^ bt b := by
  intro w hw
  obtain ⟨h0, h1, h2, h3, h4, h5, h6, h7⟩ := h
  have q : w = x.a ∨ w = x.b ∨ w = x.c ∨ w = x.d ∨ w = x.e ∨ w = x.f ∨ w = x.g ∨ w = x.h := by simpa [W8.lst] using hw
  rcases q with rfl | rfl | rfl | rfl | rfl | rfl | rfl | rfl <;> assumption
theorem told_ok (n : Nat) (b : Bool) (m : List Nat) (r : Bool) (hm : byt m) (hl : m.length ≤ 1048576) : callN S (n + 4) 41 [dgO b m r] = .ok (.tup [.lst (bd (dgN b m)), dgO b m true]) := by
  rw [callM_eq (F := f41) rfl rfl rfl rfl]
  unfold f41 t41
  have zz := bsize (n + 1) b
  have zz : callN S (n + 3) 7 [.str (kS b)] = .ok (.int (bz b : Nat)) := by
    rw [show ((bz b : Nat) : Int) = 2 * (bt b : Int) by show ((2 * bt b : Nat) : Int) = _; omega]
    exact zz
  have hz := bz_pos b
  have hz2 : bz b ≤ 128 := by cases b <;> decide
  have hrl : (rst b m).length < 128 := by
    rw [rst_len]
    exact Nat.lt_of_lt_of_le (Nat.mod_lt _ hz) hz2
  have pd := pad_ok n b m.length hl
  have e := dgN_eq b m
  have pl : (padN b m.length).length ≤ 300 := by
    unfold padN
    rw [List.length_cons, List.length_append, List.length_replicate, bg_len]
    have h1 : zer b m.length < 128 := Nat.lt_of_lt_of_le (Nat.mod_lt _ hz) hz2
    have h2 : bs b / 4 ≤ 16 := by cases b <;> decide
    omega
  have eW : bd (rst b m) ++ bd (padN b m.length) = bd (rst b m ++ padN b m.length) := by simp [bd]
  have hWl : (rst b m ++ padN b m.length).length = (rst b m).length + (padN b m.length).length := List.length_append
  have hWb : byt (rst b m ++ padN b m.length) := by
    intro y hy
    rcases List.mem_append.mp hy with hy | hy
    · exact rst_byt hm y hy
    · exact pad_byt b _ y hy
  have hmod : (rst b m ++ padN b m.length).length % bz b = 0 := by
    have h1 := pad_len b m.length
    rw [hWl, rst_len, Nat.mod_add_mod]
    exact h1
  have szW : (rst b m).length + (padN b m.length).length ≤ SZ := by have : SZ = 16777216 := rfl; omega
  generalize hWW : rst b m ++ padN b m.length = W at *
  generalize hk : W.length / bz b = k at *
  have hkz : k * bz b = W.length := by
    have := Nat.div_add_mod W.length (bz b)
    rw [hk, hmod, Nat.mul_comm] at this
    omega
  have rs1 := rng_z (k := k) hz
  have rs2 := rng_small (k := k) hz (by omega) (by omega)
  have rg : rngL 0 (bz b : Nat) (Builtin.Range.rangeSize 0 ((k * bz b : Nat) : Int) (bz b : Nat)).toNat = rngL 0 (bz b : Nat) k := by rw [rs1]
  rw [hkz] at rs2 rg
  have rd := ready_P n b (bd (wds b m).lst) (bd (rst b m)) m.length r
  have mt := mt_ready
  obtain ⟨u4, u7, q⟩ := told_loop n b (bd (wds b m).lst) (bd (rst b m)) m.length W hWb .emp .emp k 0 (wds b m) .emp .emp (wds_ok b m) (by omega)
  rw [List.drop_zero] at q
  obtain ⟨u6, q2⟩ := out_loop n b (bd (wds b m).lst) (bd (rst b m)) m.length (bd (rcN b)) (.val (.int (bz b : Nat)) false) (.val (.lst (bd (blks b k W (wds b m)).lst)) false) (.val (.lst (bd W)) false) u4 u7 (blks b k W (wds b m)).lst [] .emp (ok_lst (blks_ok b k W _ (wds_ok b m))) (by simp [W8.lst])
  have ed : dgN b m = [] ++ (blks b k W (wds b m)).lst.flatMap fun w => bg w (bt b / 8) := e
  rw [← ed] at q2
  have q : forL _ (rngL 0 (bz b : Nat) k) _ = _ := q
  have q2 : forL _ _ [_, _, _, _, _, .val (.lst []) true, _, _] = _ := q2
  have nz : ¬ bz b = 0 := by omega
  have nb : bz b < 1073741824 := by omega
  have ri : VE.inR ((W.length : Nat) : Int) := inR_of (by omega) (by omega)
  have rz : VE.inR ((bz b : Nat) : Int) := inR_of (by omega) (by omega)
  have r0 : VE.inR 0 := inR_of (by decide) (by decide)
  have k0 := kC0
  have k1 := kC1
  have k2 := kC2
  have k3 := kC3
  have lnr : (bd (rst b m)).length = (rst b m).length := bd_len _
  have lnp : (bd (padN b m.length)).length = (padN b m.length).length := bd_len _
  have lnW : (bd W).length = W.length := bd_len _
  rw [dgO_P, dgO_P, if_pos rfl]
  unfold dgP at *
  generalize bd (dgN b m) = DG at *
  generalize bd (if r then rcN b else []) = CS at *
  generalize bd (blks b k W (wds b m)).lst = Y at *
  generalize bd (wds b m).lst = X at *
  generalize bd (rst b m) = RS at *
  generalize bd (padN b m.length) = PD at *
  generalize bd (rcN b) = RC at *
  generalize bd W = WD at *
  generalize bz b = ZB at *
  generalize kS b = K at *
  simp [-Int.natCast_mul, e0M, k0, k1, k2, k3, zz, pd, dBi, eW, szW, lnr, lnp, lnW, mt, rd, r0, ri, rz, nz, nb, rs2, rg, q, q2, clrE_one]
end Pg
set_option linter.all false
set_option maxHeartbeats 0
set_option maxRecDepth 100000
set_option exponentiation.threshold 700
namespace Pg
open PySem PySem.Spec PyProof.Rows L2 VE Ul Uh
theorem dgO_shape (b : Bool) (m : List Nat) (r : Bool) : ∃ vs, dgO b m r = .obj 3 [0, 1, 2, 3, 4] vs := ⟨_, rfl⟩
theorem bd_app (a b : List Nat) : bd a ++ bd b = bd (a ++ b) := by simp [bd]
theorem init_dg (n : Nat) (b : Bool) : callN S (n + 4) 38 [.obj 3 [] [], .str (kS b)] = .ok (.tup [.non, dgO b [] false]) := dinit_ok n b
theorem digest_ok (n : Nat) (b : Bool) (m : List Nat) (hm : byt m) (hl : m.length ≤ 1048576) : callN S (n + 5) 17 [.str (kS b), .lst (bd m)] = .ok (.lst (bd (dgN b m))) := by
  rw [call_eq (F := f17) rfl rfl rfl rfl]
  unfold f17 t17
  have i := dinit_ok n b
  obtain ⟨r', a⟩ := dadd_ok n b [] m false (fun _ h => nomatch h) hm (by simp; omega)
  rw [List.nil_append] at a
  have t := told_ok n b m r' hm hl
  have cs := cs_dg
  have m1 := mt_add
  have m2 := mt_told
  generalize kS b = K at *
  generalize bd (dgN b m) = DG at *
  generalize hO : dgO b [] false = O at *
  generalize hO1 : dgO b m r' = O1 at *
  have c0 : objC O = .ok 3 := by rw [← hO]; rfl
  have c1 : objC O1 = .ok 3 := by rw [← hO1]; rfl
  have w0 : slO (.val O true) = .ok O := by rw [← hO]; rfl
  have w1 : slO (.val O1 true) = .ok O1 := by rw [← hO1]; rfl
  have n0 : ownable O = true := by rw [← hO]; rfl
  first
  | (simp [e0, i, cs, a, t, m1, m2, c0, c1, w0, w1, n0, clrE_big, clrE_one]; done)
  | (have ft : S.frf 41 = true := rfl
     simp [e0, i, cs, a, t, m1, m2, c0, c1, w0, w1, n0, clrE_big, clrE_one, ft])
theorem digest2_ok (n : Nat) (b : Bool) (m : List Nat) (hm : byt m) (hl : m.length ≤ 1048576) : callN S (n + 5) 18 [.str (kS b), .lst (bd m)] = .ok (.lst (bd (dgN b m))) := by
  rw [call_eq (F := f18) rfl rfl rfl rfl]
  unfold f18 t18
  have i := dinit_ok n b
  obtain ⟨r', a⟩ := dadd_ok n b [] m false (fun _ h => nomatch h) hm (by simp; omega)
  rw [List.nil_append] at a
  have t := told_ok n b m r' hm hl
  have cs := cs_dg
  have m1 := mt_add
  have m2 := mt_told
  generalize kS b = K at *
  generalize bd (dgN b m) = DG at *
  generalize hO : dgO b [] false = O at *
  generalize hO1 : dgO b m r' = O1 at *
  have c0 : objC O = .ok 3 := by rw [← hO]; rfl
  have c1 : objC O1 = .ok 3 := by rw [← hO1]; rfl
  have w0 : slO (.val O true) = .ok O := by rw [← hO]; rfl
  have w1 : slO (.val O1 true) = .ok O1 := by rw [← hO1]; rfl
  have n0 : ownable O = true := by rw [← hO]; rfl
  first
  | (simp [e0, i, cs, a, t, m1, m2, c0, c1, w0, w1, n0, clrE_big, clrE_one]; done)
  | (have ft : S.frf 41 = true := rfl
     simp [e0, i, cs, a, t, m1, m2, c0, c1, w0, w1, n0, clrE_big, clrE_one, ft])
end Pg
set_option linter.all false
namespace Us
open PySem PySem.Spec PyProof.Rows L2 VE Ul
mutual
def pln : D → Bool
  | .non => true | .int _ => true | .str _ => true
  | .tup ds => plnL ds
  | .lst ds => plnL ds
  | _ => false
def plnL : List D → Bool
  | [] => true
  | d :: r => pln d && plnL r
end
mutual
theorem eqv_pl : ∀ (a b : D), pln a = true → pln b = true → (PyData.eqv (py a) (py b) = true ↔ a = b)
  | .non, b, _, hb => by
    cases b <;> first | (cases hb; done) | (simp only [py]; rw [PyData.eqv]; simp)
  | .int i, b, _, hb => by
    cases b <;> first | (cases hb; done) | (simp only [py]; rw [PyData.eqv]; simp)
  | .str s, b, _, hb => by
    cases b <;> first | (cases hb; done) | skip
    case str t =>
      simp only [py]; rw [PyData.eqv]
      constructor
      · intro h
        have h := eq_of_beq h
        have h2 : s = t := strN_inj h
        rw [h2]
      · intro h; cases h; simp
    all_goals (simp only [py]; rw [PyData.eqv]; simp)
  | .tup ds, b, ha, hb => by
    cases b <;> first | (cases hb; done) | skip
    case tup es =>
      simp only [py]; rw [PyData.eqv, eqvL_pl ds es ha hb]
      simp
    all_goals (simp only [py]; rw [PyData.eqv]; simp)
  | .lst ds, b, ha, hb => by
    cases b <;> first | (cases hb; done) | skip
    case lst es =>
      simp only [py]; rw [PyData.eqv, eqvL_pl ds es ha hb]
      simp
    all_goals (simp only [py]; rw [PyData.eqv]; simp)
  | .bl _, _, h, _ => by cases h
  | .frz _, _, h, _ => by cases h
  | .obj _ _ _, _, h, _ => by cases h
  | .dct _ _, _, h, _ => by cases h
theorem eqvL_pl : ∀ (a b : List D), plnL a = true → plnL b = true → (PyData.eqvAll (pyL a) (pyL b) = true ↔ a = b)
  | [], [], _, _ => by simp only [pyL]; rw [PyData.eqvAll]; simp
  | [], _ :: _, _, _ => by simp only [pyL]; rw [PyData.eqvAll]; simp
  | _ :: _, [], _, _ => by simp only [pyL]; rw [PyData.eqvAll]; simp
  | x :: xs, y :: ys, ha, hb => by
    have ha' := Bool.and_eq_true_iff.mp ha
    have hb' := Bool.and_eq_true_iff.mp hb
    simp only [pyL]
    rw [PyData.eqvAll, Bool.and_eq_true_iff, eqv_pl x y ha'.1 hb'.1, eqvL_pl xs ys ha'.2 hb'.2]
    simp
end
theorem dEq_t {a b : D} (o1 : dOk a 60 = true) (o2 : dOk b 60 = true) (p1 : pln a = true) (p2 : pln b = true) (h : a = b) : dEq a b = .ok true := by
  unfold dEq
  rw [o1, o2, Bool.and_true, if_pos rfl]
  show R.ok (PyData.eqv (py a) (py b)) = _
  rw [(eqv_pl a b p1 p2).mpr h]
theorem dEq_f {a b : D} (o1 : dOk a 60 = true) (o2 : dOk b 60 = true) (p1 : pln a = true) (p2 : pln b = true) (h : a ≠ b) : dEq a b = .ok false := by
  unfold dEq
  rw [o1, o2, Bool.and_true, if_pos rfl]
  show R.ok (PyData.eqv (py a) (py b)) = _
  congr 1
  exact Bool.eq_false_iff.mpr fun z => h ((eqv_pl a b p1 p2).mp z)
structure Cm (a : D) : Prop where
  ok : dOk a 58 = true
  pl : pln a = true
mutual
theorem dOk_mono : ∀ (a : D) (n k : Nat), n ≤ k → dOk a n = true → dOk a k = true
  | .non, _, _, _, _ => rfl
  | .bl _, _, _, _, _ => rfl
  | .int _, _, _, _, _ => rfl
  | .str _, _, _, _, h => h
  | .obj _ _ _, _, _, _, h => h
  | .dct _ _, _, _, _, h => h
  | .tup ds, 0, _, _, h => by cases h
  | .tup ds, n + 1, 0, l, h => by omega
  | .tup ds, n + 1, k + 1, l, h => dOkL_mono ds n k (by omega) h
  | .lst ds, 0, _, _, h => by cases h
  | .lst ds, n + 1, 0, l, h => by omega
  | .lst ds, n + 1, k + 1, l, h => dOkL_mono ds n k (by omega) h
  | .frz ds, 0, _, _, h => by cases h
  | .frz ds, n + 1, 0, l, h => by omega
  | .frz ds, n + 1, k + 1, l, h => dOkL_mono ds n k (by omega) h
theorem dOkL_mono : ∀ (a : List D) (n k : Nat), n ≤ k → dOkL a n = true → dOkL a k = true
  | [], _, _, _, _ => rfl
  | d :: r, n, k, l, h => by
    have h' := Bool.and_eq_true_iff.mp h
    show (dOk d k && dOkL r k) = true
    rw [dOk_mono d n k l h'.1, dOkL_mono r n k l h'.2]
    rfl
end
theorem Cm.eq_t {a b : D} (ha : Cm a) (hb : Cm b) (h : a = b) : dEq a b = .ok true := dEq_t (dOk_mono _ 58 60 (by omega) ha.ok) (dOk_mono _ 58 60 (by omega) hb.ok) ha.pl hb.pl h
theorem Cm.eq_f {a b : D} (ha : Cm a) (hb : Cm b) (h : a ≠ b) : dEq a b = .ok false := dEq_f (dOk_mono _ 58 60 (by omega) ha.ok) (dOk_mono _ 58 60 (by omega) hb.ok) ha.pl hb.pl h
theorem eqL_t {ds : List D} (h : ∀ d ∈ ds, Cm d) : dEq (.lst ds) (.lst ds) = .ok true := by
  have h1 : ∀ ds : List D, (∀ d ∈ ds, Cm d) → dOkL ds 59 = true := by
    intro ds
    induction ds with
    | nil => intro _; rfl
    | cons d r ih =>
      intro h
      show (dOk d 59 && dOkL r 59) = true
      rw [dOk_mono _ 58 59 (by omega) (h d (by simp)).ok, ih fun z hz => h z (by simp [hz])]
      rfl
  have h2 : ∀ ds : List D, (∀ d ∈ ds, Cm d) → plnL ds = true := by
    intro ds
    induction ds with
    | nil => intro _; rfl
    | cons d r ih =>
      intro h
      show (pln d && plnL r) = true
      rw [(h d (by simp)).pl, ih fun z hz => h z (by simp [hz])]
      rfl
  exact dEq_t (h1 ds h) (h1 ds h) (h2 ds h) (h2 ds h) rfl
theorem bd_ok : ∀ (l : List Nat) (n : Nat), dOkL (bd l) n = true
  | [], _ => rfl
  | b :: l, n => by
    show (true && dOkL (bd l) n) = true
    rw [bd_ok l n]; rfl
theorem bd_pl : ∀ (l : List Nat), plnL (bd l) = true
  | [] => rfl
  | b :: l => by
    show (true && plnL (bd l)) = true
    rw [bd_pl l]; rfl
theorem cm_bd (l : List Nat) : Cm (.lst (bd l)) := ⟨bd_ok l 57, bd_pl l⟩
theorem cm_non : Cm .non := ⟨rfl, rfl⟩
theorem cm_int (i : Int) : Cm (.int i) := ⟨rfl, rfl⟩
theorem cm_2 (i j : Int) : Cm (.tup [.int i, .int j]) := ⟨rfl, rfl⟩
def sqn : List T → T → T
  | [], c => c
  | a :: r, c => .seq a (sqn r c)
theorem exS_sqn {cl : Pr} : ∀ {as : List T} {c : T} {e e' : Ev}, exS cl (sqn as .pass) e = .nx e' → exS cl (sqn as c) e = exS cl c e'
  | [], c, e, e', h => by
    have h : Out.nx e = Out.nx e' := h
    cases h
    rfl
  | a :: r, c, e, e', h => by
    show exS cl (.seq a (sqn r c)) e = _
    have h : exS cl (.seq a (sqn r .pass)) e = .nx e' := h
    rw [exS_seq] at h ⊢
    cases h1 : exS cl a e <;> rw [h1] at h <;> first | (cases h; done) | skip
    rw [seqO_nx, exK_at] at h ⊢
    exact exS_sqn h
theorem forB_1 {cl : Pr} {i : Nat} {b : T} {d : D} {e e' : Ev} (h : exS cl b (e.set i (.val d false)) = .nx e') : forB cl [i] false b d e = .nx e' := by
  unfold forB
  show outR (R.ok (e.set i (.val d false))) e (exS cl b) = _
  exact h
theorem bd_inj {l m : List Nat} (h : bd l = bd m) : l = m := by
  have e : ∀ l : List Nat, (bd l).map (fun d => match d with | .int i => i.toNat | _ => 0) = l := fun l => by
    unfold bd
    rw [List.map_map]
    simp [Function.comp_def]
  rw [← e l, ← e m, h]
end Us
set_option linter.all false
set_option maxHeartbeats 0
set_option maxRecDepth 100000
set_option exponentiation.threshold 700
namespace Pg
open PySem PySem.Spec PyProof.Rows L2 VE Ul Us Uh
def sm (s : List Nat) : Bool := s.all fun c => decide (c < 1000)
theorem cmS (s : List Nat) (h : sm s = true) : Cm (.str s) := by
  have h : ∀ c ∈ s, c < 1000 := fun c hc => of_decide_eq_true (List.all_eq_true.mp h c hc)
  refine ⟨?_, rfl⟩
  show PySem.PyData.strOk (dS s) = true
  unfold PySem.PyData.strOk dS
  rw [Array.all_eq_true']
  intro x hx
  have := h x (by simpa using hx)
  exact decide_eq_true (by omega)
theorem eqS (s t : List Nat) (hs : sm s = true) (ht : sm t = true) : dEq (.str s) (.str t) = .ok (decide (s = t)) := by
  by_cases h : s = t
  · rw [(cmS s hs).eq_t (cmS t ht) (by rw [h]), decide_eq_true h]
  · rw [(cmS s hs).eq_f (cmS t ht) (fun z => h (by cases z; rfl)), decide_eq_false h]
theorem eqvS (s t : List Nat) : dEqv (.str s) (.str t) = decide (s = t) := by
  rw [Bool.eq_iff_iff, decide_eq_true_iff]
  exact (eqv_pl _ _ rfl rfl).trans ⟨fun z => by cases z; rfl, fun z => by rw [z]⟩
theorem eqBd (l r : List Nat) : dEq (.lst (bd l)) (.lst (bd r)) = .ok (decide (l = r)) := by
  by_cases h : l = r
  · rw [decide_eq_true h, h]; exact Cm.eq_t (cm_bd r) (cm_bd r) rfl
  · rw [decide_eq_false h]
    refine Cm.eq_f (cm_bd l) (cm_bd r) fun z => h ?_
    have z : bd l = bd r := by injection z
    have inj : ∀ l r : List Nat, bd l = bd r → l = r := by
      intro l
      induction l with
      | nil => intro r h; cases r with
        | nil => rfl
        | cons a r => cases h
      | cons a l ih => intro r h; cases r with
        | nil => cases h
        | cons b r =>
          have h : D.int (a : Int) :: bd l = D.int (b : Int) :: bd r := h
          injection h with h1 h2
          injection h1 with h1
          rw [ih r h2, Int.ofNat.inj h1]
    exact inj l r z
def gch (c : Nat) : Bool := decide (32 ≤ c) && decide (c ≤ 126) && (c != 37)
theorem lc_ord (cl : Pr) (s0 s1 s2 s3 : Sl) (s : List Nat) : lcRun (lcF cl [3] [3] false .no (.bi .ord (.cons (.v 3) .nil)) [s0, s1, s2, s3]) (s.map fun c => .str [c]) = .ok (bd s) := by
  have := lcRun_map (f := lcF cl [3] [3] false .no (.bi .ord (.cons (.v 3) .nil)) [s0, s1, s2, s3]) (g := fun d => match d with | .str [c] => .int (c : Nat) | _ => .non) (s.map fun c => .str [c]) (fun d hd => by
    obtain ⟨x, hx, rfl⟩ := List.mem_map.mp hd
    simp [lcF, optC, consO])
  rw [this, List.map_map]
  rfl
theorem lc_ord1 (cl : Pr) (s0 s1 : Sl) (s : List Nat) : lcRun (lcF cl [1] [1] false .no (.bi .ord (.cons (.v 1) .nil)) [s0, s1]) (s.map fun c => .str [c]) = .ok (bd s) := by
  have := lcRun_map (f := lcF cl [1] [1] false .no (.bi .ord (.cons (.v 1) .nil)) [s0, s1]) (g := fun d => match d with | .str [c] => .int (c : Nat) | _ => .non) (s.map fun c => .str [c]) (fun d hd => by
    obtain ⟨x, hx, rfl⟩ := List.mem_map.mp hd
    simp [lcF, optC, consO])
  rw [this, List.map_map]
  rfl
theorem code_body (cl : Pr) (c : Nat) (s0 s1 s2 s3 : Sl) (h : gch c = true) : (forB (cl) [2] false (.seq (.iff [] (.or (.cmp .Lt (.v 2) (.ci 32)) (.or (.cmp .Gt (.v 2) (.ci 126)) (.cmp .Eq (.v 2) (.ci 37)))) (.seq (.rse 2) .pass) .pass) .pass)) (.int c) [s0, s1, s2, s3] = .nx [s0, s1, .val (.int c) false, s3] := by
  unfold forB
  simp [gch] at h
  have h1 : ¬ (c : Int) < 32 := by omega
  have h3 : ¬ (126 : Int) < c := by omega
  have h5 : ¬ (c : Int) = 37 := by omega
  simp [h1, h3, h5]
theorem code_loop (cl : Pr) (s0 s1 s3 : Sl) : ∀ (s : List Nat) (s2 : Sl), s.all gch = true → ∃ u2, forL (forB (cl) [2] false (.seq (.iff [] (.or (.cmp .Lt (.v 2) (.ci 32)) (.or (.cmp .Gt (.v 2) (.ci 126)) (.cmp .Eq (.v 2) (.ci 37)))) (.seq (.rse 2) .pass) .pass) .pass)) (bd s) [s0, s1, s2, s3] = .nx [s0, s1, u2, s3]
  | [], s2, _ => ⟨s2, rfl⟩
  | c :: s, s2, h => by
    have h := Bool.and_eq_true_iff.mp (show (gch c && s.all gch) = true from h)
    obtain ⟨u2, q⟩ := code_loop cl s0 s1 s3 s (.val (.int c) false) h.2
    refine ⟨u2, ?_⟩
    rw [show bd (c :: s) = .int c :: bd s by rfl, forL_cons, code_body _ _ _ _ _ _ h.1]
    exact q
theorem codes (n : Nat) (s : List Nat) (hs : s.length < 1000) (h : s.all gch = true) : callN S (n + 1) 4 [.str s] = .ok (.lst (bd s)) := by
  rw [call_eq (F := f4) rfl rfl rfl rfl]
  unfold f4 t4
  have l := lc_ord (S.base (callN S n)) (.val (.str s) false) .emp .emp .emp s
  have sz : s.length < SZ := by have : SZ = 16777216 := rfl; omega
  obtain ⟨u2, q⟩ := code_loop (S.base (callN S n)) (.val (.str s) false) (.val (.lst (bd s)) false) .emp s .emp h
  have lm : (s.map fun c => D.str [c]).length = s.length := List.length_map _
  generalize bd s = B at *
  simp [e0, itemsOf, l, sz, lm, q]
theorem lcodes (n : Nat) (s : List Nat) (hs : s.length < 1000) : callN S (n + 1) 30 [.str s] = .ok (.lst (bd s)) := by
  rw [call_eq (F := f30) rfl rfl rfl rfl]
  unfold f30 t30
  have l := lc_ord1 (S.base (callN S n)) (.val (.str s) false) .emp s
  have sz : s.length < SZ := by have : SZ = 16777216 := rfl; omega
  have lm : (s.map fun c => D.str [c]).length = s.length := List.length_map _
  generalize bd s = B at *
  simp [e0, itemsOf, l, sz, lm]
def hS : D := .obj 4 [5, 6, 7] [.str [115, 104, 97, 50, 53, 54], .int 32, .int 64]
theorem iniS (n : Nat) : callN S (n + 3) 44 [.obj 4 [] []] = .ok (.tup [.non, hS]) := by
  rw [callM_eq (F := f44) rfl rfl rfl rfl]
  unfold f44 t44
  have d : callN S (n + 2) 9 [.str [115, 104, 97, 50, 53, 54]] = .ok (.int 32) := dsize n false
  have b : callN S (n + 2) 7 [.str [115, 104, 97, 50, 53, 54]] = .ok (.int 64) := bsize n false
  have k1 : (4, 5) ∈ S.fk := by decide
  have k2 : (4, 6) ∈ S.fk := by decide
  have k3 : (4, 7) ∈ S.fk := by decide
  unfold hS
  simp [e0M, d, b, k1, k2, k3]
theorem csS : S.cs.lookup 4 = some 44 := rfl
theorem objC_S : objC hS = .ok 4 := rfl
theorem mtSd : S.ms.lookup (4, 5) = some (45, false) := rfl
theorem shad (n : Nat) (m : List Nat) (hm : byt m) (hl : m.length ≤ 1048576) : callN S (n + 6) 45 [hS, .lst (bd m)] = .ok (.lst (bd (dgN false m))) := by
  have q : callN S (n + 5) 18 [.str [115, 104, 97, 50, 53, 54], .lst (bd m)] = .ok (.lst (bd (dgN false m))) := digest2_ok n false m hm hl
  rw [call_eq (F := f45) rfl rfl rfl rfl]
  unfold f45 t45
  generalize bd (dgN false m) = RES at *
  generalize hS = H
  simp [e0, q]
def rp (y z : Nat) (s : List Nat) : List Nat := s.map fun c => if c = y then z else c
theorem rp_free (y z : Nat) : ∀ l : List Nat, y ∉ l → rp y z l = l
  | [], _ => rfl
  | k :: r, h => by
    have h1 : ¬ k = y := fun e => h (e ▸ List.mem_cons_self ..)
    show (if k = y then z else k) :: rp y z r = k :: r
    rw [if_neg h1, rp_free y z r fun m => h (List.mem_cons_of_mem _ m)]
theorem rp_join (y z : Nat) : ∀ parts : List Str, (∀ p ∈ parts, y ∉ p.cps.toList) → rp y z (Str.join ⟨#[y]⟩ parts).cps.toList = (Str.join ⟨#[z]⟩ parts).cps.toList
  | [], _ => rfl
  | [p], h => rp_free y z _ (h p (List.mem_singleton.mpr rfl))
  | p :: q :: r, h => by
    have ih := rp_join y z (q :: r) fun a ha => h a (List.mem_cons_of_mem _ ha)
    show rp y z (p ++ ⟨#[y]⟩ ++ Str.join ⟨#[y]⟩ (q :: r)).cps.toList = (p ++ ⟨#[z]⟩ ++ Str.join ⟨#[z]⟩ (q :: r)).cps.toList
    simp only [Str.cps_append, Array.toList_append]
    have e : ∀ a b : List Nat, rp y z (a ++ b) = rp y z a ++ rp y z b := fun a b => List.map_append
    rw [e, e, ih, rp_free y z _ (h p (List.mem_cons_self ..))]
    show p.cps.toList ++ rp y z [y] ++ _ = p.cps.toList ++ [z] ++ _
    rw [show rp y z [y] = [z] by simp [rp]]
theorem replace_rp (s : List Nat) (y z : Nat) : (Txt.replace (dS s) (dS [y]) (dS [z])).cps.toList = rp y z s := by
  show (Txt.replace (dS s) ⟨#[y]⟩ ⟨#[z]⟩).cps.toList = _
  rw [StrLaws.replace_one, ← rp_join y z _ (StrLaws.split_free _ y), StrLaws.join_split]
  rfl
theorem rp_len (y z : Nat) (s : List Nat) : (rp y z s).length = s.length := List.length_map _
theorem rp_gch (y z : Nat) (hz : gch z = true) (s : List Nat) (h : s.all gch = true) : (rp y z s).all gch = true := by
  rw [List.all_eq_true] at h ⊢
  intro c hc
  obtain ⟨d, hd, rfl⟩ := List.mem_map.mp hc
  show gch (if d = y then z else d) = true
  split
  · exact hz
  · exact h d hd
theorem rpl_ok (s : List Nat) (hs : s.length ≤ 100) : dRpl [100] [(45, 99), (58, 98), (32, 97)] (.str s) = .ok (.str (100 :: rp 45 99 (rp 58 98 (rp 32 97 s)))) := by
  have e3 : rplS [(32, 97)] s = rp 32 97 s := replace_rp s 32 97
  have e2 : rplS [(58, 98), (32, 97)] s = rp 58 98 (rp 32 97 s) := by
    show (Txt.replace (dS (rplS [(32, 97)] s)) (dS [58]) (dS [98])).cps.toList = _
    rw [e3, replace_rp]
  have e1 : rplS [(45, 99), (58, 98), (32, 97)] s = rp 45 99 (rp 58 98 (rp 32 97 s)) := by
    show (Txt.replace (dS (rplS [(58, 98), (32, 97)] s)) (dS [45]) (dS [99])).cps.toList = _
    rw [e2, replace_rp]
  have l2 : (rplS [(58, 98), (32, 97)] s).length ≤ 1000 := by rw [e2, rp_len, rp_len]; omega
  have l3 : (rplS [(32, 97)] s).length ≤ 1000 := by rw [e3, rp_len]; omega
  have l4 : (rplS [] s).length ≤ 1000 := by show s.length ≤ 1000; omega
  have k : rplOk [(45, 99), (58, 98), (32, 97)] s = true := by
    show (((true && decide ((32 : Nat) ≠ 97) && decide ((rplS [] s).length ≤ 1000)) && decide ((58 : Nat) ≠ 98) && decide ((rplS [(32, 97)] s).length ≤ 1000)) && decide ((45 : Nat) ≠ 99) && decide ((rplS [(58, 98), (32, 97)] s).length ≤ 1000)) = true
    rw [decide_eq_true l2, decide_eq_true l3, decide_eq_true l4]
    rfl
  have z : ([100] : List Nat).length + (rplS [(45, 99), (58, 98), (32, 97)] s).length ≤ SZ := by
    rw [e1, rp_len, rp_len, rp_len]
    have : SZ = 16777216 := rfl
    simp
    omega
  show (if (rplOk [(45, 99), (58, 98), (32, 97)] s && decide (([100] : List Nat).length + (rplS [(45, 99), (58, 98), (32, 97)] s).length ≤ SZ)) = true then R.ok (D.str ([100] ++ rplS [(45, 99), (58, 98), (32, 97)] s)) else .bad) = _
  rw [k, decide_eq_true z, e1]
  rfl
end Pg
set_option linter.all false
set_option maxHeartbeats 0
set_option maxRecDepth 100000
set_option exponentiation.threshold 700
namespace Pg
open PySem PySem.Spec PyProof.Rows L2 VE Ul Us Uh
theorem cell (n : Nat) (ns : List Int) (k : Nat) : callN S (n + 1) 25 [.frz (ns.map .int), .int k] = .ok (.int (ns.getD k 0)) := cell_g (S := S) (f := 25) rfl n ns k
theorem isint (n : Nat) (i : Int) : callN S (n + 1) 28 [.int i] = .ok (.bl true) := isint_g (S := S) (f := 28) rfl n i
theorem ilL (n : Nat) (a b : Sl) : ∀ (l : List Nat) (s2 s3 : Sl), ∃ s2' s3', forL (forB (S.base (callN S (n + 1))) [2, 3] true (.seq (.iff [] (.or (.not (.call 28 (.cons (.v 2) .nil))) (.cmp .NotEq (.v 2) (.v 3))) (.seq (.ret false [] (.cb false)) .pass) .pass) .pass)) (((bd l).zip (bd l)).map fun p => D.tup [p.1, p.2]) [a, b, s2, s3] = .nx [a, b, s2', s3']
  | [], s2, s3 => ⟨s2, s3, rfl⟩
  | x :: l, s2, s3 => by
    obtain ⟨s2', s3', q⟩ := ilL n a b l (.val (.int x) false) (.val (.int x) false)
    refine ⟨s2', s3', ?_⟩
    have e : ((bd (x :: l)).zip (bd (x :: l))).map (fun p => D.tup [p.1, p.2]) = D.tup [.int x, .int x] :: (((bd l).zip (bd l)).map fun p => D.tup [p.1, p.2]) := rfl
    have i : callN S (n + 1) 28 [.int x] = .ok (.bl true) := isint n x
    rw [e, forL_cons, ← q]
    simp [forB, i]
theorem islist (n : Nat) (l : List Nat) : callN S (n + 2) 29 [.lst (bd l), .lst (bd l)] = .ok (.bl true) := by
  rw [call_eq (F := f29) rfl rfl rfl rfl]
  unfold f29 t29
  obtain ⟨s2, s3, q⟩ := ilL n (.val (.lst (bd l)) false) (.val (.lst (bd l)) false) l .emp .emp
  have z : zipD (.lst (bd l)) (.lst (bd l)) = .ok (((bd l).zip (bd l)).map fun p => D.tup [p.1, p.2]) := rfl
  simp [e0, dIsi, z, q]
theorem twice (n : Nat) (x : Int) (hx : x.natAbs < 2 ^ 1048600) (k : Nat) (hk : k < 2000) : ∃ v : Int, callN S (n + 1) 26 [.int x, .int k] = .ok (.int v) := by
  rw [call_eq (F := f26) rfl rfl rfl rfl]
  unfold f26 t26
  have kb : ∀ c : Int, c.natAbs < 2 ^ 20 → mulOk (k : Int) c := fun c hc => mul_ok (a := 20) (b := 20) (by rw [Int.natAbs_natCast]; omega) hc (by decide)
  have m0 : mulOk x 48271 := mul_ok hx (b := 20) (by decide) (by decide)
  have m1 := kb 69621 (by decide)
  have m2 := kb 40692 (by decide)
  have m3 := kb 30269 (by decide)
  have f1 : ∀ y : Int, Int.fmod y 2147483647 = y % 2147483647 := fun y => Int.fmod_eq_emod_of_nonneg _ (by decide)
  have f2 : ∀ y : Int, Int.fmod y 2147483629 = y % 2147483629 := fun y => Int.fmod_eq_emod_of_nonneg _ (by decide)
  have f3 : ∀ y : Int, Int.fmod y 2147483587 = y % 2147483587 := fun y => Int.fmod_eq_emod_of_nonneg _ (by decide)
  have s1 : ∀ y : Int, mulOk (y % 2147483647) (y % 2147483647) := fun y => mul_ok (a := 40) (b := 40) (by omega) (by omega) (by decide)
  have s2 : ∀ y : Int, mulOk (y % 2147483629) (y % 2147483629) := fun y => mul_ok (a := 40) (b := 40) (by omega) (by omega) (by decide)
  simp [e0, m0, m1, m2, m3, f1, f2, f3, s1, s2]
theorem byL (n : Nat) (x : Int) (hx : x.natAbs < 2 ^ 1048600) (sz : Sl) (gr : Bool) : ∀ (f k : Nat) (left : Int) (l : List Nat) (s : Sl), 0 ≤ left → k + f ≤ 1100 → byt l → l.length = k → ∃ (left' : Int) (l' : List Nat) (s' : Sl),
    forL (forB (S.base (callN S (n + 1))) [5] false (.seq (.iff [] (.and (.v 3) (.cmp .Gt (.v 2) (.ci 0))) (.seq (.mut .lappend 4 [] (.cons (.bin .Mod (.v 2) (.ci 256)) .nil)) (.seq (.asg 2 [] false (.bin .FloorDiv (.v 2) (.ci 256))) .pass)) (.seq (.mut .lappend 4 [] (.cons (.bin .Mod (.call 26 (.cons (.v 0) (.cons (.v 5) .nil))) (.ci 256)) .nil)) .pass)) .pass)) (rngL (k : Nat) 1 f) [.val (.int x) false, sz, .val (.int left) false, .val (.bl gr) false, .val (.lst (bd l)) true, s] = .nx [.val (.int x) false, sz, .val (.int left') false, .val (.bl gr) false, .val (.lst (bd l')) true, s'] ∧ byt l' ∧ l'.length = k + f
  | 0, k, left, l, s, h0, hk, hb, hl => ⟨left, l, s, rfl, hb, hl⟩
  | f + 1, k, left, l, s, h0, hk, hb, hl => by
    have hz : l.length < SZ := by have : SZ = 16777216 := rfl; omega
    rw [rngL_succ, forL_cons, ← show ((k + 1 : Nat) : Int) = (k : Int) + 1 from by omega]
    have fin : ∀ (left2 : Int) (b : Nat), 0 ≤ left2 → b < 256 → ∃ (left' : Int) (l' : List Nat) (s' : Sl),
        forL (forB (S.base (callN S (n + 1))) [5] false (.seq (.iff [] (.and (.v 3) (.cmp .Gt (.v 2) (.ci 0))) (.seq (.mut .lappend 4 [] (.cons (.bin .Mod (.v 2) (.ci 256)) .nil)) (.seq (.asg 2 [] false (.bin .FloorDiv (.v 2) (.ci 256))) .pass)) (.seq (.mut .lappend 4 [] (.cons (.bin .Mod (.call 26 (.cons (.v 0) (.cons (.v 5) .nil))) (.ci 256)) .nil)) .pass)) .pass)) (rngL ((k + 1 : Nat) : Int) 1 f) [.val (.int x) false, sz, .val (.int left2) false, .val (.bl gr) false, .val (.lst (bd (l ++ [b]))) true, .val (.int k) false] = .nx [.val (.int x) false, sz, .val (.int left') false, .val (.bl gr) false, .val (.lst (bd l')) true, s'] ∧ byt l' ∧ l'.length = k + (f + 1) := fun left2 b h1 h2 => by
      obtain ⟨a1, a2, a3, q, q1, q2⟩ := byL n x hx sz gr f (k + 1) left2 (l ++ [b]) (.val (.int k) false) h1 (by omega) (fun c hc => by
        rcases List.mem_append.mp hc with h | h
        · exact hb c h
        · have : c = b := by simpa using h
          omega) (by simp [hl])
      exact ⟨a1, a2, a3, q, q1, by omega⟩
    obtain ⟨v, hv⟩ := twice n x hx k (by omega)
    have t1 : ∃ b : Nat, Int.fmod v 256 = (b : Int) ∧ b < 256 := ⟨(v % 256).toNat, by rw [Int.fmod_eq_emod_of_nonneg _ (by decide)]; omega, by omega⟩
    obtain ⟨b1, hb1, hb1'⟩ := t1
    have t2 : ∃ b : Nat, Int.fmod left 256 = (b : Int) ∧ b < 256 := ⟨(left % 256).toNat, by rw [Int.fmod_eq_emod_of_nonneg _ (by decide)]; omega, by omega⟩
    obtain ⟨b2, hb2, hb2'⟩ := t2
    by_cases c : gr = true ∧ 0 < left
    · obtain ⟨c1, c2⟩ := c
      obtain ⟨a1, a2, a3, q, q1⟩ := fin (Int.fdiv left 256) b2 (by rw [Int.fdiv_eq_ediv_of_nonneg _ (by decide)]; omega) hb2'
      refine ⟨a1, a2, a3, ?_, q1⟩
      rw [← q, ← Ul.bd_app]
      subst c1
      simp [forB, c2, hb2, bd_len, hz]
    · obtain ⟨a1, a2, a3, q, q1⟩ := fin left b1 h0 hb1'
      refine ⟨a1, a2, a3, ?_, q1⟩
      rw [← q, ← Ul.bd_app]
      cases gr
      · simp [forB, hv, hb1, bd_len, hz]
      · have c2 : ¬ 0 < left := fun z => c ⟨rfl, z⟩
        simp [forB, c2, hv, hb1, bd_len, hz]
theorem bytes (n : Nat) (x : Int) (hx : x.natAbs < 2 ^ 1048600) (cnt : Nat) (hc : cnt ≤ 1100) : ∃ l, callN S (n + 2) 27 [.int x, .int cnt] = .ok (.lst (bd l)) ∧ byt l ∧ l.length = cnt := by
  have p : powOk 10 18 := by unfold powOk; decide
  have r : VE.inR (cnt : Int) := inR_of (by omega) (by omega)
  obtain ⟨a1, a2, a3, q, q1, q2⟩ := byL n x hx (.val (.int cnt) false) (decide ((1000000000000000000 : Int) ≤ (if x < 0 then -x else x))) cnt 0 (if x < 0 then -x else x) [] .emp (by split <;> omega) (by omega) (fun _ h => by cases h) rfl
  refine ⟨a2, ?_, q1, by omega⟩
  rw [show bd [] = [] from rfl, show ((0 : Nat) : Int) = 0 from rfl] at q
  rw [call_eq (F := f27) rfl rfl rfl rfl]
  unfold f27 t27
  generalize hab : (if x < 0 then -x else x) = ax at *
  simp [e0, hab, p, r, q, clrE_one]
theorem big_cell {ns : List Int} (h : ∀ z ∈ ns, Builtin.Int.intBits z ≤ 1048576) (k : Nat) : (ns.getD k 0).natAbs < 2 ^ 1048600 := by
  rw [List.getD_eq_getElem?_getD]
  cases hk : ns[k]? with
  | none => exact Nat.pow_pos (by decide)
  | some z =>
    have hz := h z (List.mem_of_getElem? hk)
    have := bits_of hz
    exact Nat.lt_of_lt_of_le this (Nat.pow_le_pow_right (by decide) (by decide))
theorem abs7 (x : Int) : (if x < 0 then -x else x) = (x.natAbs : Int) := by split <;> omega
theorem fd (a b : Nat) (B : Int) (h : B = (b : Int)) : Int.fdiv (a : Int) B = ((a / b : Nat) : Int) := by
  subst h
  rw [Int.fdiv_eq_ediv_of_nonneg _ (Int.natCast_nonneg b)]; rfl
theorem fm (a b : Nat) (B : Int) (h : B = (b : Int)) : Int.fmod (a : Int) B = ((a % b : Nat) : Int) := by
  subst h
  rw [Int.fmod_eq_emod_of_nonneg _ (Int.natCast_nonneg b)]; rfl
theorem ixN_nat {n i : Nat} (h : i < n) : ixN n (i : Int) = some i := by
  unfold ixN
  simp [h]
def lb (l : List Nat) : D := .lst (bd l)
def hd3 (x : Nat) : List Nat := [x / 65536, x / 256 % 256, x % 256]
def pk : List (List Nat) → List Nat
  | [] => []
  | l :: r => hd3 l.length ++ l ++ pk r
theorem bg3 (x : Nat) (h : x < 60000) : bg x 3 = hd3 x := by
  unfold bg hd3
  show ([x % 256, x / 256 % 256, x / 256 / 256 % 256] : List Nat).reverse = _
  simp
  omega
theorem bdA (a b : List Nat) : bd (a ++ b) = bd a ++ bd b := by simp [bd]
theorem pkL (n : Nat) (s0 : Sl) : ∀ (P : List (List Nat)) (A : List Nat) (s2 : Sl), (∀ l ∈ P, l.length < 60000) → A.length + 60010 * P.length ≤ 10000000 → ∃ s2', forL (forB (S.base (callN S (n + 2))) [2] false (.seq (.mut .lextend 1 [] (.cons (.call 2 (.cons (.bi .len (.cons (.v 2) .nil)) (.cons (.ci 3) .nil))) .nil)) (.seq (.mut .lextend 1 [] (.cons (.v 2) .nil)) .pass))) (P.map lb) [s0, .val (.lst (bd A)) true, s2] = .nx [s0, .val (.lst (bd (A ++ pk P))) true, s2']
  | [], A, s2, _, _ => ⟨s2, by simp [pk, forL]⟩
  | l :: P, A, s2, h, hA => by
    have hl : l.length < 60000 := h l (by simp)
    have hA' : A.length + 60010 * (P.length + 1) ≤ 10000000 := hA
    obtain ⟨t, q⟩ := pkL n s0 P (A ++ hd3 l.length ++ l) (.val (lb l) false) (fun z hz => h z (by simp [hz])) (by simp [hd3]; omega)
    refine ⟨t, ?_⟩
    have tb := to_big_ok n l.length 3 (by decide) (by rw [show (256 : Nat) ^ 3 = 16777216 from by decide]; omega)
    rw [bg3 _ hl] at tb
    have tb : callN S (n + 2) 2 [.int ((l.length : Nat) : Int), .int 3] = .ok (.lst (bd (hd3 l.length))) := tb
    have e : A ++ pk (l :: P) = A ++ hd3 l.length ++ l ++ pk P := by simp [pk]
    have sZ : SZ = 16777216 := rfl
    have s1 : (bd A).length + (bd (hd3 l.length)).length ≤ SZ := by rw [bd_len, bd_len, sZ]; simp [hd3]; omega
    have s2' : (bd A).length + (bd (hd3 l.length)).length + (bd l).length ≤ SZ := by rw [bd_len, bd_len, bd_len, sZ]; simp [hd3]; omega
    have bl : (bd l).length = l.length := bd_len l
    rw [List.map_cons, forL_cons, e, ← q]
    rw [bdA, bdA]
    clear q
    unfold lb
    generalize P.map lb = PP at *
    generalize bd (hd3 l.length) = H at *
    generalize bd A = AA at *
    rw [← bl] at tb
    clear bl hl h e hA hA'
    generalize bd l = W at *
    simp [forB, tb, s1, s2']
theorem pack_ok (n : Nat) (P : List (List Nat)) (h : ∀ l ∈ P, l.length < 60000) (hP : P.length ≤ 100) : callN S (n + 3) 19 [.lst (P.map lb)] = .ok (.lst (bd (pk P))) := by
  rw [call_eq (F := f19) rfl rfl rfl rfl]
  unfold f19 t19
  obtain ⟨t, q⟩ := pkL n (.val (.lst (P.map lb)) false) P [] .emp h (by simp; omega)
  rw [show bd [] = [] from rfl, List.nil_append] at q
  generalize P.map lb = PP at *
  generalize bd (pk P) = W at *
  simp [e0, q, clrE_one]
theorem lpkL (n : Nat) (s0 : Sl) : ∀ (P : List (List Nat)) (A : List Nat) (s2 : Sl), (∀ l ∈ P, l.length < 60000) → A.length + 60010 * P.length ≤ 10000000 → ∃ s2', forL (forB (S.base (callN S n)) [2] false (.seq (.asg 1 [] false (.bin .Add (.bin .Add (.v 1) (.lst (.cons (.bin .FloorDiv (.bi .len (.cons (.v 2) .nil)) (.ci 65536)) (.cons (.bin .Mod (.bin .FloorDiv (.bi .len (.cons (.v 2) .nil)) (.ci 256)) (.ci 256)) (.cons (.bin .Mod (.bi .len (.cons (.v 2) .nil)) (.ci 256)) .nil))))) (.v 2))) .pass)) (P.map lb) [s0, .val (.lst (bd A)) false, s2] = .nx [s0, .val (.lst (bd (A ++ pk P))) false, s2']
  | [], A, s2, _, _ => ⟨s2, by simp [pk, forL]⟩
  | l :: P, A, s2, h, hA => by
    have hl : l.length < 60000 := h l (by simp)
    have hA' : A.length + 60010 * (P.length + 1) ≤ 10000000 := hA
    obtain ⟨t, q⟩ := lpkL n s0 P (A ++ hd3 l.length ++ l) (.val (lb l) false) (fun z hz => h z (by simp [hz])) (by simp [hd3]; omega)
    refine ⟨t, ?_⟩
    have e : A ++ pk (l :: P) = A ++ hd3 l.length ++ l ++ pk P := by simp [pk]
    have sZ : SZ = 16777216 := rfl
    have s1 : (bd A).length + 3 ≤ SZ := by rw [bd_len, sZ]; omega
    have s2' : (bd A).length + 3 + (bd l).length ≤ SZ := by rw [bd_len, bd_len, sZ]; omega
    have bl : (bd l).length = l.length := bd_len l
    have f1 := fd l.length 65536 65536 rfl
    have f2 := fd l.length 256 256 rfl
    have f3 := fm (l.length / 256) 256 256 rfl
    have f4 := fm l.length 256 256 rfl
    have eh : bd (hd3 l.length) = [.int ((l.length / 65536 : Nat) : Int), .int ((l.length / 256 % 256 : Nat) : Int), .int ((l.length % 256 : Nat) : Int)] := rfl
    rw [List.map_cons, forL_cons, e, ← q]
    rw [bdA, bdA, eh]
    clear q
    unfold lb
    generalize P.map lb = PP at *
    generalize bd A = AA at *
    rw [← bl] at f1 f2 f3 f4 ⊢
    clear bl hl h e hA hA' eh
    generalize bd l = W at *
    simp [forB, f1, f2, f3, f4, s1, s2', -Int.natCast_ediv, -Int.natCast_emod]
theorem lpack_ok (n : Nat) (P : List (List Nat)) (h : ∀ l ∈ P, l.length < 60000) (hP : P.length ≤ 100) : callN S (n + 1) 31 [.lst (P.map lb)] = .ok (.lst (bd (pk P))) := by
  rw [call_eq (F := f31) rfl rfl rfl rfl]
  unfold f31 t31
  obtain ⟨t, q⟩ := lpkL n (.val (.lst (P.map lb)) false) P [] .emp h (by simp; omega)
  rw [show bd [] = [] from rfl, List.nil_append] at q
  generalize P.map lb = PP at *
  generalize bd (pk P) = W at *
  simp [e0, q]
theorem hd3_len (x : Nat) : (hd3 x).length = 3 := rfl
theorem hd3_inj {x y : Nat} (h : hd3 x = hd3 y) (hx : x < 60000) (hy : y < 60000) : x = y := by
  unfold hd3 at h
  injection h with h1 h
  injection h with h2 h
  injection h with h3 h
  omega
theorem pk_inj : ∀ (P Q : List (List Nat)), (∀ l ∈ P, l.length < 60000) → (∀ l ∈ Q, l.length < 60000) → pk P = pk Q → P = Q
  | [], [], _, _, _ => rfl
  | [], q :: Q, _, _, h => by simp [pk, hd3] at h
  | p :: P, [], _, _, h => by simp [pk, hd3] at h
  | p :: P, q :: Q, hP, hQ, h => by
    have h : hd3 p.length ++ (p ++ pk P) = hd3 q.length ++ (q ++ pk Q) := by rw [← List.append_assoc, ← List.append_assoc]; exact h
    obtain ⟨h1, h2⟩ := List.append_inj h (by rw [hd3_len, hd3_len])
    have e := hd3_inj h1 (hP p (by simp)) (hQ q (by simp))
    obtain ⟨h3, h4⟩ := List.append_inj h2 e
    rw [h3, pk_inj P Q (fun l hl => hP l (by simp [hl])) (fun l hl => hQ l (by simp [hl])) h4]
theorem pk_byt : ∀ (P : List (List Nat)), (∀ l ∈ P, byt l ∧ l.length < 60000) → byt (pk P)
  | [], _ => fun _ h => by cases h
  | p :: P, h => by
    obtain ⟨h1, h2⟩ := h p (by simp)
    intro b hb
    rcases List.mem_append.mp (show b ∈ hd3 p.length ++ p ++ pk P from hb) with q | q
    · rcases List.mem_append.mp q with q | q
      · simp only [hd3, List.mem_cons, List.not_mem_nil, or_false] at q
        rcases q with rfl | rfl | rfl <;> omega
      · exact h1 b q
    · exact pk_byt P (fun l hl => h l (by simp [hl])) b q
theorem pk_len : ∀ (P : List (List Nat)) (N : Nat), (∀ l ∈ P, l.length ≤ N) → (pk P).length ≤ (N + 3) * P.length
  | [], _, _ => by simp [pk]
  | p :: P, N, h => by
    have := pk_len P N fun l hl => h l (by simp [hl])
    have h1 := h p (by simp)
    show (hd3 p.length ++ p ++ pk P).length ≤ (N + 3) * (P.length + 1)
    rw [List.length_append, List.length_append, hd3_len, Nat.mul_add]
    omega
end Pg
set_option linter.all false
set_option maxHeartbeats 0
set_option maxRecDepth 100000
set_option exponentiation.threshold 700
namespace Pg
open PySem PySem.Spec PyProof.Rows L2 VE Ul Us Uh
def sgs : List Nat := [97, 98, 99, 100, 101, 102, 103, 104, 105, 106, 107, 108, 109, 110, 111, 112, 113, 114, 115, 116, 117, 118, 119, 120, 121, 122, 48, 49, 50, 51, 52, 53, 54, 55, 56, 57, 58, 45, 32]
theorem sgs_at (j : Nat) (h : j < 39) : ∃ c, atI sgs (j : Int) = some c ∧ gch c = true := by
  have k : ∀ j : Nat, j < 39 → ((sgs[j]?).map gch) = some true := by decide
  have := k j h
  rw [atI_nat']
  cases e : sgs[j]? with
  | none => rw [e] at this; cases this
  | some c =>
    rw [e] at this
    exact ⟨c, rfl, by simpa using this⟩
theorem txL (cl : Pr) (s0 : Sl) : ∀ (m k left : Nat) (t : List Nat) (s4 : Sl), k + m ≤ 40 → t.all gch = true → t.length = k → ∃ (left' : Nat) (t' : List Nat) (s4' : Sl), forL (forB (cl) [4] false (.seq (.asg 3 [] false (.bin .Add (.v 3) (.ix (.v 1) (.bin .Mod (.v 2) (.ci 39))))) (.seq (.asg 2 [] false (.bin .Add (.bin .FloorDiv (.v 2) (.ci 39)) (.bin .Mult (.ci 7) (.v 4)))) .pass))) (rngL (k : Nat) 1 m) [s0, .val (.str sgs) false, .val (.int left) false, .val (.str t) false, s4] = .nx [s0, .val (.str sgs) false, .val (.int left') false, .val (.str t') false, s4'] ∧ t'.all gch = true ∧ t'.length = k + m
  | 0, k, left, t, s4, _, h, hl => ⟨left, t, s4, rfl, h, hl⟩
  | m + 1, k, left, t, s4, hk, h, hl => by
    obtain ⟨c, hc, gc⟩ := sgs_at (left % 39) (Nat.mod_lt _ (by decide))
    obtain ⟨l', t', s', q, q1, q2⟩ := txL cl s0 m (k + 1) (left / 39 + 7 * k) (t ++ [c]) (.val (.int k) false) (by omega) (by rw [List.all_append, h]; simp [gc]) (by simp [hl])
    refine ⟨l', t', s', ?_, q1, by omega⟩
    rw [rngL_succ, forL_cons, ← show ((k + 1 : Nat) : Int) = (k : Int) + 1 from by omega, ← q]
    clear q
    have m39 := fm left 39 39 rfl
    have d39 := fd left 39 39 rfl
    have mo : mulOk 7 (k : Int) := mul_ok (a := 20) (b := 20) (by decide) (by rw [Int.natAbs_natCast]; omega) (by decide)
    have sz : sgs.length ≤ SZ := by decide
    have sz2 : t.length + 1 ≤ SZ := by have : SZ = 16777216 := rfl; omega
    have e : ((left / 39 : Nat) : Int) + 7 * (k : Int) = ((left / 39 + 7 * k : Nat) : Int) := by omega
    generalize sgs = G at *
    simp [forB, m39, d39, hc, sz, sz2, mo, -Int.natCast_ediv, -Int.natCast_emod]
theorem text_ok (n c : Nat) : ∃ t, callN S (n + 1) 32 [.int c] = .ok (.str t) ∧ t.all gch = true ∧ t.length = c % 40 := by
  have d40 := fd c 40 40 rfl
  have m40 := fm c 40 40 rfl
  have r : VE.inR ((c % 40 : Nat) : Int) := inR_of (by omega) (by omega)
  obtain ⟨l', t', s', q, q1, q2⟩ := txL (S.base (callN S n)) (.val (.int c) false) (c % 40) 0 (c / 40) [] .emp (by have := Nat.mod_lt c (show 40 > 0 by decide); omega) rfl rfl
  refine ⟨t', ?_, q1, by omega⟩
  rw [call_eq (F := f32) rfl rfl rfl rfl]
  unfold f32 t32
  rw [show ((0 : Nat) : Int) = 0 from rfl] at q
  have es : ([97, 98, 99, 100, 101, 102, 103, 104, 105, 106, 107, 108, 109, 110, 111, 112, 113, 114, 115, 116, 117, 118, 119, 120, 121, 122, 48, 49, 50, 51, 52, 53, 54, 55, 56, 57, 58, 45, 32] : List Nat) = sgs := rfl
  rw [es]
  generalize sgs = G at *
  simp [e0, d40, m40, r, q, -Int.natCast_ediv, -Int.natCast_emod]
inductive Pt where
  | t (s : List Nat) | d (l : List Nat)
def Pt.D : Pt → D
  | .t s => .str s
  | .d l => .tup (bd l)
def Pt.by : Pt → List Nat
  | .t s => s
  | .d l => l
def Pt.ok : Pt → Prop
  | .t s => s.all gch = true ∧ s.length ≤ 60
  | .d l => byt l ∧ l.length ≤ 60
theorem gch_byt {s : List Nat} (h : s.all gch = true) : byt s := by
  intro y hy
  have := List.all_eq_true.mp h y hy
  simp [gch] at this
  omega
theorem Pt.byt {p : Pt} (h : p.ok) : Ul.byt p.by ∧ p.by.length ≤ 60 := by
  cases p with
  | t s => exact ⟨gch_byt h.1, h.2⟩
  | d l => exact h
inductive K4 where
  | s | a | r | w
  deriving DecidableEq
def K4.nm : K4 → List Nat
  | .a => [97, 100, 109, 105, 116] | .r => [114, 101, 112, 108, 97, 99, 101] | .w => [119, 105, 116, 104, 100, 114, 97, 119] | .s => [115, 116, 97, 116, 101]
theorem nm_inj (k l : K4) (h : k.nm = l.nm) : k = l := by cases k <;> cases l <;> first | rfl | (exact absurd h (by decide))
theorem nm_g (k : K4) : k.nm.all gch = true := by cases k <;> decide
theorem nm_l (k : K4) : k.nm.length ≤ 8 := by cases k <;> decide
theorem nm_sm (k : K4) : sm k.nm = true := by cases k <;> decide
theorem eqR (k : K4) : dEq (.str k.nm) (.str [114, 101, 112, 108, 97, 99, 101]) = .ok (decide (k = .r)) := by
  rw [eqS _ _ (nm_sm k) (by decide)]
  cases k <;> rfl
structure En where
  k : K4
  a : List Nat
  b : List Pt
def En.ok (e : En) : Prop := e.a.all gch = true ∧ e.a.length ≤ 60 ∧ (∀ p ∈ e.b, p.ok) ∧ e.b.length ≤ 2
def cE : List Nat := [99, 117, 114, 118, 101, 115, 101, 97, 108, 32, 101, 110, 116, 114, 121]
def cH : List Nat := [99, 117, 114, 118, 101, 115, 101, 97, 108, 32, 104, 101, 97, 100]
def cC : List Nat := [99, 117, 114, 118, 101, 115, 101, 97, 108, 32, 99, 111, 110, 115, 101, 110, 116]
def cD : List Nat := [99, 117, 114, 118, 101, 115, 101, 97, 108, 32, 100, 101, 115, 107]
def En.sb (e : En) : List Pt := if e.k = .r then e.b.take 1 else e.b
def En.ps (e : En) (hd : List Nat) : List (List Nat) := [cE, hd, e.k.nm, e.a] ++ e.sb.map Pt.by
def En.sg (e : En) (hd : List Nat) : List Nat := pk (e.ps hd)
theorem En.sb_mem {e : En} {p : Pt} (h : p ∈ e.sb) : p ∈ e.b := by
  unfold En.sb at h
  split at h
  · exact List.mem_of_mem_take h
  · exact h
theorem ps_ok {e : En} (h : e.ok) {hd : List Nat} (hb : byt hd) (hl : hd.length ≤ 60) : (∀ l ∈ e.ps hd, byt l ∧ l.length ≤ 60) ∧ (e.ps hd).length ≤ 6 := by
  obtain ⟨h1, h2, h3, h4⟩ := h
  refine ⟨fun l hl' => ?_, ?_⟩
  · rcases List.mem_append.mp (show l ∈ [cE, hd, e.k.nm, e.a] ++ e.sb.map Pt.by from hl') with q | q
    · simp only [List.mem_cons, List.not_mem_nil, or_false] at q
      rcases q with rfl | rfl | rfl | rfl
      · exact ⟨gch_byt (by decide), by decide⟩
      · exact ⟨hb, hl⟩
      · exact ⟨gch_byt (nm_g _), Nat.le_trans (nm_l _) (by decide)⟩
      · exact ⟨gch_byt h1, h2⟩
    · obtain ⟨p, hp, rfl⟩ := List.mem_map.mp q
      exact Pt.byt (h3 p (En.sb_mem hp))
  · show ([cE, hd, e.k.nm, e.a] ++ e.sb.map Pt.by).length ≤ 6
    have : e.sb.length ≤ 2 := by
      unfold En.sb
      split
      · rw [List.length_take]; omega
      · exact h4
    rw [List.length_append, List.length_map]
    simp
    omega
theorem sg_byt {e : En} (h : e.ok) {hd : List Nat} (hb : byt hd) (hl : hd.length ≤ 60) : byt (e.sg hd) ∧ (e.sg hd).length ≤ 378 := by
  obtain ⟨q1, q2⟩ := ps_ok h hb hl
  refine ⟨pk_byt _ fun l hl => ⟨(q1 l hl).1, by have := (q1 l hl).2; omega⟩, ?_⟩
  have := pk_len (e.ps hd) 60 fun l hl => (q1 l hl).2
  have h2 : (60 + 3) * (e.ps hd).length ≤ 63 * 6 := Nat.mul_le_mul_left 63 q2
  exact Nat.le_trans this h2
theorem sg_inj {e f : En} (he : e.ok) (hf : f.ok) {hd : List Nat} (hb : byt hd) (hl : hd.length ≤ 60) (h : e.sg hd = f.sg hd) : e.k = f.k ∧ e.a = f.a ∧ e.sb.map Pt.by = f.sb.map Pt.by := by
  have q := pk_inj _ _ (fun l hx => by have := ((ps_ok he hb hl).1 l hx).2; omega) (fun l hx => by have := ((ps_ok hf hb hl).1 l hx).2; omega) h
  have q : cE :: hd :: e.k.nm :: e.a :: e.sb.map Pt.by = cE :: hd :: f.k.nm :: f.a :: f.sb.map Pt.by := q
  injection q with _ q
  injection q with _ q
  injection q with q1 q
  injection q with q2 q3
  exact ⟨nm_inj _ _ q1, q2, q3⟩
end Pg
set_option linter.all false
set_option maxHeartbeats 0
set_option maxRecDepth 100000
set_option exponentiation.threshold 700
namespace Pg
open PySem PySem.Spec PyProof.Rows L2 VE Ul Us Uh
def PD (b : List Pt) : List D := b.map Pt.D
def eD (e : En) (sg : D) : D := .tup [.str e.k.nm, .str e.a, .tup (PD e.b), sg]
theorem lb_map (P : List (List Nat)) : P.map lb = P.map fun l => .lst (bd l) := rfl
theorem part_ok (n : Nat) (p : Pt) (h : p.ok) : callN S (n + 2) 20 [p.D] = .ok (.lst (bd p.by)) := by
  rw [call_eq (F := f20) rfl rfl rfl rfl]
  unfold f20 t20
  cases p with
  | t s =>
    have c := codes n s (by have := h.2; omega) h.1
    show outF (exS _ _ [.val (.str s) false]) = R.ok (.lst (bd s))
    generalize bd s = B at *
    simp [e0, dIsi, c]
  | d l =>
    show outF (exS _ _ [.val (.tup (bd l)) false]) = R.ok (.lst (bd l))
    generalize bd l = B at *
    simp [e0, dIsi]
theorem parts_lc (n : Nat) (e : Ev) (he : e.length = 8) (b : List Pt) (h : ∀ p ∈ b, p.ok) : lcRun (lcF (S.base (callN S (n + 2))) [7] [7] false .no (.call 20 (.cons (.v 7) .nil)) e) (PD b) = .ok (b.map fun p => .lst (bd p.by)) := by
  match e, he with
  | [s0, s1, s2, s3, s4, s5, s6, s7], _ =>
  induction b with
  | nil => rfl
  | cons p r ih =>
    have q := part_ok n p (h p (by simp))
    have ih := ih fun p hp => h p (by simp [hp])
    show (match lcF (S.base (callN S (n + 2))) [7] [7] false .no (.call 20 (.cons (.v 7) .nil)) [s0, s1, s2, s3, s4, s5, s6, s7] p.D with
      | .ok o => (lcRun (lcF (S.base (callN S (n + 2))) [7] [7] false .no (.call 20 (.cons (.v 7) .nil)) [s0, s1, s2, s3, s4, s5, s6, s7]) (PD r)).bind fun l => .ok (consO o l)
      | _ => R.bad) = _
    have k : lcF (S.base (callN S (n + 2))) [7] [7] false .no (.call 20 (.cons (.v 7) .nil)) [s0, s1, s2, s3, s4, s5, s6, s7] p.D = .ok (some (.lst (bd p.by))) := by
      generalize p.D = X at *
      generalize bd p.by = B at *
      simp [lcF, optC, q]
    rw [k, ih]
    rfl
theorem cut_hi {α : Type} (s : List α) (b : Nat) : VE.cutD s none (some (b : Int)) = s.take b := by
  unfold VE.cutD
  rw [sIx_nat, sIx_none, List.drop_zero, Nat.sub_zero]
  rcases Nat.le_total b s.length with h | h
  · rw [Nat.min_eq_left h]
  · rw [Nat.min_eq_right h, List.take_of_length_le (Nat.le_refl _), List.take_of_length_le h]
theorem cut_lo {α : Type} (s : List α) (a : Nat) : VE.cutD s (some (a : Int)) none = s.drop a := by
  unfold VE.cutD
  rw [sIx_nat, sIx_none]
  rcases Nat.le_total a s.length with h | h
  · rw [Nat.min_eq_left h, List.take_of_length_le (by rw [List.length_drop]; exact Nat.le_refl _)]
  · rw [Nat.min_eq_right h, Nat.sub_self, List.take_zero, List.drop_eq_nil_of_le h]
theorem signed_ok (n : Nat) (e : En) (h : e.ok) (hd : List Nat) (hb : byt hd) (hl : hd.length ≤ 60) (sg : D) : callN S (n + 4) 22 [.lst (bd hd), eD e sg] = .ok (.lst (bd (e.sg hd))) := by
  rw [call_eq (F := f22) rfl rfl rfl rfl]
  unfold f22 t22
  obtain ⟨q1, q2⟩ := ps_ok h hb hl
  have pa := pack_ok n (e.ps hd) (fun l hx => by have := (q1 l hx).2; omega) (by omega)
  have c1 := codes (n + 2) cE (by decide) (by decide)
  have c2 := codes (n + 2) e.k.nm (by have := nm_l e.k; omega) (nm_g _)
  have c3 := codes (n + 2) e.a (by have := h.2.1; omega) h.1
  have pl := fun e' he' => parts_lc (n + 1) e' he' e.sb fun p hp => h.2.2.1 p (En.sb_mem hp)
  have er := eqR e.k
  have sl : (e.sb.map fun p => D.lst (bd p.by)).length ≤ 800 := by
    rw [List.length_map]
    have := h.2.2.2
    unfold En.sb
    split
    · rw [List.length_take]; omega
    · omega
  have ep : (e.ps hd).map lb = .lst (bd cE) :: .lst (bd hd) :: .lst (bd e.k.nm) :: .lst (bd e.a) :: e.sb.map fun p => .lst (bd p.by) := by
    show ([cE, hd, e.k.nm, e.a] ++ e.sb.map Pt.by).map lb = _
    rw [List.map_append, List.map_map]
    rfl
  rw [ep] at pa
  have lz : (PD e.sb).length < SZ := by
    have := h.2.2.2
    have sZ : SZ = 16777216 := rfl
    unfold PD
    rw [List.length_map]
    unfold En.sb
    split
    · rw [List.length_take]; omega
    · omega
  unfold eD
  have ck : PD e.sb = if e.k = .r then (PD e.b).take 1 else PD e.b := by
    unfold En.sb PD
    split
    · rw [List.map_take]
    · rfl
  have cu : VE.cutD (PD e.b) none (some 1) = (PD e.b).take 1 := cut_hi (PD e.b) 1
  have eS : En.sg e hd = pk (e.ps hd) := rfl
  rw [eS]
  unfold cE at c1 pa
  generalize bd (pk (e.ps hd)) = RES at *
  generalize (e.sb.map fun p => D.lst (bd p.by)) = PL at *
  generalize bd hd = HD at *
  generalize bd e.k.nm = BK at *
  generalize bd e.a = BA at *
  generalize bd [99, 117, 114, 118, 101, 115, 101, 97, 108, 32, 101, 110, 116, 114, 121] = BE at *
  generalize PD e.sb = PS at *
  generalize PD e.b = PB at *
  by_cases hr : e.k = .r
  · rw [if_pos hr] at ck
    rw [decide_eq_true hr] at er
    subst ck
    generalize e.k.nm = KN at *
    simp [e0, er, cu, pl, lz, c1, c2, c3, sl, pa, optI, -List.length_take]
  · rw [if_neg hr] at ck
    rw [decide_eq_false hr] at er
    subst ck
    generalize e.k.nm = KN at *
    simp [e0, er, pl, lz, c1, c2, c3, sl, pa]
theorem lsg_body (n : Nat) (s0 s1 s3 : Sl) (p : Pt) (A : List D) (hp : p.ok) (hl : A.length < 1000) : (forB (S.base (callN S (n + 1))) [3] false (.seq (.iff [] (.isi (.v 3) .str) (.seq (.mut .lappend 2 [] (.cons (.call 30 (.cons (.v 3) .nil)) .nil)) .pass) (.seq (.mut .lappend 2 [] (.cons (.bi .list (.cons (.v 3) .nil)) .nil)) .pass)) .pass)) p.D [s0, s1, .val (.lst A) true, s3] = .nx [s0, s1, .val (.lst (A ++ [.lst (bd p.by)])) true, .val p.D false] := by
  have sz : A.length < SZ := by have : SZ = 16777216 := rfl; omega
  unfold forB
  cases p with
  | t s =>
    have c := lcodes n s (by have := hp.2; omega)
    rw [show (Pt.t s).D = .str s from rfl, show (Pt.t s).by = s from rfl]
    generalize bd s = B at *
    simp [dIsi, c, sz]
  | d l =>
    rw [show (Pt.d l).D = .tup (bd l) from rfl, show (Pt.d l).by = l from rfl]
    generalize bd l = B at *
    simp [dIsi, sz]
theorem lsgL (n : Nat) (s0 s1 : Sl) : ∀ (b : List Pt) (A : List D) (s3 : Sl), (∀ p ∈ b, p.ok) → A.length + b.length ≤ 1000 → ∃ s3', forL (forB (S.base (callN S (n + 1))) [3] false (.seq (.iff [] (.isi (.v 3) .str) (.seq (.mut .lappend 2 [] (.cons (.call 30 (.cons (.v 3) .nil)) .nil)) .pass) (.seq (.mut .lappend 2 [] (.cons (.bi .list (.cons (.v 3) .nil)) .nil)) .pass)) .pass)) (PD b) [s0, s1, .val (.lst A) true, s3] = .nx [s0, s1, .val (.lst (A ++ b.map fun p => .lst (bd p.by))) true, s3']
  | [], A, s3, _, _ => ⟨s3, by simp [PD, forL]⟩
  | p :: b, A, s3, h, hl => by
    have hl : A.length + (b.length + 1) ≤ 1000 := hl
    obtain ⟨s3', q⟩ := lsgL n s0 s1 b (A ++ [.lst (bd p.by)]) (.val p.D false) (fun p hp => h p (by simp [hp])) (by rw [List.length_append, List.length_singleton]; omega)
    refine ⟨s3', ?_⟩
    have e : (A ++ (p :: b).map fun p => D.lst (bd p.by)) = (A ++ [.lst (bd p.by)]) ++ b.map fun p => .lst (bd p.by) := by simp
    rw [show PD (p :: b) = p.D :: PD b from rfl, forL_cons, e, ← q, lsg_body n s0 s1 s3 p A (h p (by simp)) (by omega)]
theorem lsigned_ok (n : Nat) (e : En) (h : e.ok) (hd : List Nat) (hb : byt hd) (hl : hd.length ≤ 60) (sg : D) : callN S (n + 2) 34 [.lst (bd hd), eD e sg] = .ok (.lst (bd (e.sg hd))) := by
  rw [call_eq (F := f34) rfl rfl rfl rfl]
  unfold f34 t34
  obtain ⟨q1, q2⟩ := ps_ok h hb hl
  have pa := lpack_ok n (e.ps hd) (fun l hx => by have := (q1 l hx).2; omega) (by omega)
  have c1 := lcodes n cE (by decide)
  have c2 := lcodes n e.k.nm (by have := nm_l e.k; omega)
  have c3 := lcodes n e.a (by have := h.2.1; omega)
  obtain ⟨s3', pl⟩ := lsgL n (.val (.lst (bd hd)) false) (.val (eD e sg) false) e.b [] .emp h.2.2.1 (by have := h.2.2.2; simp; omega)
  have er := eqR e.k
  have sl : (e.sb.map fun p => D.lst (bd p.by)).length ≤ 2 := by
    rw [List.length_map]
    have := h.2.2.2
    unfold En.sb
    split
    · rw [List.length_take]; omega
    · omega
  have ep : (e.ps hd).map lb = .lst (bd cE) :: .lst (bd hd) :: .lst (bd e.k.nm) :: .lst (bd e.a) :: e.sb.map fun p => .lst (bd p.by) := by
    show ([cE, hd, e.k.nm, e.a] ++ e.sb.map Pt.by).map lb = _
    rw [List.map_append, List.map_map]
    rfl
  rw [ep] at pa
  rw [List.nil_append] at pl
  unfold eD at *
  have ck : (e.sb.map fun p => D.lst (bd p.by)) = if e.k = .r then (e.b.map fun p => D.lst (bd p.by)).take 1 else e.b.map fun p => D.lst (bd p.by) := by
    unfold En.sb
    split
    · rw [List.map_take]
    · rfl
  have cu : VE.cutD (e.b.map fun p => D.lst (bd p.by)) none (some 1) = (e.b.map fun p => D.lst (bd p.by)).take 1 := cut_hi _ 1
  have eS : En.sg e hd = pk (e.ps hd) := rfl
  rw [eS]
  have sz : 4 + (e.sb.map fun p => D.lst (bd p.by)).length ≤ SZ := by have : SZ = 16777216 := rfl; omega
  unfold cE at c1 pa
  generalize bd (pk (e.ps hd)) = RES at *
  generalize (e.sb.map fun p => D.lst (bd p.by)) = PL at *
  generalize (e.b.map fun p => D.lst (bd p.by)) = PM at *
  generalize bd hd = HD at *
  generalize bd e.k.nm = BK at *
  generalize bd e.a = BA at *
  generalize bd [99, 117, 114, 118, 101, 115, 101, 97, 108, 32, 101, 110, 116, 114, 121] = BE at *
  generalize PD e.b = PB at *
  by_cases hr : e.k = .r
  · rw [if_pos hr] at ck
    rw [decide_eq_true hr] at er
    subst ck
    generalize e.k.nm = KN at *
    simp [e0, er, cu, pl, c1, c2, c3, sl, sz, pa, optI, clrE_one, -List.length_take]
  · rw [if_neg hr] at ck
    rw [decide_eq_false hr] at er
    subst ck
    generalize e.k.nm = KN at *
    simp [e0, er, pl, c1, c2, c3, sl, sz, pa, clrE_one]
def En.nx (e : En) (hd sg : List Nat) : List Nat := pk [cH, e.sg hd, if e.k = .r then (e.b.map Pt.by).getD 1 [] else [], sg]
def En.two (e : En) : Prop := e.k = .r → ∃ t d, e.b = [.t t, .d d]
theorem nx_ok {e : En} (h : e.ok) (ht : e.two) {hd : List Nat} (hb : byt hd) (hl : hd.length ≤ 60) {sg : List Nat} (sb : byt sg) (sl : sg.length ≤ 60) : ∀ l ∈ [cH, e.sg hd, if e.k = .r then (e.b.map Pt.by).getD 1 [] else [], sg], byt l ∧ l.length < 60000 := by
  obtain ⟨q1, q2⟩ := sg_byt h hb hl
  intro l hx
  simp only [List.mem_cons, List.not_mem_nil, or_false] at hx
  rcases hx with rfl | rfl | rfl | rfl
  · exact ⟨gch_byt (by decide), by decide⟩
  · exact ⟨q1, by omega⟩
  · split
    · rename_i hr
      obtain ⟨t, d, hd⟩ := ht hr
      have := Pt.byt (h.2.2.1 (.d d) (by rw [hd]; simp))
      rw [hd]
      exact ⟨this.1, by have := this.2; show d.length < 60000; exact Nat.lt_of_le_of_lt this (by decide)⟩
    · exact ⟨fun _ h => (by cases h), by decide⟩
  · exact ⟨sb, by omega⟩
theorem nxd_ok {e : En} (h : e.ok) (ht : e.two) {hd : List Nat} (hb : byt hd) (hl : hd.length ≤ 60) {sg : List Nat} (sb : byt sg) (sl : sg.length ≤ 60) : byt (e.nx hd sg) ∧ (e.nx hd sg).length ≤ 1048576 := by
  have q := nx_ok h ht hb hl sb sl
  refine ⟨pk_byt _ q, ?_⟩
  have := pk_len _ 59999 fun l hx => by have := (q l hx).2; omega
  exact Nat.le_trans this (by show 60002 * 4 ≤ _; decide)
theorem next_ok (n : Nat) (e : En) (h : e.ok) (ht : e.two) (hd : List Nat) (hb : byt hd) (hl : hd.length ≤ 60) (sg : List Nat) (sb : byt sg) (sl : sg.length ≤ 60) : callN S (n + 7) 24 [.lst (bd hd), eD e (.tup (bd sg))] = .ok (.lst (bd (dgN false (e.nx hd sg)))) := by
  rw [call_eq (F := f24) rfl rfl rfl rfl]
  unfold f24 t24
  have q := nx_ok h ht hb hl sb sl
  have pa := pack_ok (n + 3) [cH, e.sg hd, if e.k = .r then (e.b.map Pt.by).getD 1 [] else [], sg] (fun l hx => (q l hx).2) (by simp)
  have sn := signed_ok (n + 2) e h hd hb hl (.tup (bd sg))
  obtain ⟨k1, k2⟩ := nxd_ok h ht hb hl sb sl
  have sh := shad n (e.nx hd sg) k1 k2
  have ii := iniS (n + 3)
  have cs := csS
  have oc := objC_S
  have mt := mtSd
  have c1 := codes (n + 5) cH (by decide) (by decide)
  have er := eqR e.k
  have eN : pk [cH, e.sg hd, if e.k = .r then (e.b.map Pt.by).getD 1 [] else [], sg] = e.nx hd sg := rfl
  rw [eN] at pa
  unfold eD at *
  by_cases hr : e.k = .r
  · rw [decide_eq_true hr] at er
    obtain ⟨t, d, hd'⟩ := ht hr
    rw [if_pos hr, hd'] at pa
    rw [hd'] at sn ⊢
    rw [show PD [.t t, .d d] = [.str t, .tup (bd d)] from rfl] at sn ⊢
    have pa : callN S (n + 6) 19 [.lst [.lst (bd cH), .lst (bd (e.sg hd)), .lst (bd d), .lst (bd sg)]] = _ := pa
    unfold cH at c1 pa
    generalize bd (dgN false (e.nx hd sg)) = RES at *
    generalize bd (e.nx hd sg) = NX at *
    generalize bd (e.sg hd) = SG at *
    generalize bd sg = SI at *
    generalize bd hd = HD at *
    generalize bd d = BD at *
    generalize bd [99, 117, 114, 118, 101, 115, 101, 97, 108, 32, 104, 101, 97, 100] = CH at *
    generalize e.k.nm = KN at *
    generalize hS = H at *
    simp [e0, er, pa, sn, sh, ii, cs, oc, mt, c1]
  · rw [decide_eq_false hr] at er
    rw [if_neg hr] at pa
    have pa : callN S (n + 6) 19 [.lst [.lst (bd cH), .lst (bd (e.sg hd)), .lst [], .lst (bd sg)]] = _ := pa
    unfold cH at c1 pa
    generalize bd (dgN false (e.nx hd sg)) = RES at *
    generalize bd (e.nx hd sg) = NX at *
    generalize bd (e.sg hd) = SG at *
    generalize bd sg = SI at *
    generalize bd hd = HD at *
    generalize PD e.b = PB at *
    generalize bd [99, 117, 114, 118, 101, 115, 101, 97, 108, 32, 104, 101, 97, 100] = CH at *
    generalize e.k.nm = KN at *
    generalize hS = H at *
    simp [e0, er, pa, sn, sh, ii, cs, oc, mt, c1]
theorem lnext_ok (n : Nat) (e : En) (h : e.ok) (ht : e.two) (hd : List Nat) (hb : byt hd) (hl : hd.length ≤ 60) (sg : List Nat) (sb : byt sg) (sl : sg.length ≤ 60) : callN S (n + 3) 35 [.lst (bd hd), eD e (.tup (bd sg))] = .ok (.lst (bd (e.nx hd sg))) := by
  rw [call_eq (F := f35) rfl rfl rfl rfl]
  unfold f35 t35
  have q := nx_ok h ht hb hl sb sl
  have pa := lpack_ok (n + 1) [cH, e.sg hd, if e.k = .r then (e.b.map Pt.by).getD 1 [] else [], sg] (fun l hx => (q l hx).2) (by simp)
  have sn := lsigned_ok n e h hd hb hl (.tup (bd sg))
  have c1 := lcodes (n + 1) cH (by decide)
  have er := eqR e.k
  have eN : pk [cH, e.sg hd, if e.k = .r then (e.b.map Pt.by).getD 1 [] else [], sg] = e.nx hd sg := rfl
  rw [eN] at pa
  unfold eD at *
  by_cases hr : e.k = .r
  · rw [decide_eq_true hr] at er
    obtain ⟨t, d, hd'⟩ := ht hr
    rw [if_pos hr, hd'] at pa
    rw [hd'] at sn ⊢
    rw [show PD [.t t, .d d] = [.str t, .tup (bd d)] from rfl] at sn ⊢
    have pa : callN S (n + 2) 31 [.lst [.lst (bd cH), .lst (bd (e.sg hd)), .lst (bd d), .lst (bd sg)]] = _ := pa
    unfold cH at c1 pa
    generalize bd (e.nx hd sg) = NX at *
    generalize bd (e.sg hd) = SG at *
    generalize bd sg = SI at *
    generalize bd hd = HD at *
    generalize bd d = BD at *
    generalize bd [99, 117, 114, 118, 101, 115, 101, 97, 108, 32, 104, 101, 97, 100] = CH at *
    generalize e.k.nm = KN at *
    simp [e0, er, pa, sn, c1]
  · rw [decide_eq_false hr] at er
    rw [if_neg hr] at pa
    have pa : callN S (n + 2) 31 [.lst [.lst (bd cH), .lst (bd (e.sg hd)), .lst [], .lst (bd sg)]] = _ := pa
    unfold cH at c1 pa
    generalize bd (e.nx hd sg) = NX at *
    generalize bd (e.sg hd) = SG at *
    generalize bd sg = SI at *
    generalize bd hd = HD at *
    generalize PD e.b = PB at *
    generalize bd [99, 117, 114, 118, 101, 115, 101, 97, 108, 32, 104, 101, 97, 100] = CH at *
    generalize e.k.nm = KN at *
    simp [e0, er, pa, sn, c1]
theorem consent_ok (n : Nat) (hd a k : List Nat) (hb : hd.length ≤ 60) (ha : a.all gch = true) (la : a.length ≤ 60) (hk : k.all gch = true) (lk : k.length ≤ 60) : callN S (n + 4) 23 [.lst (bd hd), .str a, .str k] = .ok (.lst (bd (pk [cC, hd, a, k]))) := by
  rw [call_eq (F := f23) rfl rfl rfl rfl]
  unfold f23 t23
  have pa := pack_ok n [cC, hd, a, k] (fun l hx => by
    simp only [List.mem_cons, List.not_mem_nil, or_false] at hx
    rcases hx with rfl | rfl | rfl | rfl
    · decide
    all_goals omega) (by simp)
  have pa : callN S (n + 3) 19 [.lst [.lst (bd cC), .lst (bd hd), .lst (bd a), .lst (bd k)]] = _ := pa
  have c1 := codes (n + 2) cC (by decide) (by decide)
  have c2 := codes (n + 2) a (by omega) ha
  have c3 := codes (n + 2) k (by omega) hk
  generalize bd (pk [cC, hd, a, k]) = RES at *
  unfold cC at c1 pa
  generalize bd [99, 117, 114, 118, 101, 115, 101, 97, 108, 32, 99, 111, 110, 115, 101, 110, 116] = CC at *
  generalize bd hd = HD at *
  generalize bd a = BA at *
  generalize bd k = BK at *
  simp [e0, pa, c1, c2, c3]
theorem first_lc (n : Nat) (s0 s1 s2 : Sl) : ∀ (Rs : List (List Nat)), (∀ s ∈ Rs, s.all gch = true ∧ s.length ≤ 60) → lcRun (lcF (S.base (callN S (n + 1))) [2] [2] false .no (.call 4 (.cons (.v 2) .nil)) [s0, s1, s2]) (Rs.map D.str) = .ok (Rs.map lb)
  | [], _ => rfl
  | s :: Rs, h => by
    have ih := first_lc n s0 s1 s2 Rs fun s hs => h s (by simp [hs])
    obtain ⟨h1, h2⟩ := h s (by simp)
    have c := codes n s (by omega) h1
    show (match lcF (S.base (callN S (n + 1))) [2] [2] false .no (.call 4 (.cons (.v 2) .nil)) [s0, s1, s2] (.str s) with
      | .ok o => (lcRun (lcF (S.base (callN S (n + 1))) [2] [2] false .no (.call 4 (.cons (.v 2) .nil)) [s0, s1, s2]) (Rs.map D.str)).bind fun l => .ok (consO o l)
      | _ => R.bad) = _
    have k : lcF (S.base (callN S (n + 1))) [2] [2] false .no (.call 4 (.cons (.v 2) .nil)) [s0, s1, s2] (.str s) = .ok (some (lb s)) := by
      unfold lb
      generalize bd s = B at *
      simp [lcF, optC, c]
    rw [k, ih]
    rfl
theorem pks_ok (P : List (List Nat)) (h : ∀ l ∈ P, l.all gch = true ∧ l.length ≤ 60) (hl : P.length ≤ 100) : byt (pk P) ∧ (pk P).length ≤ 1048576 := by
  refine ⟨pk_byt _ fun l hx => ⟨gch_byt (h l hx).1, by have := (h l hx).2; omega⟩, ?_⟩
  have := pk_len P 60 fun l hx => (h l hx).2
  have h2 : (60 + 3) * P.length ≤ 63 * 100 := Nat.mul_le_mul_left 63 hl
  omega
theorem first_ok (n : Nat) (nm : List Nat) (R : List (List Nat)) (h : ∀ s ∈ nm :: R, s.all gch = true ∧ s.length ≤ 60) (hR : R.length ≤ 90) : callN S (n + 7) 21 [.str nm, .lst (R.map D.str)] = .ok (.lst (bd (dgN false (pk (cD :: nm :: R))))) := by
  rw [call_eq (F := f21) rfl rfl rfl rfl]
  unfold f21 t21
  have hh : ∀ s ∈ cD :: nm :: R, s.all gch = true ∧ s.length ≤ 60 := fun s hs => by
    rcases List.mem_cons.mp hs with rfl | hs
    · exact ⟨by decide, by decide⟩
    · exact h s hs
  have lc := first_lc (n + 5) (.val (.str nm) false) (.val (.lst (R.map D.str)) false) .emp (cD :: nm :: R) hh
  have pa := pack_ok (n + 3) (cD :: nm :: R) (fun l hx => by have := (hh l hx).2; omega) (by simp; omega)
  obtain ⟨k1, k2⟩ := pks_ok (cD :: nm :: R) hh (by simp; omega)
  have sh := shad n _ k1 k2
  have ii := iniS (n + 3)
  have cs := csS
  have oc := objC_S
  have mt := mtSd
  have lR : (R.map D.str).length ≤ 800 := by rw [List.length_map]; omega
  have lS : (R.map D.str).length + 1 + 1 < SZ := by have : SZ = 16777216 := rfl; rw [List.length_map]; omega
  generalize bd (dgN false (pk (cD :: nm :: R))) = RES at *
  generalize bd (pk (cD :: nm :: R)) = PK at *
  rw [show (cD :: nm :: R).map D.str = .str cD :: .str nm :: R.map D.str from rfl] at lc
  unfold cD at lc pa
  generalize (([99, 117, 114, 118, 101, 115, 101, 97, 108, 32, 100, 101, 115, 107] : List Nat) :: nm :: R).map lb = ML at *
  generalize R.map D.str = RS at *
  generalize hS = H at *
  simp [e0, lc, pa, sh, ii, cs, oc, mt, lR, lS]
end Pg
set_option linter.all false
set_option maxHeartbeats 0
set_option maxRecDepth 100000
set_option exponentiation.threshold 700
namespace Pg
open PySem PySem.Spec PyProof.Rows L2 VE Ul Us Uh
def K4.ix : K4 → Nat
  | .s => 0 | .a => 1 | .r => 2 | .w => 3
def bod (k : K4) (t r d : List Nat) : List Pt := match k with
  | .s => [.d d] | .a => [.t t, .t r] | .r => [.t t, .d d] | .w => [.t t]
def R8 : List D := [.str [], .str [97], .str [115], .str [119], .str [97, 115], .str [97, 119], .str [115, 119], .str [97, 115, 119]]
theorem r8_at : ∀ j : Nat, j < 8 → ∃ s, atI R8 (j : Int) = some (.str s) ∧ s.all gch = true ∧ s.length ≤ 3
  | 0, _ => ⟨_, rfl, by decide, by decide⟩
  | 1, _ => ⟨_, rfl, by decide, by decide⟩
  | 2, _ => ⟨_, rfl, by decide, by decide⟩
  | 3, _ => ⟨_, rfl, by decide, by decide⟩
  | 4, _ => ⟨_, rfl, by decide, by decide⟩
  | 5, _ => ⟨_, rfl, by decide, by decide⟩
  | 6, _ => ⟨_, rfl, by decide, by decide⟩
  | 7, _ => ⟨_, rfl, by decide, by decide⟩
  | n + 8, h => by omega
theorem lent_ok (n : Nat) (ns : List Int) (hb : ∀ z ∈ ns, Builtin.Int.intBits z ≤ 1048576) (k : K4) : ∃ a t r d sg : List Nat, callN S (n + 3) 33 [.frz (ns.map .int), .int k.ix, .int (6 + 4 * (k.ix : Int))] = .ok (eD ⟨k, a, bod k t r d⟩ (.tup (bd sg))) ∧ (a.all gch = true ∧ a.length ≤ 39) ∧ (t.all gch = true ∧ t.length ≤ 39) ∧ (r.all gch = true ∧ r.length ≤ 3) ∧ (byt d ∧ d.length ≤ 59) ∧ byt sg ∧ sg.length ≤ 59 := by
  rw [call_eq (F := f33) rfl rfl rfl rfl]
  unfold f33 t33
  have g0 : callN S (n + 2) 25 [.frz (ns.map .int), .int (6 + 4 * (k.ix : Int))] = .ok (.int (ns.getD (6 + 4 * k.ix) 0)) := by
    rw [show (6 + 4 * (k.ix : Int)) = ((6 + 4 * k.ix : Nat) : Int) by omega]; exact cell (n + 1) ns _
  have g1 : callN S (n + 2) 25 [.frz (ns.map .int), .int (6 + 4 * (k.ix : Int) + 1)] = .ok (.int (ns.getD (6 + 4 * k.ix + 1) 0)) := by
    rw [show (6 + 4 * (k.ix : Int) + 1) = ((6 + 4 * k.ix + 1 : Nat) : Int) by omega]; exact cell (n + 1) ns _
  have g2 : callN S (n + 2) 25 [.frz (ns.map .int), .int (6 + 4 * (k.ix : Int) + 2)] = .ok (.int (ns.getD (6 + 4 * k.ix + 2) 0)) := by
    rw [show (6 + 4 * (k.ix : Int) + 2) = ((6 + 4 * k.ix + 2 : Nat) : Int) by omega]; exact cell (n + 1) ns _
  have g3 : callN S (n + 2) 25 [.frz (ns.map .int), .int (6 + 4 * (k.ix : Int) + 3)] = .ok (.int (ns.getD (6 + 4 * k.ix + 3) 0)) := by
    rw [show (6 + 4 * (k.ix : Int) + 3) = ((6 + 4 * k.ix + 3 : Nat) : Int) by omega]; exact cell (n + 1) ns _
  generalize (6 + 4 * (k.ix : Int)) = AT at *
  have b0 := big_cell hb (6 + 4 * k.ix)
  have b3 := big_cell hb (6 + 4 * k.ix + 3)
  clear hb
  generalize ns.getD (6 + 4 * k.ix) 0 = x0 at *
  generalize ns.getD (6 + 4 * k.ix + 1) 0 = x1 at *
  generalize ns.getD (6 + 4 * k.ix + 2) 0 = x2 at *
  generalize ns.getD (6 + 4 * k.ix + 3) 0 = x3 at *
  generalize ns.map D.int = NS at *
  have a0 := abs7 x0
  have a1 := abs7 x1
  have a2 := abs7 x2
  have a3 := abs7 x3
  obtain ⟨d, hd, bd1, ld⟩ := bytes n ((x0.natAbs / 60 : Nat) : Int) (by rw [Int.natAbs_natCast]; exact Nat.lt_of_le_of_lt (Nat.div_le_self _ _) b0) (x0.natAbs % 60) (by have := Nat.mod_lt x0.natAbs (show 60 > 0 by decide); omega)
  obtain ⟨sg, hs, bs, ls⟩ := bytes n x3 b3 (x3.natAbs % 50) (by have := Nat.mod_lt x3.natAbs (show 50 > 0 by decide); omega)
  clear b0 b3
  generalize hq3 : x3.natAbs = c3 at *
  clear hq3
  generalize x0.natAbs = c at *
  generalize x1.natAbs = c1 at *
  generalize x2.natAbs = c2 at *
  obtain ⟨t, ht, gt, lt⟩ := text_ok (n + 1) c1
  obtain ⟨a, ha, ga, la⟩ := text_ok (n + 1) c2
  obtain ⟨r, hr, gr, lr⟩ := r8_at (c % 8) (Nat.mod_lt _ (by decide))
  unfold R8 at hr
  have f60 := fd c 60 60 rfl
  have m60 := fm c 60 60 rfl
  have m8 := fm c 8 8 rfl
  have m50 := fm c3 50 50 rfl
  have m40 := Nat.mod_lt c1 (show 40 > 0 by decide)
  have n40 := Nat.mod_lt c2 (show 40 > 0 by decide)
  have n60 := Nat.mod_lt c (show 60 > 0 by decide)
  have n50 := Nat.mod_lt c3 (show 50 > 0 by decide)
  refine ⟨a, t, r, d, sg, ?_, ⟨ga, by omega⟩, ⟨gt, by omega⟩, ⟨gr, lr⟩, ⟨bd1, by omega⟩, bs, by omega⟩
  clear n40 n60 n50 m40 lt la ld ls
  unfold eD PD bod
  generalize hB : bd d = BDD at *
  generalize bd sg = BSG at *
  cases k with
  | s =>
    simp [e0, g0, g1, g2, g3, a0, a1, a2, a3, f60, m60, m8, m50, hd, hs, ht, ha, hr, K4.ix, K4.nm, Pt.D, hB, -Int.natCast_ediv, -Int.natCast_emod]
  | a =>
    simp [e0, g0, g1, g2, g3, a0, a1, a2, a3, f60, m60, m8, m50, hd, hs, ht, ha, hr, K4.ix, K4.nm, Pt.D, hB, -Int.natCast_ediv, -Int.natCast_emod]
  | r =>
    simp [e0, g0, g1, g2, g3, a0, a1, a2, a3, f60, m60, m8, m50, hd, hs, ht, ha, hr, K4.ix, K4.nm, Pt.D, hB, -Int.natCast_ediv, -Int.natCast_emod]
  | w =>
    simp [e0, g0, g1, g2, g3, a0, a1, a2, a3, f60, m60, m8, m50, hd, hs, ht, ha, hr, K4.ix, K4.nm, Pt.D, hB, -Int.natCast_ediv, -Int.natCast_emod]
def chg (c : Nat) (k : K4) (a t r d : List Nat) : En :=
  if c % 3 = 0 then ⟨k, a ++ [120], bod k t r d⟩
  else if c % 3 = 1 ∧ (k = .s ∨ k = .w) then (if k = .w then ⟨.s, a, [.d [7]]⟩ else ⟨.w, a, [.t [97]]⟩)
  else if k = .s then ⟨.s, a, [.d (d ++ [c % 256])]⟩
  else ⟨k, a, bod k (t ++ [122]) r d⟩
theorem bod_ok (k : K4) {t r d : List Nat} (ht : t.all gch = true ∧ t.length ≤ 60) (hr : r.all gch = true ∧ r.length ≤ 3) (hd : byt d ∧ d.length ≤ 60) : (∀ p ∈ bod k t r d, p.ok) ∧ (bod k t r d).length ≤ 2 := by
  have hr2 : r.all gch = true ∧ r.length ≤ 60 := ⟨hr.1, by omega⟩
  cases k <;> refine ⟨fun p hp => ?_, by simp [bod]⟩ <;> simp only [bod, List.mem_cons, List.not_mem_nil, or_false] at hp
  · subst hp; exact hd
  · rcases hp with rfl | rfl
    · exact ht
    · exact hr2
  · rcases hp with rfl | rfl
    · exact ht
    · exact hd
  · subst hp; exact ht
theorem all_app1 {s : List Nat} {c : Nat} (h : s.all gch = true) (hc : gch c = true) : (s ++ [c]).all gch = true := by rw [List.all_append, h]; simp [hc]
section
variable (c : Nat) (k : K4) {a t r d : List Nat} (ha : a.all gch = true ∧ a.length ≤ 39) (ht : t.all gch = true ∧ t.length ≤ 39) (hr : r.all gch = true ∧ r.length ≤ 3) (hd : byt d ∧ d.length ≤ 59)
include ha ht hr hd
theorem en_ok : En.ok ⟨k, a, bod k t r d⟩ := by
  have q := bod_ok k (t := t) (r := r) (d := d) ⟨ht.1, by omega⟩ hr ⟨hd.1, by omega⟩
  exact ⟨ha.1, Nat.le_trans ha.2 (by decide), q.1, q.2⟩
theorem chg_ok : (chg c k a t r d).ok := by
  unfold chg
  have al : a.length ≤ 60 := by omega
  split
  · have q := bod_ok k (t := t) (r := r) (d := d) ⟨ht.1, by omega⟩ hr ⟨hd.1, by omega⟩
    refine ⟨all_app1 ha.1 (by decide), ?_, q.1, q.2⟩
    show (a ++ [120]).length ≤ 60
    rw [List.length_append, List.length_singleton]; omega
  · split
    · split
      · refine ⟨ha.1, al, fun p hp => ?_, by simp⟩
        rw [List.mem_singleton.mp hp]
        exact ⟨fun b hb => by rw [List.mem_singleton.mp hb]; decide, by decide⟩
      · refine ⟨ha.1, al, fun p hp => ?_, by simp⟩
        rw [List.mem_singleton.mp hp]
        exact ⟨by decide, by decide⟩
    · split
      · refine ⟨ha.1, al, fun p hp => ?_, by simp⟩
        rw [List.mem_singleton.mp hp]
        refine ⟨fun b hb => ?_, by rw [List.length_append, List.length_singleton]; omega⟩
        rcases List.mem_append.mp hb with h | h
        · exact hd.1 b h
        · rw [List.mem_singleton.mp h]; omega
      · have q := bod_ok k (t := t ++ [122]) (r := r) (d := d) ⟨all_app1 ht.1 (by decide), by rw [List.length_append, List.length_singleton]; omega⟩ hr ⟨hd.1, by omega⟩
        exact ⟨ha.1, al, q.1, q.2⟩
theorem chg_ne {hd' : List Nat} (hb : byt hd') (hl : hd'.length ≤ 60) : (chg c k a t r d).sg hd' ≠ En.sg ⟨k, a, bod k t r d⟩ hd' := by
  intro h
  obtain ⟨h1, h2, h3⟩ := sg_inj (chg_ok c k ha ht hr hd) (en_ok k ha ht hr hd) hb hl h
  unfold chg at h1 h2 h3
  have ne : ∀ (l : List Nat) (x : Nat), l ++ [x] ≠ l := fun l x z => by
    have := congrArg List.length z
    simp at this
  split at h1
  · rename_i h0
    rw [if_pos h0] at h2
    exact ne _ _ h2
  · rename_i h0
    rw [if_neg h0] at h2 h3
    split at h1
    · rename_i h4
      rw [if_pos h4] at h2 h3
      split at h1
      · rename_i h5; rw [h5] at h1; cases h1
      · rename_i h5
        have h1 : K4.w = k := h1
        exact h5 h1.symm
    · rename_i h4
      rw [if_neg h4] at h2 h3
      split at h1
      · rename_i h5
        rw [if_pos h5] at h3
        subst h5
        have h3 : [d ++ [c % 256]] = [d] := h3
        injection h3 with h3
        exact ne _ _ h3
      · rename_i h5
        rw [if_neg h5] at h3
        cases k with
        | s => exact h5 rfl
        | a =>
          have h3 : [t ++ [122], r] = [t, r] := h3
          injection h3 with h3
          exact ne _ _ h3
        | r =>
          have h3 : [t ++ [122]] = [t] := h3
          injection h3 with h3
          exact ne _ _ h3
        | w =>
          have h3 : [t ++ [122]] = [t] := h3
          injection h3 with h3
          exact ne _ _ h3
end
theorem inSW (k : K4) : dIn (.str k.nm) (.tup [.str K4.s.nm, .str K4.w.nm]) = .ok (decide (k = .s ∨ k = .w)) := by
  show (if true then R.ok (dEqv (.str K4.s.nm) (.str k.nm) || (dEqv (.str K4.w.nm) (.str k.nm) || false)) else .bad) = _
  rw [eqvS, eqvS]
  cases k <;> rfl
theorem eqW (k : K4) : dEq (.str k.nm) (.str [119, 105, 116, 104, 100, 114, 97, 119]) = .ok (decide (k = .w)) := by
  rw [eqS _ _ (nm_sm k) (by decide)]
  cases k <;> rfl
theorem eqSt (k : K4) : dEq (.str k.nm) (.str [115, 116, 97, 116, 101]) = .ok (decide (k = .s)) := by
  rw [eqS _ _ (nm_sm k) (by decide)]
  cases k <;> rfl
theorem lchg_ok (n c : Nat) (k : K4) (a t r d : List Nat) (la : a.length ≤ 39) (lt : t.length ≤ 39) (ld : d.length ≤ 59) (sg : D) : callN S (n + 1) 36 [eD ⟨k, a, bod k t r d⟩ sg, .int c] = .ok (eD (chg c k a t r d) sg) := by
  rw [call_eq (F := f36) rfl rfl rfl rfl]
  unfold f36 t36
  have m3 := fm c 3 3 rfl
  have m256 := fm c 256 256 rfl
  have sz1 : a.length + 1 ≤ SZ := by have : SZ = 16777216 := rfl; omega
  have sz2 : t.length + 1 ≤ SZ := by have : SZ = 16777216 := rfl; omega
  have sz3 : (bd d).length + 1 ≤ SZ := by have : SZ = 16777216 := rfl; rw [bd_len]; omega
  have sz4 : 2 ≤ SZ := by decide
  have sz5 : 1 ≤ SZ := by decide
  have i := inSW k
  have ew := eqW k
  have es := eqSt k
  have cu1 : ∀ x : D, VE.cutD [x] (some 1) none = [] := fun x => cut_lo [x] 1
  have cu2 : ∀ x y : D, VE.cutD [x, y] (some 1) none = [y] := fun x y => cut_lo [x, y] 1
  have bda : bd (d ++ [c % 256]) = bd d ++ [.int ((c % 256 : Nat) : Int)] := by simp [bd]
  have b7 : bd [7] = [.int 7] := rfl
  unfold eD chg PD
  by_cases h0 : c % 3 = 0
  · have h0' : ((c % 3 : Nat) : Int) = 0 := by omega
    simp only [h0, if_true]
    generalize (bod k t r d).map Pt.D = BB
    generalize k.nm = KN at *
    simp [e0, m3, h0', sz1, -Int.natCast_emod]
  · have h0' : ¬ ((c % 3 : Nat) : Int) = 0 := by omega
    by_cases h1 : c % 3 = 1
    · have h1' : ((c % 3 : Nat) : Int) = 1 := by omega
      cases k <;> simp [K4.nm] at i ew es <;> simp [e0, m3, h0', h1', h0, h1, i, ew, es, bod, Pt.D, K4.nm, cu1, cu2, b7, sz2, sz3, sz4, sz5, optI, -Int.natCast_emod]
    · have h1' : ¬ ((c % 3 : Nat) : Int) = 1 := by omega
      cases k <;> simp [K4.nm] at i ew es <;> simp [e0, m3, m256, h0', h1', h0, h1, i, ew, es, bod, Pt.D, K4.nm, cu1, cu2, bda, sz2, sz3, sz4, sz5, optI, -Int.natCast_emod]
end Pg
set_option linter.all false
set_option maxHeartbeats 0
set_option maxRecDepth 100000
set_option exponentiation.threshold 700
namespace Pg
open PySem PySem.Spec PyProof.Rows L2 VE Ul Us Uh
theorem cut3 (a b c d : D) : VE.cutD [a, b, c, d] none (some 3) = [a, b, c] := cut_hi [a, b, c, d] 3
theorem cut2 (a b c d : D) : VE.cutD [a, b, c, d] none (some 2) = [a, b] := cut_hi [a, b, c, d] 2
theorem sg_r9 (a t d hd : List Nat) : En.sg ⟨.r, a, [.t t, .d [9]]⟩ hd = En.sg ⟨.r, a, [.t t, .d d]⟩ hd := rfl
theorem kix (k : K4) : (k.ix : Int) = 2 ↔ k = .r := by cases k <;> simp [K4.ix]
theorem eqI2 (k : K4) : dEq (.int k.ix) (.int 2) = .ok (decide (k = .r)) := by cases k <;> rfl
theorem bodyF (n : Nat) (ns : List Int) (hb : ∀ z ∈ ns, Builtin.Int.intBits z ≤ 1048576) (hd : List Nat) (bh : byt hd) (lh : hd.length ≤ 60) (k : K4) (s2 s3 s4 s5 s7 s8 s9 s10 s11 s12 s13 : Sl) :
    ∃ s5' s7' s8' s9' s10' s11', (forB (S.base (callN S (n + 8))) [7] false (.seq (.asg 8 [] false (.call 33 (.cons (.v 0) (.cons (.v 7) (.cons (.bin .Add (.ci 6) (.bin .Mult (.ci 4) (.v 7))) .nil))))) (.seq (.asg 9 [] false (.bi .list (.cons (.v 6) .nil))) (.seq (.asg 10 [] false (.call 22 (.cons (.v 9) (.cons (.v 8) .nil)))) (.seq (.iff [] (.or (.not (.call 29 (.cons (.v 10) (.cons (.call 34 (.cons (.v 6) (.cons (.v 8) .nil))) .nil)))) (.cmp .NotEq (.v 9) (.v 6))) (.seq (.ret false [] (.cb false)) .pass) .pass) (.seq (.iff [] (.cmp .NotEq (.call 22 (.cons (.v 9) (.cons (.bin .Add (.sl (.v 8) .no (.ci 3)) (.tup (.cons (.tup (.cons (.ci 1) (.cons (.ci 2) .nil))) .nil))) .nil))) (.v 10)) (.seq (.ret false [] (.cb false)) .pass) .pass) (.seq (.iff [] (.and (.cmp .Eq (.v 7) (.ci 2)) (.cmp .NotEq (.call 22 (.cons (.v 9) (.cons (.bin .Add (.sl (.v 8) .no (.ci 2)) (.tup (.cons (.tup (.cons (.ix (.ix (.v 8) (.ci 2)) (.ci 0)) (.cons (.tup (.cons (.ci 9) .nil)) .nil))) (.cons (.ix (.v 8) (.ci 3)) .nil)))) .nil))) (.v 10))) (.seq (.ret false [] (.cb false)) .pass) .pass) (.seq (.iff [] (.cmp .Eq (.call 22 (.cons (.v 9) (.cons (.call 36 (.cons (.v 8) (.cons (.bi .abs (.cons (.call 25 (.cons (.v 0) (.cons (.bin .Add (.ci 22) (.v 7)) .nil))) .nil)) .nil))) .nil))) (.v 10)) (.seq (.ret false [] (.cb false)) .pass) .pass) (.seq (.iff [] (.or (.not (.call 29 (.cons (.call 24 (.cons (.v 9) (.cons (.v 8) .nil))) (.cons (.meth 5 (.v 1) (.cons (.call 35 (.cons (.v 6) (.cons (.v 8) .nil))) .nil)) .nil)))) (.cmp .NotEq (.v 9) (.v 6))) (.seq (.ret false [] (.cb false)) .pass) .pass) (.seq (.asg 11 [] false (.call 32 (.cons (.bi .abs (.cons (.call 25 (.cons (.v 0) (.cons (.ci 26) .nil))) .nil)) .nil))) (.seq (.asg 5 [] false (.call 31 (.cons (.lst (.cons (.call 30 (.cons (.cs [99, 117, 114, 118, 101, 115, 101, 97, 108, 32, 99, 111, 110, 115, 101, 110, 116]) .nil)) (.cons (.v 6) (.cons (.call 30 (.cons (.ix (.v 8) (.ci 1)) .nil)) (.cons (.call 30 (.cons (.v 11) .nil)) .nil))))) .nil))) (.seq (.iff [] (.not (.call 29 (.cons (.call 23 (.cons (.v 9) (.cons (.ix (.v 8) (.ci 1)) (.cons (.v 11) .nil)))) (.cons (.v 5) .nil)))) (.seq (.ret false [] (.cb false)) .pass) .pass) .pass)))))))))))) (.int k.ix) [.val (.frz (ns.map D.int)) false, .val hS false, s2, s3, s4, s5, .val (.lst (bd hd)) false, s7, s8, s9, s10, s11, s12, s13] = .nx [.val (.frz (ns.map D.int)) false, .val hS false, s2, s3, s4, s5', .val (.lst (bd hd)) false, s7', s8', s9', s10', s11', s12, s13] := by
  obtain ⟨a, t, r, d, sg, he, ha, ht, hr, hdd, bs, ls⟩ := lent_ok (n + 5) ns hb k
  have eok : En.ok ⟨k, a, bod k t r d⟩ := en_ok k ha ht hr hdd
  have two : En.two ⟨k, a, bod k t r d⟩ := fun z => by
    have z : k = .r := z
    subst z
    exact ⟨t, d, rfl⟩
  have g22 : callN S (n + 8) 25 [.frz (ns.map .int), .int (22 + (k.ix : Int))] = .ok (.int (ns.getD (22 + k.ix) 0)) := by
    rw [show (22 + (k.ix : Int)) = ((22 + k.ix : Nat) : Int) by omega]; exact cell (n + 7) ns _
  have g26 : callN S (n + 8) 25 [.frz (ns.map .int), .int 26] = .ok (.int (ns.getD 26 0)) := cell (n + 7) ns 26
  have a22 := abs7 (ns.getD (22 + k.ix) 0)
  have a26 := abs7 (ns.getD 26 0)
  generalize ns.getD (22 + k.ix) 0 = x22 at *
  generalize ns.getD 26 0 = x26 at *
  generalize x22.natAbs = c22 at *
  generalize x26.natAbs = c26 at *
  obtain ⟨ky, hk, gk, lk⟩ := text_ok (n + 7) c26
  have m40 := Nat.mod_lt c26 (show 40 > 0 by decide)
  have S1 := signed_ok (n + 4) _ eok hd bh lh (.tup (bd sg))
  have S2 := signed_ok (n + 4) _ eok hd bh lh (.tup [.int 1, .int 2])
  have S3 := signed_ok (n + 4) _ (chg_ok c22 k ha ht hr hdd) hd bh lh (.tup (bd sg))
  have L1 := lsigned_ok (n + 6) _ eok hd bh lh (.tup (bd sg))
  have CH := lchg_ok (n + 7) c22 k a t r d ha.2 ht.2 hdd.2 (.tup (bd sg))
  have NE := chg_ne c22 k ha ht hr hdd bh lh
  have N1 := next_ok (n + 1) _ eok two hd bh lh sg bs (by omega)
  have N2 := lnext_ok (n + 5) _ eok two hd bh lh sg bs (by omega)
  obtain ⟨x1, x2⟩ := nxd_ok eok two bh lh bs (show sg.length ≤ 60 by omega)
  have H1 := shad (n + 2) _ x1 x2
  have C1 := consent_ok (n + 4) hd a ky lh ha.1 (by omega) gk (by omega)
  have C2 := lpack_ok (n + 7) [cC, hd, a, ky] (fun l hx => by
    simp only [List.mem_cons, List.not_mem_nil, or_false] at hx
    rcases hx with rfl | rfl | rfl | rfl
    · decide
    all_goals omega) (by simp)
  have C2 : callN S (n + 8) 31 [.lst [.lst (bd cC), .lst (bd hd), .lst (bd a), .lst (bd ky)]] = _ := C2
  have c1 := lcodes (n + 7) cC (by decide)
  have c2 := lcodes (n + 7) a (by omega)
  have c3 := lcodes (n + 7) ky (by omega)
  have I1 := islist (n + 6) (En.sg ⟨k, a, bod k t r d⟩ hd)
  have I2 := islist (n + 6) (dgN false (En.nx ⟨k, a, bod k t r d⟩ hd sg))
  have I3 := islist (n + 6) (pk [cC, hd, a, ky])
  have E1 := eqBd hd hd
  have E2 := eqBd (En.sg ⟨k, a, bod k t r d⟩ hd) (En.sg ⟨k, a, bod k t r d⟩ hd)
  have E3 := eqBd ((chg c22 k a t r d).sg hd) (En.sg ⟨k, a, bod k t r d⟩ hd)
  rw [decide_eq_true rfl] at E1 E2
  rw [decide_eq_false NE] at E3
  have mo : mulOk 4 (k.ix : Int) := mul_ok (a := 20) (b := 20) (by decide) (by rw [Int.natAbs_natCast]; cases k <;> decide) (by decide)
  have oc := objC_S
  have mt := mtSd
  have ek := eqI2 k
  have S4 : k = .r → callN S (n + 8) 22 [.lst (bd hd), .tup [.str K4.r.nm, .str a, .tup [.str t, .tup [.int 9]], .tup (bd sg)]] = .ok (.lst (bd (En.sg ⟨k, a, bod k t r d⟩ hd))) := fun z => by
    subst z
    have o9 : En.ok ⟨.r, a, [.t t, .d [9]]⟩ := by
      refine ⟨ha.1, Nat.le_trans ha.2 (by decide), fun p hp => ?_, by simp⟩
      simp only [List.mem_cons, List.not_mem_nil, or_false] at hp
      rcases hp with rfl | rfl
      · exact ⟨ht.1, Nat.le_trans ht.2 (by decide)⟩
      · exact ⟨fun b hb => by rw [List.mem_singleton.mp hb]; decide, by decide⟩
    exact signed_ok (n + 4) ⟨.r, a, [.t t, .d [9]]⟩ o9 hd bh lh (.tup (bd sg))
  refine ⟨.val (.lst (bd (pk [cC, hd, a, ky]))) false, .val (.int k.ix) false, .val (eD ⟨k, a, bod k t r d⟩ (.tup (bd sg))) false, .val (.lst (bd hd)) false, .val (.lst (bd (En.sg ⟨k, a, bod k t r d⟩ hd))) false, .val (.str ky) false, ?_⟩
  clear hb eok two NE x1 x2 lk m40 ha ht hr hdd bs ls bh lh gk
  unfold eD at *
  generalize (chg c22 k a t r d).sg hd = SGc at *
  generalize hG : En.sg ⟨k, a, bod k t r d⟩ hd = SG at *
  generalize dgN false (En.nx ⟨k, a, bod k t r d⟩ hd sg) = DG at *
  generalize En.nx ⟨k, a, bod k t r d⟩ hd sg = NX at *
  generalize pk [cC, hd, a, ky] = PK at *
  unfold cC at c1 C2
  have z4 : 4 ≤ SZ := by decide
  generalize chg c22 k a t r d = CG at *
  generalize bd SGc = BSc at *
  generalize bd SG = BSG at *
  generalize bd DG = BDG at *
  generalize bd NX = BNX at *
  generalize bd PK = BPK at *
  generalize bd sg = BS at *
  generalize bd a = BA at *
  generalize bd ky = BK at *
  generalize bd hd = BH at *
  generalize ns.map D.int = NS at *
  generalize hS = H at *
  generalize PD CG.b = PC at *
  unfold forB
  by_cases z : k = .r
  · have S4 := S4 z
    subst z
    have PB : PD (bod .r t r d) = [.str t, .tup (bd d)] := rfl
    generalize PD (bod .r t r d) = PX at *
    subst PB
    generalize bd d = BDD at *
    simp [g22, g26, a22, a26, he, hk, S1, S2, S3, S4, L1, CH, N1, N2, H1, C1, C2, c1, c2, c3, I1, I2, I3, E1, E2, E3, mo, oc, mt, ek, cut3, cut2, optI, z4]
  · rw [decide_eq_false z] at ek
    generalize PD (bod k t r d) = PB at *
    generalize k.nm = KN at *
    simp [g22, g26, a22, a26, he, hk, S1, S2, S3, L1, CH, N1, N2, H1, C1, C2, c1, c2, c3, I1, I2, I3, E1, E2, E3, mo, oc, mt, ek, cut3, cut2, optI, z4]
theorem str3 : ∀ k : Nat, k < 3 → dBi .str [.int k] = .ok (.str [48 + k])
  | 0, _ => rfl
  | 1, _ => rfl
  | 2, _ => rfl
  | n + 3, h => by omega
theorem roots_lc (n : Nat) (ns : List Int) (e : Ev) (he : e.length = 14) (h0 : sg e 0 = .val (.frz (ns.map D.int)) false) : ∀ (m k : Nat), k + m ≤ 3 → ∃ Rs : List (List Nat), lcRun (lcF (S.base (callN S (n + 1))) [12] [12] false .no (.bin .Add (.bin .Add (.cs [114]) (.call 32 (.cons (.bi .abs (.cons (.call 25 (.cons (.v 0) (.cons (.bin .Add (.ci 1) (.v 12)) .nil))) .nil)) .nil))) (.bi .str (.cons (.v 12) .nil))) e) (rngL (k : Nat) 1 m) = .ok (Rs.map D.str) ∧ (∀ s ∈ Rs, s.all gch = true ∧ s.length ≤ 60) ∧ Rs.length = m := by
  match e, he with
  | [s0, s1, s2, s3, s4, s5, s6, s7, s8, s9, s10, s11, s12, s13], _ =>
  have h0 : s0 = .val (.frz (ns.map D.int)) false := h0
  subst h0
  intro m
  induction m with
  | zero => intro k _; exact ⟨[], rfl, (fun _ h => by cases h), rfl⟩
  | succ m ih =>
    intro k hk
    obtain ⟨Rs, q, q1, q2⟩ := ih (k + 1) (by omega)
    have g1 : callN S (n + 1) 25 [.frz (ns.map .int), .int (1 + (k : Int))] = .ok (.int (ns.getD (1 + k) 0)) := by
      rw [show (1 + (k : Int)) = ((1 + k : Nat) : Int) by omega]; exact cell n ns _
    have a1 := abs7 (ns.getD (1 + k) 0)
    generalize ns.getD (1 + k) 0 = x1 at *
    generalize x1.natAbs = c1 at *
    obtain ⟨t, ht, gt, lt⟩ := text_ok n c1
    have m40 := Nat.mod_lt c1 (show 40 > 0 by decide)
    have st3 := str3 k (by omega)
    have sz1 : 1 + t.length ≤ SZ := by have : SZ = 16777216 := rfl; omega
    have sz2 : t.length + 1 + 1 ≤ SZ := by have : SZ = 16777216 := rfl; omega
    refine ⟨(114 :: t ++ [48 + k]) :: Rs, ?_, fun s hs => ?_, by simp [q2]⟩
    · rw [rngL_succ, ← show ((k + 1 : Nat) : Int) = (k : Int) + 1 from by omega]
      show (match lcF (S.base (callN S (n + 1))) [12] [12] false .no (.bin .Add (.bin .Add (.cs [114]) (.call 32 (.cons (.bi .abs (.cons (.call 25 (.cons (.v 0) (.cons (.bin .Add (.ci 1) (.v 12)) .nil))) .nil)) .nil))) (.bi .str (.cons (.v 12) .nil))) [.val (.frz (ns.map D.int)) false, s1, s2, s3, s4, s5, s6, s7, s8, s9, s10, s11, s12, s13] (.int k) with
        | .ok o => (lcRun (lcF (S.base (callN S (n + 1))) [12] [12] false .no (.bin .Add (.bin .Add (.cs [114]) (.call 32 (.cons (.bi .abs (.cons (.call 25 (.cons (.v 0) (.cons (.bin .Add (.ci 1) (.v 12)) .nil))) .nil)) .nil))) (.bi .str (.cons (.v 12) .nil))) [.val (.frz (ns.map D.int)) false, s1, s2, s3, s4, s5, s6, s7, s8, s9, s10, s11, s12, s13]) (rngL ((k + 1 : Nat) : Int) 1 m)).bind fun l => .ok (consO o l)
        | _ => R.bad) = _
      have kk : lcF (S.base (callN S (n + 1))) [12] [12] false .no (.bin .Add (.bin .Add (.cs [114]) (.call 32 (.cons (.bi .abs (.cons (.call 25 (.cons (.v 0) (.cons (.bin .Add (.ci 1) (.v 12)) .nil))) .nil)) .nil))) (.bi .str (.cons (.v 12) .nil))) [.val (.frz (ns.map D.int)) false, s1, s2, s3, s4, s5, s6, s7, s8, s9, s10, s11, s12, s13] (.int k) = .ok (some (.str (114 :: t ++ [48 + k]))) := by
        generalize ns.map D.int = NS at *
        simp [lcF, optC, g1, a1, ht, st3, sz1, sz2]
      rw [kk, q]
      rfl
    · rcases List.mem_cons.mp hs with rfl | hs
      · refine ⟨?_, by simp; omega⟩
        have z : gch (48 + k) = true := by simp [gch]; omega
        exact all_app1 (show (gch 114 && t.all gch) = true by rw [gt]; rfl) z
      · exact q1 s hs
theorem lfirst_lc (n : Nat) (e : Ev) (he : e.length = 14) : ∀ (Rs : List (List Nat)), (∀ s ∈ Rs, s.all gch = true ∧ s.length ≤ 60) → lcRun (lcF (S.base (callN S (n + 1))) [13] [13] false .no (.call 30 (.cons (.v 13) .nil)) e) (Rs.map D.str) = .ok (Rs.map lb) := by
  match e, he with
  | [s0, s1, s2, s3, s4, s5, s6, s7, s8, s9, s10, s11, s12, s13], _ =>
  intro Rs
  induction Rs with
  | nil => intro _; rfl
  | cons s Rs ih =>
    intro h
    have ih := ih fun s hs => h s (by simp [hs])
    obtain ⟨h1, h2⟩ := h s (by simp)
    have c := lcodes n s (by omega)
    show (match lcF (S.base (callN S (n + 1))) [13] [13] false .no (.call 30 (.cons (.v 13) .nil)) [s0, s1, s2, s3, s4, s5, s6, s7, s8, s9, s10, s11, s12, s13] (.str s) with
      | .ok o => (lcRun (lcF (S.base (callN S (n + 1))) [13] [13] false .no (.call 30 (.cons (.v 13) .nil)) [s0, s1, s2, s3, s4, s5, s6, s7, s8, s9, s10, s11, s12, s13]) (Rs.map D.str)).bind fun l => .ok (consO o l)
      | _ => R.bad) = _
    have k : lcF (S.base (callN S (n + 1))) [13] [13] false .no (.call 30 (.cons (.v 13) .nil)) [s0, s1, s2, s3, s4, s5, s6, s7, s8, s9, s10, s11, s12, s13] (.str s) = .ok (some (lb s)) := by
      unfold lb
      generalize bd s = B at *
      simp [lcF, optC, c]
    rw [k, ih]
    rfl
theorem main : ∀ ns : List Int, ns.length ≤ 63 → (∀ z ∈ ns, Builtin.Int.intBits z ≤ 1048576) → callN S lvl 37 [.frz (ns.map D.int)] = .ok (.bl true) := by
  intro ns _ hb
  show callN S 16 _ _ = _
  rw [call_eq (F := f37) rfl rfl rfl rfl]
  unfold f37 t37
  have g0 : callN S 15 25 [.frz (ns.map .int), .int 0] = .ok (.int (ns.getD 0 0)) := cell 14 ns 0
  have g4 : callN S 15 25 [.frz (ns.map .int), .int 4] = .ok (.int (ns.getD 4 0)) := cell 14 ns 4
  have g5 : callN S 15 25 [.frz (ns.map .int), .int 5] = .ok (.int (ns.getD 5 0)) := cell 14 ns 5
  have b5 := big_cell hb 5
  have a0 := abs7 (ns.getD 0 0)
  obtain ⟨m, hm⟩ := Int.eq_ofNat_of_zero_le (show 0 ≤ ns.getD 4 0 % 3 by omega)
  have m3 : Int.fmod (ns.getD 4 0) 3 = (m : Int) := by rw [Int.fmod_eq_emod_of_nonneg _ (by decide), hm]
  have hm2 : m < 3 := by omega
  have c32 : ((32 : Nat) : Int) = 32 := rfl
  clear hm
  obtain ⟨hd, hh, bh, lh⟩ := bytes 13 (ns.getD 5 0) b5 32 (by decide)
  rw [c32] at hh
  clear b5
  have m9 := fm (ns.getD 0 0).natAbs 9 9 rfl
  have n9 := Nat.mod_lt (ns.getD 0 0).natAbs (show 9 > 0 by decide)
  obtain ⟨t, ht, gt, lt⟩ := text_ok 14 ((ns.getD 0 0).natAbs % 9)
  have rl := rpl_ok t (by omega)
  have gn : (100 :: rp 45 99 (rp 58 98 (rp 32 97 t))).all gch = true := by
    show (gch 100 && (rp 45 99 (rp 58 98 (rp 32 97 t))).all gch) = true
    rw [rp_gch _ _ (by decide) _ (rp_gch _ _ (by decide) _ (rp_gch _ _ (by decide) _ gt))]
    rfl
  have ln : (100 :: rp 45 99 (rp 58 98 (rp 32 97 t))).length ≤ 60 := by
    rw [List.length_cons, rp_len, rp_len, rp_len]; omega
  generalize (100 :: rp 45 99 (rp 58 98 (rp 32 97 t))) = nm at *
  obtain ⟨Rs, R1, R2, R3⟩ := roots_lc 14 ns [.val (.frz (ns.map D.int)) false, .val hS false, .val (.str nm) false, .emp, .emp, .emp, .emp, .emp, .emp, .emp, .emp, .emp, .emp, .emp] rfl rfl (1 + m) 0 (by omega)
  rw [show ((0 : Nat) : Int) = 0 from rfl] at R1
  have hh1 : ∀ s ∈ nm :: Rs, s.all gch = true ∧ s.length ≤ 60 := fun s hs => by
    rcases List.mem_cons.mp hs with rfl | hs
    · exact ⟨gn, ln⟩
    · exact R2 s hs
  have hh2 : ∀ s ∈ cD :: nm :: Rs, s.all gch = true ∧ s.length ≤ 60 := fun s hs => by
    rcases List.mem_cons.mp hs with rfl | hs
    · exact ⟨by decide, by decide⟩
    · exact hh1 s hs
  have F1 := first_ok 8 nm Rs hh1 (by omega)
  have lc := fun e he => lfirst_lc 14 e he (cD :: nm :: Rs) hh2
  have pa := lpack_ok 14 (cD :: nm :: Rs) (fun l hx => by have := (hh2 l hx).2; omega) (by simp; omega)
  obtain ⟨k1, k2⟩ := pks_ok (cD :: nm :: Rs) hh2 (by simp; omega)
  have sh := shad 9 _ k1 k2
  have ii := iniS 12
  have cs := csS
  have oc := objC_S
  have mt := mtSd
  have I1 := islist 13 (dgN false (pk (cD :: nm :: Rs)))
  have eq : dEq (.lst (Rs.map D.str)) (.lst (Rs.map D.str)) = .ok true := eqL_t (by
    intro d hd
    obtain ⟨l, hl, rfl⟩ := List.mem_map.mp hd
    refine cmS l ?_
    unfold sm
    rw [List.all_eq_true]
    intro c hc
    have := List.all_eq_true.mp (R2 l hl).1 c hc
    simp [gch] at this
    exact decide_eq_true (by omega))
  have i4 : VE.inR 4 := inR_of (by decide) (by decide)
  have im : VE.inR (1 + (m : Int)) := inR_of (by omega) (by omega)
  have tn : (1 + (m : Int)).toNat = 1 + m := by omega
  have szR : (rngL 0 1 (1 + m)).length < SZ := by
    have : SZ = 16777216 := rfl
    simp [rngL]; omega
  have szC : 2 + (Rs.map D.str).length < SZ := by
    have : SZ = 16777216 := rfl
    rw [List.length_map]; omega
  have szC3 : (Rs.map D.str).length + 1 + 1 < SZ := by omega
  have szC2 : 2 + (Rs.map D.str).length ≤ SZ := by omega
  have lp : ∀ s5 : Sl, ∃ e', forL (forB (S.base (callN S 15)) [7] false (.seq (.asg 8 [] false (.call 33 (.cons (.v 0) (.cons (.v 7) (.cons (.bin .Add (.ci 6) (.bin .Mult (.ci 4) (.v 7))) .nil))))) (.seq (.asg 9 [] false (.bi .list (.cons (.v 6) .nil))) (.seq (.asg 10 [] false (.call 22 (.cons (.v 9) (.cons (.v 8) .nil)))) (.seq (.iff [] (.or (.not (.call 29 (.cons (.v 10) (.cons (.call 34 (.cons (.v 6) (.cons (.v 8) .nil))) .nil)))) (.cmp .NotEq (.v 9) (.v 6))) (.seq (.ret false [] (.cb false)) .pass) .pass) (.seq (.iff [] (.cmp .NotEq (.call 22 (.cons (.v 9) (.cons (.bin .Add (.sl (.v 8) .no (.ci 3)) (.tup (.cons (.tup (.cons (.ci 1) (.cons (.ci 2) .nil))) .nil))) .nil))) (.v 10)) (.seq (.ret false [] (.cb false)) .pass) .pass) (.seq (.iff [] (.and (.cmp .Eq (.v 7) (.ci 2)) (.cmp .NotEq (.call 22 (.cons (.v 9) (.cons (.bin .Add (.sl (.v 8) .no (.ci 2)) (.tup (.cons (.tup (.cons (.ix (.ix (.v 8) (.ci 2)) (.ci 0)) (.cons (.tup (.cons (.ci 9) .nil)) .nil))) (.cons (.ix (.v 8) (.ci 3)) .nil)))) .nil))) (.v 10))) (.seq (.ret false [] (.cb false)) .pass) .pass) (.seq (.iff [] (.cmp .Eq (.call 22 (.cons (.v 9) (.cons (.call 36 (.cons (.v 8) (.cons (.bi .abs (.cons (.call 25 (.cons (.v 0) (.cons (.bin .Add (.ci 22) (.v 7)) .nil))) .nil)) .nil))) .nil))) (.v 10)) (.seq (.ret false [] (.cb false)) .pass) .pass) (.seq (.iff [] (.or (.not (.call 29 (.cons (.call 24 (.cons (.v 9) (.cons (.v 8) .nil))) (.cons (.meth 5 (.v 1) (.cons (.call 35 (.cons (.v 6) (.cons (.v 8) .nil))) .nil)) .nil)))) (.cmp .NotEq (.v 9) (.v 6))) (.seq (.ret false [] (.cb false)) .pass) .pass) (.seq (.asg 11 [] false (.call 32 (.cons (.bi .abs (.cons (.call 25 (.cons (.v 0) (.cons (.ci 26) .nil))) .nil)) .nil))) (.seq (.asg 5 [] false (.call 31 (.cons (.lst (.cons (.call 30 (.cons (.cs [99, 117, 114, 118, 101, 115, 101, 97, 108, 32, 99, 111, 110, 115, 101, 110, 116]) .nil)) (.cons (.v 6) (.cons (.call 30 (.cons (.ix (.v 8) (.ci 1)) .nil)) (.cons (.call 30 (.cons (.v 11) .nil)) .nil))))) .nil))) (.seq (.iff [] (.not (.call 29 (.cons (.call 23 (.cons (.v 9) (.cons (.ix (.v 8) (.ci 1)) (.cons (.v 11) .nil)))) (.cons (.v 5) .nil)))) (.seq (.ret false [] (.cb false)) .pass) .pass) .pass)))))))))))) (rngL 0 1 4) [.val (.frz (ns.map D.int)) false, .val hS false, .val (.str nm) false, .val (.lst (Rs.map D.str)) false, .val (.lst (Rs.map D.str)) false, s5, .val (.lst (bd hd)) false, .emp, .emp, .emp, .emp, .emp, .emp, .emp] = .nx e' := by
    intro s5
    have lh' : hd.length ≤ 60 := by omega
    obtain ⟨u5, u7, u8, u9, u10, u11, q1⟩ := bodyF 7 ns hb hd bh lh' .s (.val (.str nm) false) (.val (.lst (Rs.map D.str)) false) (.val (.lst (Rs.map D.str)) false) s5 .emp .emp .emp .emp .emp .emp .emp
    obtain ⟨v5, v7, v8, v9, v10, v11, q2⟩ := bodyF 7 ns hb hd bh lh' .a (.val (.str nm) false) (.val (.lst (Rs.map D.str)) false) (.val (.lst (Rs.map D.str)) false) u5 u7 u8 u9 u10 u11 .emp .emp
    obtain ⟨w5, w7, w8, w9, w10, w11, q3⟩ := bodyF 7 ns hb hd bh lh' .r (.val (.str nm) false) (.val (.lst (Rs.map D.str)) false) (.val (.lst (Rs.map D.str)) false) v5 v7 v8 v9 v10 v11 .emp .emp
    obtain ⟨x5, x7, x8, x9, x10, x11, q4⟩ := bodyF 7 ns hb hd bh lh' .w (.val (.str nm) false) (.val (.lst (Rs.map D.str)) false) (.val (.lst (Rs.map D.str)) false) w5 w7 w8 w9 w10 w11 .emp .emp
    refine ⟨[.val (.frz (ns.map D.int)) false, .val hS false, .val (.str nm) false, .val (.lst (Rs.map D.str)) false, .val (.lst (Rs.map D.str)) false, x5, .val (.lst (bd hd)) false, x7, x8, x9, x10, x11, .emp, .emp], ?_⟩
    rw [show rngL 0 1 4 = [.int K4.s.ix, .int K4.a.ix, .int K4.r.ix, .int K4.w.ix] from rfl]
    rw [forL_cons, q1]
    show forL _ _ _ = _
    rw [forL_cons, q2]
    show forL _ _ _ = _
    rw [forL_cons, q3]
    show forL _ _ _ = _
    rw [forL_cons, q4]
    rfl
  obtain ⟨e', lp⟩ : ∃ e', _ = _ := lp (.val (.lst (bd (dgN false (pk (cD :: nm :: Rs))))) false)
  clear hh1 hh2 k1 k2 R2 hb bh gn ln
  rw [show (cD :: nm :: Rs).map D.str = .str cD :: .str nm :: Rs.map D.str from rfl] at lc
  generalize bd (dgN false (pk (cD :: nm :: Rs))) = DG at *
  generalize bd (pk (cD :: nm :: Rs)) = PK at *
  generalize (cD :: nm :: Rs).map lb = ML at *
  unfold cD at lc
  generalize bd hd = BH at *
  generalize Rs.map D.str = RS at *
  generalize ns.map D.int = NS at *
  generalize ns.getD 0 0 = x0 at *
  generalize ns.getD 4 0 = x4 at *
  generalize ns.getD 5 0 = x5 at *
  generalize x0.natAbs = c0 at *
  generalize hS = H at *
  simp [e0, g0, g4, g5, a0, m3, m9, hh, ht, rl, R1, F1, lc, pa, sh, ii, cs, oc, mt, I1, eq, i4, im, tn, szR, szC, szC2, szC3, lp, -Int.natCast_emod]
end Pg
open PySem PySem.W PySem.Calls PyProof.Rows
theorem PySem.Challenge.cw_curveseal_k66_heads_and_signed_bytes_holds : PySem.Challenge.rw_curveseal_k66_heads_and_signed_bytes.Holds := by
  w_on; o_law
  refine RX.head_tab (r := Pg.Rw) (q := view Pg.Rw.prog [0, 54]) (H := Pg.hk) (ob := Pg.ob) (N := 16777216) (M := 8000) (i := 12) (loose := Pg.loose) (d := HandSHeadRun.topDef Pg.Rw.prog 54) (kwd := []) (by decide) Pg.ob_eq
    Pg.run (by kernel_rfl) (by kernel_rfl) (by kernel_rfl) (by rfl) (by first | assumption | decide +kernel) (by decide +kernel) ⟨rfl, rfl, rfl, rfl, rfl, by decide +kernel⟩ ?hw ?hc
  case hw => w_witness2
  case hc =>
    exact VE.end_V (n := 63) (lvl := Pg.lvl) (S := Pg.S) (f0 := 37) (F0 := Pg.f37) (x := "_law_script") rfl (by decide) (by kernel_rfl) ⟨rfl, by decide, by decide⟩ (by decide +kernel) rfl rfl (by kernel_rfl) rfl rfl rfl rfl
      (fun _ _ _ _ _ _ us hl => match us, hl with | [_], _ => rfl) Pg.chk Pg.bAll Pg.bAllK Pg.main
