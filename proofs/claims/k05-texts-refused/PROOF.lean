import PyProof.Rows.All
import Wide.All
import OpenK.AllK
import Wide.FinOn
import HandS.ForMost
import HandS.ForExc
import HandS.IsInst
import HandS.More
import HandS.HeadHook3
import HandS.Wide
import HandS.WideBits
import HandS.TupAny
import HandS.Flow
import KE.DataEq
import HandS.Text
import HandS.Style
import HandS.WideMore
import HandS.StrMore
import HandS.Iter
import HandS.Walk
import KE.GoesMore
import KE.GoesEnum
import HandS.ExcOwn
import HandS.WordsExc
import HandS.ExcIs
import KE.DataMinMax
import HandS.CallSlots
import HandS.HotCalls
import HandS.Replace
import HandS.TupMul
import PyProof.FactsAll.str_8
import HandS.NoneIn
import KE.KDictPairs
import HandS.FStr
import PyProof.DictCopy
import PyProof.StrOps2
import KE.KIndexOf
import KE.KIndexWalk
import HandS.RaiseMore
import Lean
import HandS.Base
import HandS.Call
import HandS.Ends
import HandS.Words
import HandS.Defaults
import HandS.HeadNt
import HandS.Head0
import HandS.Head1
import HandS.Head2
import HandS.HeadEnd
import HandS.HeadHook1
import HandS.HeadHook2
import KE.KStateDown
import PySem.Challenge.RW_widewords_k05_texts_refused
set_option Elab.async false
set_option linter.all false
set_option maxRecDepth 100000
namespace G
open PySem PySem.Spec L2
inductive D where
  | non | bl (b : Bool) | int (i : Int) | str (s : Str) | tup (w : Bool) (ds : List D) | il (ds : List D) | obj (k : Nat) | fn (x : Str) | ty (n : String) | kd (ks : List Str) (ds : List D)
inductive MO where
  | lst (ds : List D) | dK (kvs : List (Key × D)) | dT (kvs : List (List Key × D)) | ins (c : Str) (fs : List (Str × D))
  | tp (ds : List D)
abbrev Sg := List MO
inductive EV where
  | v (d : D) | exc (c : Str)
abbrev Env := List (Option EV)
structure Cc where
  K : PySem.W.Frag
  mg : Str → Option Value
  w : World
def KdAt (K : PySem.W.Frag) (w : World) (p : Addr) (ks : List Str) (vs : List V) : Prop := ∃ (es : Array DictEntry) (n : Nat), KDict K w p es n ∧ es.toList.map He.keyOf = He.keysIn w.params ks ∧ Vals vs (es.toList.map (·.val))
def RoL (K : PySem.W.Frag) (ρ : List Addr) (H : Hp) (p : Addr) (vs : List V) : Prop :=
  (H p = some (.lst vs) ∧ p ∉ ρ) ∨ (∃ o, H p = some (.frz o (.lst vs))) ∨
    ∃ (o : Obj) (its : Array Value) (n : Nat), K.lookup p = some o ∧ o.cls = .type "list" ∧ o.dict = none ∧ o.data = .seq its n ∧ its.size ≤ sizeLine ∧ Vals vs its.toList
def TupAt (K : PySem.W.Frag) (H : Hp) (p : Addr) (vs : List V) (w : Bool) : Prop := (w = true → H p = some (.tup vs)) ∧ SqT K H p vs
mutual
inductive RD (c : Cc) (ρ : List Addr) (H : Hp) : V → D → Prop
  | non : RD c ρ H .non .non
  | bl (b : Bool) : RD c ρ H (.bl b) (.bl b)
  | int (i : Int) : RD c ρ H (.int i) (.int i)
  | str (s : Str) : RD c ρ H (.str s) (.str s)
  | tup {p : Addr} {vs : List V} {w : Bool} {ds : List D} : TupAt c.K H p vs w → RL c ρ H vs ds → RD c ρ H (.ref p) (.tup w ds)
  | il {p : Addr} {vs : List V} {ds : List D} : RoL c.K ρ H p vs → RL c ρ H vs ds → RD c ρ H (.ref p) (.il ds)
  | obj {k : Nat} {a : Addr} : ρ[k]? = some a → RD c ρ H (.ref a) (.obj k)
  | fn {x : Str} {f : Addr} : c.mg x = some (.ref f) → RD c ρ H (.ref f) (.fn x)
  | ty (n : String) : RD c ρ H (.ty n) (.ty n)
  | kd {p : Addr} {ks : List Str} {vs : List V} {ds : List D} : KdAt c.K c.w p ks vs → RL c ρ H vs ds → RD c ρ H (.ref p) (.kd ks ds)
inductive RL (c : Cc) (ρ : List Addr) (H : Hp) : List V → List D → Prop
  | nil : RL c ρ H [] []
  | cons {v : V} {vs : List V} {d : D} {ds : List D} : RD c ρ H v d → RL c ρ H vs ds → RL c ρ H (v :: vs) (d :: ds)
end
section
variable {c : Cc} {ρ ρ' : List Addr} {S S' : Sg} {H H' : Hp} {v v' : V} {d : D} {vs vs' : List V} {ds : List D} {a p : Addr}
theorem RL.len : ∀ {vs : List V} {ds : List D}, RL c ρ H vs ds → vs.length = ds.length
  | _, _, .nil => rfl
  | _, _, .cons _ r => congrArg (· + 1) (RL.len r)
theorem RL.set {x : V} {y : D} (h : RD c ρ H x y) : ∀ {vs : List V} {ds : List D} (i : Nat), RL c ρ H vs ds → RL c ρ H (vs.set i x) (ds.set i y)
  | _, _, _, .nil => .nil
  | _, _, 0, .cons _ r => .cons h r
  | _, _, i + 1, .cons q r => .cons q (RL.set h i r)
theorem RL.take : ∀ {vs : List V} {ds : List D} (n : Nat), RL c ρ H vs ds → RL c ρ H (vs.take n) (ds.take n)
  | _, _, 0, _ => .nil
  | _, _, _ + 1, .nil => .nil
  | _, _, n + 1, .cons h r => .cons h (RL.take n r)
theorem RL.drop : ∀ {vs : List V} {ds : List D} (n : Nat), RL c ρ H vs ds → RL c ρ H (vs.drop n) (ds.drop n)
  | _, _, 0, r => r
  | _, _, _ + 1, .nil => .nil
  | _, _, n + 1, .cons _ r => RL.drop n r
end
end G
set_option autoImplicit false
namespace G
open PySem PySem.Spec L2
inductive Res (α : Type) where
  | ok (a : α) (S : Sg) | er (c : Str) (S : Sg) | st
def Res.bind {α β : Type} (r : Res α) (g : α → Sg → Res β) : Res β := match r with
  | .ok a S => g a S
  | .er c S => .er c S
  | .st => .st
@[simp] theorem Res.bind_okN {α β : Type} (a : α) (S : Sg) (g : α → Sg → Res β) : (Res.ok a S).bind g = g a S := id rfl
@[simp] theorem Res.bind_erN {α β : Type} (c : Str) (S : Sg) (g : α → Sg → Res β) : (Res.er c S : Res α).bind g = .er c S := id rfl
@[simp] theorem Res.bind_stN {α β : Type} (g : α → Sg → Res β) : (Res.st : Res α).bind g = .st := id rfl
structure RelEnv (c : Cc) (pn : List (Addr × Obj)) (ρ : List Addr) (H : Hp) (σ : L2.St) (env : Env) : Prop where
  len : σ.length = env.length
  v : ∀ (i : Nat) (d : D), env[i]? = some (some (EV.v d)) → ∃ v, σ[i]? = some (some v) ∧ RD c ρ H v d
  x : ∀ (i : Nat) (n : Str), env[i]? = some (some (EV.exc n)) → ∃ (a : Addr) (oe : Obj) (C : Addr), σ[i]? = some (some (V.ref a)) ∧ (a, oe) ∈ pn ∧ oe.cls = Value.ref C ∧ oe.dict = none ∧ (∃ vs, oe.data = _root_.PySem.Data.fields vs) ∧ c.mg n = some (Value.ref C)
theorem RelEnv.set {c : Cc} {pn : List (Addr × Obj)} {ρ : List Addr} {H : Hp} {σ : L2.St} {env : Env} {x : V} {d : D} (h : RelEnv c pn ρ H σ env) (i : Nat) (r : RD c ρ H x d) : RelEnv c pn ρ H (σ.set i (some x)) (env.set i (some (EV.v d))) := by
  refine ⟨by simp [h.len], fun j e hj => ?_, fun j n hj => ?_⟩
  · by_cases hji : i = j
    · subst hji
      by_cases hl : i < env.length
      · rw [List.getElem?_set_self hl] at hj
        cases hj
        exact ⟨x, List.getElem?_set_self (by rw [h.len]; exact hl), r⟩
      · rw [List.getElem?_eq_none (by simp; omega)] at hj
        cases hj
    · rw [List.getElem?_set_ne hji] at hj
      rw [List.getElem?_set_ne hji]
      exact h.v j e hj
  · by_cases hji : i = j
    · subst hji
      by_cases hl : i < env.length
      · rw [List.getElem?_set_self hl] at hj
        cases hj
      · rw [List.getElem?_eq_none (by simp; omega)] at hj
        cases hj
    · rw [List.getElem?_set_ne hji] at hj
      rw [List.getElem?_set_ne hji]
      exact h.x j n hj
section
variable {c : Cc} {W : WX} {σ : L2.St} {ρ ρ' : List Addr} {S : Sg} {H H' : Hp} {α β γ δ : Type} {rel : List Addr → Hp → β → α → Prop} {rel2 : List Addr → Hp → δ → γ → Prop}
end
abbrev FE := Env → Sg → Res D
abbrev FL := Env → Sg → Res (List D)
abbrev FT := Env → Sg → Res Bool
abbrev FO := Env → Sg → Res (Option Int)
abbrev _root_.L2.Cx.cc (X : Cx) : Cc := ⟨X.K, X.mg, X.w⟩
section
variable {X : Cx} {W : WX} {e a b : Expr} {es : List Expr} {pos : Pos}
end
section
variable {X : Cx} {W : WX} {e a b cc : Expr} {es : List Expr} {pos : Pos} {fa fb fc : FE} {fs : FL}
variable {t u : FT} {rest : List Expr}
theorem RL.isEmpty {c : Cc} {ρ : List Addr} {H : Hp} {vs : List V} {ds : List D} (r : RL c ρ H vs ds) : ds.isEmpty = vs.isEmpty := by
  cases r <;> rfl
end
section
variable {c : Cc} {ρ : List Addr} {S : Sg} {H : Hp}
end
section
variable {X : Cx}
end
section
variable {c : Cc} {ρ : List Addr} {S : Sg} {H : Hp}
end
section
variable {c : Cc} {ρ : List Addr} {S : Sg} {H : Hp}
end
section
variable {κ : Type} [DecidableEq κ]
def valD (kvs : List (κ × D)) (k : κ) : Option D := (kvs.find? fun kv => decide (kv.1 = k)).map (·.2)
end
section
variable {κ : Type} [DecidableEq κ] {c : Cc} {ρ : List Addr} {S : Sg} {H : Hp}
end
section
variable {X : Cx}
end
section
variable {c : Cc} {ρ : List Addr} {S : Sg} {H : Hp}
end
section
variable {c : Cc}
end
section
variable {X : Cx} {W : WX} {e a b : Expr} {es : List Expr} {pos : Pos} {fa fb : FE} {fs : FL}
end
end G
namespace HT
open PySem PySem.Spec PyProof.Rows L2
section
variable {prog : Program} {w : World} {A : Around} {E : Value → Shared → Prop} {s : Shared}
end
end HT
namespace L2
open PySem PySem.Spec PyProof.Rows
variable {X : Cx}
end L2
namespace G
open PySem PySem.Spec L2
section
variable {X : Cx} {W : WX} {e a b : Expr} {es : List Expr} {pos : Pos} {fa fb : FE} {fs : FL} {c : Cc} {x : Str} {p : Pos} {r : List V → Hp → VK → Prop} {o : List D → Sg → Res D}
end
end G
namespace PySem
open Sem (wp)
open AutoSeq1 (wpAny_loadPart')
set_option maxHeartbeats 1000000 in
section
variable {prog : Program} {w : World} {A : Around} {E : Value → Shared → Prop} {s : Shared}
end
end PySem
namespace L2
open PySem PySem.Spec PyProof.Rows
end L2
namespace G
open PySem PySem.Spec L2
section
variable {X : Cx} {W : WX} {e a b : Expr} {es : List Expr} {pos apos : Pos} {fa fb : FE} {fs : FL} {c : Cc} {r : V → List V → Hp → VK → Prop} {o : D → List D → Sg → Res D} {T id : String} {name : Str}
end
inductive SR where
  | nx (env : Env) (S : Sg) | rt (d : D) (S : Sg) | bk (env : Env) (S : Sg) | ct (env : Env) (S : Sg) | er (c : Str) (env : Env) (S : Sg) | st
abbrev FS := Env → Sg → SR
def Res.s {α : Type} (r : Res α) (env : Env) (k : α → Sg → SR) : SR := match r with
  | .ok a S => k a S
  | .er c S => .er c env S
  | .st => .st
@[simp] theorem Res.s_okN {α : Type} (a : α) (S : Sg) (env : Env) (k : α → Sg → SR) : (Res.ok a S).s env k = k a S := id rfl
@[simp] theorem Res.s_erN {α : Type} (c : Str) (S : Sg) (env : Env) (k : α → Sg → SR) : (Res.er c S : Res α).s env k = .er c env S := id rfl
@[simp] theorem Res.s_stN {α : Type} (env : Env) (k : α → Sg → SR) : (Res.st : Res α).s env k = .st := id rfl
section
variable {c : Cc} {pn : List (Addr × Obj)} {W : WX} {σ : L2.St} {ρ ρ' : List Addr} {S : Sg} {H H' : Hp} {env : Env} {D D' : Ends}
end
section
variable {X : Cx} {W : WX} {st : Stmt} {sts : List Stmt}
end
section
variable {X : Cx} {W : WX} {st : Stmt} {rest : List Stmt} {e a b : Expr} {pos pos' : Pos} {fa fb : FE} {fs : FL} {g g2 : FS} {t : FT} {x : Str} {i : Nat}
abbrev FG := D → Env → Option Env
def gNm (i : Nat) : FG := fun d env => some (env.set i (some (.v d)))
def gNms : List Nat → List D → Env → Option Env
  | [], [], env => some env
  | i :: is, d :: ds, env => gNms is ds (env.set i (some (.v d)))
  | _, _, _ => none
def gTupN (is : List Nat) : FG := fun d env => match d with
  | .tup _ ds => gNms is ds env
  | _ => none
def tNms : List Nat → TGs
  | [] => gNil
  | i :: is => gCons (gName i) (tNms is)
theorem gNms_len : ∀ {is : List Nat} {ds : List D} {env env' : Env}, gNms is ds env = some env' → ds.length = is.length
  | [], [], _, _, _ => rfl
  | i :: is, d :: ds, env, env', h => congrArg (· + 1) (gNms_len (is := is) (ds := ds) h)
  | [], _ :: _, _, _, h => nomatch h
  | _ :: _, [], _, _, h => nomatch h
end
section
variable {X : Cx} {W : WX} {x m : Str} {pos p p2 pos' : Pos} {j : Nat}
end
section
variable {X : Cx} {W : WX} {e : Expr} {body : List Stmt} {pos : Pos} {t : FT} {g : FS}
end
structure Items where
  ds : List D
  ok : Sg → Prop
abbrev FI := Env → Sg → Res Items
section
variable {X : Cx} {W : WX} {e tg : Expr} {es : List Expr} {pos p : Pos} {fa : FE} {fs : FL}
end
mutual
def D.free : D → Bool
  | .obj _ => false
  | .tup _ ds => D.frees ds
  | .il ds => D.frees ds
  | .kd _ ds => D.frees ds
  | _ => true
def D.frees : List D → Bool
  | [] => true
  | d :: ds => d.free && D.frees ds
end
section
variable {c : Cc} {ρ ρ' : List Addr} {H : Hp}
end
def wipeE (env : Env) : List Nat → Env
  | [] => env
  | v :: vs => (wipeE env vs).set v none
def noExc (env : Env) : Bool := env.all fun
  | some (.exc _) => false
  | _ => true
theorem noExc_at {env : Env} (h : noExc env = true) {i : Nat} {n : Str} : env[i]? ≠ some (some (.exc n)) := by
  intro q
  have := List.all_eq_true.mp h _ (List.mem_of_getElem? q)
  exact absurd this (by simp)
theorem RelEnv.wipe {c : Cc} {pn : List (Addr × Obj)} {ρ : List Addr} {H : Hp} {σ : L2.St} {env : Env} (E : RelEnv c pn ρ H σ env) : ∀ vs : List Nat, RelEnv c pn ρ H (L2.wipe σ vs) (wipeE env vs)
  | [] => E
  | v :: vs => by
    have h := E.wipe vs
    unfold L2.wipe wipeE
    refine ⟨by simp [h.len], fun j d hj => ?_, fun j n hj => ?_⟩
    · by_cases hjv : v = j
      · subst hjv
        by_cases hl : v < (wipeE env vs).length
        · rw [List.getElem?_set_self hl] at hj; cases hj
        · rw [List.getElem?_eq_none (by simp; omega)] at hj; cases hj
      · rw [List.getElem?_set_ne hjv] at hj
        rw [List.getElem?_set_ne hjv]
        exact h.v j d hj
    · by_cases hjv : v = j
      · subst hjv
        by_cases hl : v < (wipeE env vs).length
        · rw [List.getElem?_set_self hl] at hj; cases hj
        · rw [List.getElem?_eq_none (by simp; omega)] at hj; cases hj
      · rw [List.getElem?_set_ne hjv] at hj
        rw [List.getElem?_set_ne hjv]
        exact h.x j n hj
theorem RelEnv.bare {c : Cc} {pn pn' : List (Addr × Obj)} {ρ : List Addr} {H : Hp} {σ : L2.St} {env : Env} (E : RelEnv c pn ρ H σ env) (h : noExc env = true) : RelEnv c pn' ρ H σ env := ⟨E.len, E.v, fun i n q => absurd q (noExc_at h)⟩
inductive Tg where
  | one (i : Nat) | tup (is : List Nat)
def Tg.f : Tg → FG
  | .one i => gNm i
  | .tup is => gTupN is
def Tg.is : Tg → List Nat
  | .one i => [i]
  | .tup is => is
def Tg.t (K : PySem.W.Frag) : Tg → TG
  | .one i => gName i
  | .tup is => gTup K is.length (tNms is)
theorem wipe_set {σ : L2.St} {x : Option V} : ∀ {vs : List Nat} {i : Nat}, i ∈ vs → L2.wipe (σ.set i x) vs = L2.wipe σ vs
  | v :: vs, i, h => by
    unfold L2.wipe
    by_cases hi : i ∈ vs
    · rw [wipe_set hi]
    · have e : i = v := by
        rcases List.mem_cons.mp h with e | e
        · exact e
        · exact absurd e hi
      subst e
      have : ∀ (ws : List Nat) (τ : L2.St), i ∉ ws → L2.wipe (τ.set i x) ws = (L2.wipe τ ws).set i x := by
        intro ws
        induction ws with
        | nil => intro τ _; rfl
        | cons w ws ih =>
          intro τ hw
          simp only [List.mem_cons, not_or] at hw
          unfold L2.wipe
          rw [ih τ hw.2, List.set_comm _ _ hw.1]
      rw [this vs σ hi, List.set_set]
theorem tNms_wipe {c : Cc} {pn : List (Addr × Obj)} {ρ : List Addr} {H : Hp} {own : List Nat} {τ : L2.St} {Q : L2.St → Hp → Prop} : ∀ {is : List Nat} {vs : List V} {ds : List D} {σ : L2.St} {env env' : Env}, RelEnv c pn ρ H σ env → RL c ρ H vs ds → gNms is ds env = some env' →
    (∀ i ∈ is, i ∈ own) → L2.wipe σ own = τ → (∀ σ', RelEnv c pn ρ H σ' env' → L2.wipe σ' own = τ → Q σ' H) → tNms is vs σ H Q
  | [], _, _, _, _, _, E, .nil, h, hi, hw, k => by cases h; exact ⟨rfl, k _ E hw⟩
  | i :: is, _, _, _, _, _, E, .cons h1 h2, h, hi, hw, k => ⟨_, _, rfl, tNms_wipe (E.set i h1) h2 h (fun j hj => hi j (List.mem_cons_of_mem _ hj)) (by rw [wipe_set (hi i List.mem_cons_self)]; exact hw) k⟩
  | [], _, _, _, _, _, E, .cons _ _, h, _, _, k => nomatch h
  | _ :: _, _, _, _, _, _, E, .nil, h, _, _, k => nomatch h
theorem Tg.ok {c : Cc} {pn : List (Addr × Obj)} {ρ : List Addr} {H : Hp} {own : List Nat} {τ σ : L2.St} {env env' : Env} {v : V} {d : D} {Q : L2.St → Hp → Prop} (T : Tg) (E : RelEnv c pn ρ H σ env) (r : RD c ρ H v d) (h : T.f d env = some env')
    (hi : ∀ i ∈ T.is, i ∈ own) (hw : L2.wipe σ own = τ) (k : ∀ σ', RelEnv c pn ρ H σ' env' → L2.wipe σ' own = τ → Q σ' H) : T.t c.K v σ H Q := by
  cases T with
  | one i =>
    cases h
    exact k _ (E.set i r) (by rw [wipe_set (hi i (by simp [Tg.is]))]; exact hw)
  | tup is =>
    cases r with
    | @tup p vs w ds ht hl =>
      exact ⟨p, vs, rfl, ht.2, by rw [hl.len, gNms_len h], tNms_wipe E hl h hi hw k⟩
    | _ => cases h
def Res.quiet {α : Type} (r : Res α) : Res α := match r with
  | .er _ _ => .st
  | r => r
@[simp] theorem Res.quiet_ok {α : Type} (a : α) (S : Sg) : (Res.ok a S).quiet = .ok a S := rfl
@[simp] theorem Res.quiet_er {α : Type} (c : Str) (S : Sg) : (Res.er c S : Res α).quiet = .st := rfl
@[simp] theorem Res.quiet_st {α : Type} : (Res.st : Res α).quiet = .st := rfl
section
variable {X : Cx} {W : WX} {elt tg iter : Expr} {scope : Scope} {own : List (Str × Nat)} {pos : Pos} {fi : FI} {T : Tg} {t : FT} {fe : FE} {use : Bool}
end
abbrev Fn := List D → Sg → Res D
section
variable {c : Cc} {ρ : List Addr} {H : Hp}
end
section
variable {X : Cx} {W : WX} {e : Expr} {es : List Expr} {pos p : Pos} {fs : FL} {k n : Nat} {x : Str} {F : Fn}
end
section
variable {P : Program} {w : World} {K : PySem.W.Frag} {mg : Str → Option Value} {base : Heap}
end
def subX (n c : Str) : Bool := n == c || c == ("WordError" : Str) || c == ("ValueError" : Str)
section
variable {X : Cx} {W : WX} {pos p p2 p3 : Pos} {names : List Str}
end
theorem RelEnv.none {c : Cc} {pn pn' : List (Addr × Obj)} {ρ : List Addr} {H : Hp} {σ : L2.St} {env : Env} {i : Nat} (E : RelEnv c pn ρ H σ env) (h : noExc (env.set i none) = true) : RelEnv c pn' ρ H (σ.set i none) (env.set i none) := by
  refine ⟨by simp [E.len], fun j d hj => ?_, fun j n q => absurd q (noExc_at h)⟩
  by_cases hji : i = j
  · subst hji
    by_cases hl : i < env.length
    · rw [List.getElem?_set_self hl] at hj; cases hj
    · rw [List.getElem?_eq_none (by simp; omega)] at hj; cases hj
  · rw [List.getElem?_set_ne hji] at hj
    rw [List.getElem?_set_ne hji]
    exact E.v j d hj
section
variable {X : Cx} {W : WX} {pos np pos' : Pos} {names : List Str} {body suite : List Stmt} {b₀ : Stmt} {g gs : FS} {h n : Str} {i : Nat}
end
structure Zk where
  P : Program
  w : World
  K : PySem.W.Frag
  mg : Str → Option Value
  base : Heap
  k : Nat
def freeNames : List Str := ["len", "int", "str", "abs", "all", "any", "sum", "tuple", "list", "dict", "bool", "max", "min", "isinstance", "range", "enumerate", "sorted", "zip", "ValueError", "type", "set", "map", "repr", "reversed"]
section
variable {Z : Zk} {N : List Str} {sc : Scope} {X : Cx} {W : WX} {pos : Pos} {e a b cc : Expr} {es : List Expr} {fa fb fc : FE} {fs : FL} {x : Str}
variable {op op' : CmpOp} {o o' : D → D → Sg → Res D}
variable {p : Pos}
variable {elt tg iter : Expr} {scope : Scope} {ifs : List Expr} {own : List (Str × Nat)} {fi : FI} {T : Tg} {t : FT} {fe : FE} {use : Bool}
variable {g g2 : FS} {st : Stmt} {body : List Stmt} {px : Pos}
end
mutual
def constB (K : PySem.W.Frag) : D → Value → Bool
  | .int i, .int j _ => decide (i = j)
  | .str s, .str z _ => decide (s = z)
  | .bl b, .bool e => decide (b = e)
  | .non, .none => true
  | .tup false ds, .ref p => match K.lookup p with
    | some ⟨.type c, _, .seq its _, _⟩ => decide (c = "tuple") && (decide (its.size ≤ sizeLine) && constBs K ds its.toList)
    | _ => false
  | _, _ => false
def constBs (K : PySem.W.Frag) : List D → List Value → Bool
  | [], [] => true
  | d :: ds, u :: us => constB K d u && constBs K ds us
  | _, _ => false
end
section
variable {X : Cx} {W : WX} {pos : Pos} {keys : List (Option Expr)} {values : List Expr} {fs : List (FE × FE)}
end
section
variable {Z : Zk} {N : List Str} {sc : Scope} {X : Cx} {W : WX} {pos p : Pos} {e : Expr} {es : List Expr} {fs : FL}
end
end G
namespace PySem
open Sem (wp)
open PySem.W
end PySem
namespace G
open PySem PySem.Spec L2 PyProof.Rows HT
section
variable {Z : Zk} {N : List Str} {sc : Scope} {X : Cx} {W : WX} {pos p : Pos} {e : Expr} {es : List Expr} {fs : FL}
end
end G
namespace G
open PySem PySem.Spec L2
section
variable {c : Cc} {ρ : List Addr} {H : Hp}
end
section
variable (P : Program) (w : World) (K : PySem.W.Frag) (mg : Str → Option Value) (base : Heap)
end
section
variable {P : Program} {w : World} {K : PySem.W.Frag} {mg : Str → Option Value} {base : Heap} {k n : Nat} {x y : Str} {F F' : Fn}
end
section
variable {X : Cx} {W : WX} {a b o e : Expr} {es : List Expr} {pos p apos pos' : Pos} {fa fo fv : FE} {fs : FL} {n f m x : Str} {k j : Nat} {F : Fn}
end
section
variable {Z : Zk} {N : List Str} {sc : Scope} {X : Cx} {W : WX} {a b o e : Expr} {es : List Expr} {pos p apos pos' : Pos} {fa fo fv : FE} {fs : FL} {n f m x : Str} {k j : Nat} {F : Fn}
end
section
variable {X : Cx}
end
section
variable {X : Cx} {W : WX} {a b cc : Expr} {pos apos : Pos} {fa fb fc : FE}
end
section
variable {Z : Zk} {N : List Str} {sc : Scope} {X : Cx} {W : WX} {a b cc : Expr} {es : List Expr} {pos p apos : Pos} {fa fb fc : FE}
end
section
variable {X : Cx} {W : WX} {ef e : Expr} {es : List Expr} {pos p : Pos} {fe : FE} {fs : FL} {k n : Nat} {T : List (Str × Fn)} {x : Str}
end
section
variable {c : Cc} {ρ : List Addr} {H : Hp}
end
section
variable {X : Cx} {W : WX} {e : Expr} {es : List Expr} {kws : List Keyword} {pos p : Pos} {fs fks : FL} {k n np : Nat} {x : Str} {F : Fn} {ps ks : List Str} {is : List Nat} {st : Stmt} {dvs : List D}
end
section
variable {Z : Zk} {N : List Str} {sc : Scope} {X : Cx} {W : WX} {ef e : Expr} {es : List Expr} {kws : List Keyword} {pos p : Pos} {fe : FE} {fs fks : FL} {k n np : Nat} {x : Str} {F : Fn} {ps ks : List Str} {is : List Nat} {st : Stmt} {dvs : List D} {T : List (Str × Fn)}
end
section
variable {P : Program} {w : World} {K : PySem.W.Frag} {mg : Str → Option Value} {base : Heap} {x qual : Str} {st : Stmt} {f : Addr} {fd : FuncData} {N ps : List Str} {k : Nat} {g : FS}
end
abbrev FX := Str → Sg → Res D
section
variable {P : Program} {w : World} {K : PySem.W.Frag} {mg : Str → Option Value} {base : Heap} {x qual : Str} {st : Stmt} {f : Addr} {fd : FuncData} {N ps : List Str} {k : Nat} {g : FS}
end
section
variable {X : Cx} {W : WX} {pos p p2 : Pos} {x y : Str} {k i : Nat} {F : FX}
end
section
variable {Z : Zk} {N : List Str} {sc : Scope} {X : Cx} {W : WX} {pos p p2 : Pos} {x y : Str} {k i : Nat} {F : FX} {body : List Stmt} {g : FS}
end
section
variable {X : Cx}
end
section
variable {c : Cc}
end
section
variable {Z : Zk} {N : List Str} {sc : Scope} {X : Cx} {W : WX} {a e : Expr} {es : List Expr} {pos p apos : Pos} {fa : FE} {fs : FL}
end
end G
namespace L2
open PySem PySem.Spec PyProof.Rows
end L2
namespace G
open PySem PySem.Spec L2
section
variable {X : Cx} {W : WX} {e tg a : Expr} {pos p : Pos} {fs : FL} {elts : List Expr} {kk : Nat} {tpos : Pos}
end
end G
namespace G
open PySem PySem.Spec L2 PyProof.Rows
section
variable {X : Cx} {W : WX} {a b : Expr} {fa fb : FE} {pos : Pos}
end
end G
namespace G
open PySem PySem.Spec L2
section
variable {X : Cx} {W : WX} {o1 i1 o2 i2 a b : Expr} {pos p1 p2 pt pt2 : Pos} {kt k2 : Nat} {fo1 fi1 fo2 fi2 : FE} {fs : FL}
end
section
variable {Z : Zk} {N : List Str} {sc : Scope} {X : Cx} {W : WX} {o1 i1 o2 i2 a b e : Expr} {pos p1 p2 pt pt2 : Pos} {kt k2 : Nat} {fo1 fi1 fo2 fi2 fa : FE} {fs : FL}
end
section
variable {Z : Zk} {N : List Str} {sc : Scope} {X : Cx} {W : WX} {pos px : Pos} {es vs : List Expr} {k2 : Nat} {p2 : Pos} {fa : FE}
end
end G
namespace G
open PySem PySem.Spec L2 PyProof.Rows
section
variable {Z : Zk} {N : List Str} {sc : Scope} {X : Cx} {W : WX} {e : Expr} {es : List Expr} {fs : FL} {p pos : Pos} {k : Nat}
end
def leS (a b : Str) : Prop := ltCps b.cps.toList a.cps.toList = false
instance (a b : Str) : Decidable (leS a b) := inferInstanceAs (Decidable (_ = _))
section
variable {X : Cx} {W : WX} {e v1 v2 : Expr} {rest es : List Expr} {pos : Pos} {fe : FE} {fs : List FE}
end
section
variable {Z : Zk} {N : List Str} {sc : Scope} {X : Cx} {W : WX} {e a : Expr} {es : List Expr} {fs : FL} {fa : FE} {p pos apos : Pos}
end
end G
namespace G
open PySem PySem.Spec L2
section
variable {prog : Program} {w : World} {A : Around} {E : Value → Shared → Prop} {s : Shared}
set_option maxRecDepth 100000 in
end
section
variable {X : Cx} {o e : Expr} {lo hi : Option Expr} {pos p2 : Pos} {to : TE} {tl th : TO}
end
section
variable {X : Cx} {W : WX} {o e : Expr} {lo hi : Option Expr} {pos pos' p2 : Pos} {fo fv : FE} {fl fh : FO}
end
section
variable {Z : Zk} {N : List Str} {sc : Scope} {X : Cx} {W : WX} {o e : Expr} {lo hi : Option Expr} {pos px p2 : Pos} {fo fv : FE} {fl fh : FO}
end
section
variable {Z : Zk} {N : List Str} {sc : Scope} {X : Cx} {W : WX} {a e : Expr} {es : List Expr} {pos p apos : Pos} {fa : FE} {fs : FL}
end
end G
namespace G
open PySem PySem.Spec L2 PyProof.Rows
section
variable {Z : Zk} {N : List Str} {sc : Scope} {X : Cx} {W : WX} {a e : Expr} {es : List Expr} {pos p apos : Pos} {fa : FE} {fs : FL}
end
section
variable {X : Cx} {W : WX} {x : Str} {e : Expr} {pos p pos' : Pos} {fe : FE}
end
section
variable {Z : Zk} {N : List Str} {sc : Scope} {X : Cx} {W : WX} {x : Str} {e a : Expr} {es : List Expr} {pos p pos' apos : Pos} {fe fa : FE} {fs : FL}
end
end G
namespace G
open PySem PySem.Spec L2
def clV (K : PySem.W.Frag) (y : Str) : Value := if y == ("ValueError" : Str) then .type "ValueError" else .ref (He.ga K y)
def excOne (K : PySem.W.Frag) (names : List Str) (x : Str) : Bool :=
  decide (PySem.W.findIn K (.ref (He.ga K x)) "__getattribute__" = some (some (.builtin "BaseException.__getattribute__"))) &&
  (decide (PySem.W.findIn K (.ref (He.ga K x)) "__getattr__" = some none) &&
  (PySem.W.hasDictIn K (He.ga K x) &&
  (decide (PySem.W.findIn K (.ref (He.ga K x)) "__class__" = some (some (.builtin "object.__class__"))) &&
  (decide (PySem.W.specialIn K (.builtin "object.__class__") "__get__" = some (some (.builtin "getset_descriptor.__get__"))) &&
  (decide (PySem.W.takesIn K (.builtin "object.__class__") = some true) &&
  (decide (PySem.W.mroIn K (He.ga K x) (.type "object") = some true) &&
  ((("ValueError" : Str) :: names).all (fun y => decide (PySem.W.kitOne K (.ref (He.ga K x)) (clV K y) = some (subX x y))) &&
  names.all (fun y => decide (PySem.W.exmOne K (.ref (He.ga K x)) (clV K y) = some (subX x y))))))))))
def excB (names : List Str) (K : PySem.W.Frag) : Bool := names.all (excOne K names)
abbrev Tb : Type := Str × List Str
abbrev AlO : Type := (He.AlD × Bool) × List (Option (List (Option (Str × Int))))
def tabO (ts : List Tb) (K : PySem.W.Frag) : List (Option (List (Option (Str × Int)))) := ts.map fun t => He.dicW K (He.ga K t.1)
def tabV (ts : List Tb) (w : World) : List (Option (List (Option (Str × Int)))) := ts.map fun t => some (He.keysIn w.params t.2)
def obsK (fa : List He.Fa) (fn : List He.DefD) (ex : PySem.W.Frag → Bool) (ts : List Tb) (K : PySem.W.Frag) : AlO := ((He.obsD fa fn K, ex K), tabO ts K)
def obsO (as : List Nat) (fa : List He.Fa) (fn : List He.DefD) (ex : PySem.W.Frag → Bool) (ts : List Tb) (g : Addr → Option Obj) : AlO := obsK fa fn ex ts (He.frG g as)
def hookO (as : List Nat) (fa : List He.Fa) (fn : List He.DefD) (ex : PySem.W.Frag → Bool) (ts : List Tb) : PySem.W.Hook where
  α := AlO
  obs := fun s => obsO as fa fn ex ts s.heap.get?
  val := fun w => ((He.valD fn, true), tabV ts w)
  says := fun w h => ∃ K : PySem.W.Frag, K.In h ∧ He.SaysD fa fn K ∧ ex K = true ∧ tabO ts K = tabV ts w
  of := fun _ _ e => ⟨_, He.frG_in, congrArg (fun z : AlO => z.1.1) e, congrArg (fun z : AlO => z.1.2) e, congrArg (fun z : AlO => z.2) e⟩
  keeps := fun _ _ _ ⟨K, hK, c⟩ k => ⟨K, PySem.W.Frag.In.keeps hK k, c⟩
theorem obsO_eq {as : List Nat} {fa : List He.Fa} {fn : List He.DefD} {ex : PySem.W.Frag → Bool} {ts : List Tb} {g : Addr → Option Obj} {s : Shared} (h : ∀ a, g a = s.heap.get? a) : obsO as fa fn ex ts g = (hookO as fa fn ex ts).obs s := by
  have e : g = s.heap.get? := funext h
  rw [e] <;> rfl
def defF (x : Str) (st : Stmt) : He.DefD := ⟨(x, none), x, x, defArgs st, defBody st, defScope st, [], []⟩
def faOf (defs names : List Str) (more : List He.Fa) : List He.Fa := defs.map .glo ++ (names.map .glo ++ (names.map .exc ++ (freeNames.map .free ++ more)))
def conOne (K : PySem.W.Frag) (x : Str) (d : D) : Bool := match PySem.W.nsIn K mainGlobals x with
  | some (some u) => constB K d u
  | _ => false
def conB (cs : List (Str × D)) (K : PySem.W.Frag) : Bool := cs.all fun q => conOne K q.1 q.2
def kvB (K : PySem.W.Frag) : D → Value → Bool
  | .int i, .int j _ => decide (i = j)
  | .str s, .str z _ => decide (s = z)
  | .bl b, .bool c => decide (b = c)
  | .fn x, .ref a => decide (PySem.W.nsIn K mainGlobals x = some (some (.ref a)))
  | _, _ => false
def kvsB (K : PySem.W.Frag) : List D → List Value → Bool
  | [], [] => true
  | d :: ds, u :: us => kvB K d u && kvsB K ds us
  | _, _ => false
def kdOne (K : PySem.W.Frag) (x : Str) (ds : List D) : Bool := match PySem.W.nsIn K mainGlobals x with
  | some (some (.ref p)) => (match K.lookup p with
    | some ⟨_, _, .dict es _, _⟩ => kvsB K ds (es.toList.map (·.val))
    | _ => false)
  | _ => false
def kdB (cs : List (Str × List D)) (K : PySem.W.Frag) : Bool := cs.all fun q => kdOne K q.1 q.2
def exB (names : List Str) (cs : List (Str × D)) (kds : List (Str × List D)) (K : PySem.W.Frag) : Bool := excB names K && (conB cs K && kdB kds K)
section
variable {K : PySem.W.Frag} {h : Heap} {mg : Str → Option Value} {defs names : List Str} {more : List He.Fa} {fn : List He.DefD}
end
end G
namespace G
def fnObs (fn : List He.DefD) (K : PySem.W.Frag) : Bool × List He.FnW := (fn.all fun d => d.ok K, fn.map fun d => He.fnW K d.at_)
theorem look_fst {α A B : Type} {o : Option α} {f : α → A} {g : α → B} {a : A} {b : B} (h : o.map (fun s => (f s, g s)) = some (a, b)) : o.map f = some a := by
  cases o with
  | none => simp at h
  | some x =>
    simp only [Option.map_some, Option.some.injEq, Prod.mk.injEq] at h ⊢
    exact h.1
theorem look_snd {α A B : Type} {o : Option α} {f : α → A} {g : α → B} {a : A} {b : B} (h : o.map (fun s => (f s, g s)) = some (a, b)) : o.map g = some b := by
  cases o with
  | none => simp at h
  | some x =>
    simp only [Option.map_some, Option.some.injEq, Prod.mk.injEq] at h ⊢
    exact h.2
theorem look_seven {α B : Type} {o : Option α} {k : α → PySem.W.Frag} {fa : List He.Fa} {m : Nat} {fn : List He.DefD} {ex : PySem.W.Frag → Bool} {ts : List Tb} {tv : List (Option (List (Option (PySem.Str × Int))))} {f st nb gd lk : α → Bool} {g : α → B} {b : B}
    (hf : ∀ s, f s = (((st s && nb s) && gd s) && lk s)) (h1 : o.map nb = some true) (h2 : o.map (fun s => (((st s && gd s) && lk s), (g s, tabO ts (k s)))) = some (true, (b, tv)))
    (h3 : o.map (fun s => (((fa.take m).all fun f => f.ok (k s)), ex (k s))) = some (true, true)) (h4 : o.map (fun s => fnObs fn (k s)) = some (true, fn.map He.DefD.val)) (h5 : o.map (fun s => (fa.drop m).all fun f => f.ok (k s)) = some true) :
    o.map (fun s => (f s, g s, obsK fa fn ex ts (k s))) = some (true, b, ((He.valD fn, true), tv)) := by
  cases o with
  | none => simp at h1
  | some x =>
    simp only [Option.map_some, Option.some.injEq, fnObs, obsK, He.obsD, He.valD, Prod.mk.injEq, Bool.and_eq_true] at h1 h2 h3 h4 h5 ⊢
    have e : (fa.all fun f => f.ok (k x)) = true := by
      rw [← List.take_append_drop m fa, List.all_append, h3.1, h5]
      rfl
    rw [hf, h1, h2.1.1.1, h2.1.1.2, h2.1.2, h2.2.1, h2.2.2, h3.2, h4.1, h4.2, e]
    simp
end G
namespace G
open PySem PySem.Spec L2
end G
set_option maxHeartbeats 0
namespace G
open PySem PySem.Spec L2
def top (i : Nat) : Stmt := PySem.Challenge.pw_widewords_k05_texts_refused.main.body.getD i (.Pass ⟨0, 0, 0, 0⟩)
abbrev FnP (K : PySem.W.Frag) (x : Str) (st : Stmt) (f : Addr) (fd : FuncData) : Prop := FunD K x x (defArgs st) (defBody st) (defScope st) [] [] f fd
def excNames : List Str := ["WordError", "NoFit", "NoText", "NoCell", "NoWord", "NoRow", "NoTelling", "NoDeed", "NoQuotient", "TooMany", "NoLine", "NoName", "NoWidth", "NoPair", "NoUndo"]
abbrev R : PySem.W.OpenRow := PySem.W.OpenLaw.row PySem.Challenge.rw_widewords_k05_texts_refused
def defNames : List Str := (["_law_two_to", "_law_whole", "_law_number", "_law_raised", "_law_met", "word_by", "read", "_law_due", "_law_mixed", "_law_fill", "_law_take", "_law_sign", "_law_spoilt", "_law_fresh", "law"] : List Str)
def moreF : List He.Fa := []
def fnD0 : List He.DefD := [defF "_law_two_to" (top 24), defF "_law_whole" (top 25), defF "_law_number" (top 26), defF "_law_raised" (top 30), defF "_law_met" (top 31), defF "word_by" (top 17), defF "read" (top 18), defF "_law_due" (top 27), defF "_law_mixed" (top 21), defF "_law_fill" (top 22), defF "_law_take" (top 23), defF "_law_sign" (top 28), defF "_law_spoilt" (top 29), defF "_law_fresh" (top 20), defF "law" (top 32)]
def fnD : List He.DefD := fnD0
def consts : List (Str × D) := []
def kdVals : List (Str × List D) := []
def tabs : List Tb := []
def loose : List Str := (["WordError", "NoFit", "NoText", "NoCell", "NoWord", "NoRow", "NoTelling", "NoDeed", "NoQuotient", "TooMany", "NoLine", "NoName", "NoWidth", "NoPair", "NoUndo", "word_by", "read", "_law_fresh", "_law_mixed", "_law_fill", "_law_take", "_law_two_to", "_law_whole", "_law_number", "_law_due", "_law_sign", "_law_spoilt", "_law_raised", "_law_met"] : List Str)
def adrs : List Nat := [3,292,287,280,273,266,259,254,249,242,235,228,221,214,207,202,193,181,169,157,145,133,121,109,97,85,73,61,49,37,24,4,6,0,23,36,48,60,72,84,96,108,120,132,144,156,168,180,192,201,206,213,220,227,234,241,248,253,258,265,272,279,286,291,191,179,167,155,143,131,119,107,95,83,71,59,47,35,25,22]
abbrev hkL : PySem.W.Hook := hookO adrs (faOf defNames excNames moreF) fnD (exB excNames consts kdVals) tabs
def obL (s : PySem.W.SharedT) : AlO := obsO adrs (faOf defNames excNames moreF) fnD (exB excNames consts kdVals) tabs (HandSHeadRun.getT s)
theorem obL_eq (s : PySem.W.SharedT) : obL s = hkL.obs s.abs := obsO_eq (HandSHeadRun.getT_eq s)
open PySem PySem.W PySem.Calls PyProof.Rows HandSHeadRun in
theorem zlaw (h : (OpenLaw.row PySem.Challenge.rw_widewords_k05_texts_refused).wellSaid = true → (OpenLaw.row PySem.Challenge.rw_widewords_k05_texts_refused).Holds) : PySem.Challenge.rw_widewords_k05_texts_refused.Holds := by
  w_on; o_law
  exact h (by assumption)
open PySem PySem.W PySem.Calls PyProof.Rows HandSHeadRun in
theorem zwit : (OpenLaw.row PySem.Challenge.rw_widewords_k05_texts_refused).toRowW.promised := by w_witness2
open PySem PySem.W PySem.Calls PyProof.Rows HandSHeadRun in
theorem zbare : R.prog.bare := ⟨rfl, rfl, rfl, rfl, rfl, by decide +kernel⟩
open PySem PySem.W PySem.Calls PyProof.Rows HandSHeadRun in
theorem zname : ((HandSHeadRun.topDef R.prog 32)).name = ("law" : PySem.Str) := by kernel_rfl
open PySem PySem.W PySem.Calls PyProof.Rows HandSHeadRun in
theorem zdefs : ((HandSHeadRun.topDef R.prog 32)).params.defaults = [] := by kernel_rfl
theorem runwA (w : World) (os : OsState) : (HandSHeadRun.endF (HandSHeadRun.stepQ (HandSHeadRun.denQ HandSHeadRun.tabQ) R.prog w) 40000 R.prog w os).map (fun s => (PySem.W.namesBound R.prog s.abs.heap)) = some true := by kernel_rfl
theorem runwB (w : World) (os : OsState) : (HandSHeadRun.endF (HandSHeadRun.stepQ (HandSHeadRun.denQ HandSHeadRun.tabQ) R.prog w) 40000 R.prog w os).map (fun s => ((((PySem.W.staticsOk (importedModules R.prog.main.body) (PySem.W.boot_heap w.params) s.abs.heap) && (PySem.W.gensDone s.abs)) && (PySem.W.laidKept (PySem.W.boot_heap w.params) s.abs.heap)), (HandSHeadRun.seenQ (PySem.W.view R.prog [32]) loose (importedModules R.prog.main.body) (fun s => PySem.W.xlAt (PySem.W.view R.prog [32]) [] s && PySem.W.recOk R.toRowW.records s) s.abs, tabO tabs (He.frG (HandSHeadRun.getT s) adrs)))) = some (true, (PySem.W.openGood (PySem.W.view R.prog [32]) loose, tabV tabs w)) := by kernel_rfl
theorem runwC (w : World) (os : OsState) : (HandSHeadRun.endF (HandSHeadRun.stepQ (HandSHeadRun.denQ HandSHeadRun.tabQ) R.prog w) 40000 R.prog w os).map (fun s => ((((faOf defNames excNames moreF).take 120).all fun f => f.ok (He.frG (HandSHeadRun.getT s) adrs)), exB excNames consts kdVals (He.frG (HandSHeadRun.getT s) adrs))) = some (true, true) := by kernel_rfl
theorem runwE (w : World) (os : OsState) : (HandSHeadRun.endF (HandSHeadRun.stepQ (HandSHeadRun.denQ HandSHeadRun.tabQ) R.prog w) 40000 R.prog w os).map (fun s => (fnObs fnD0 (He.frG (HandSHeadRun.getT s) adrs), ((faOf defNames excNames moreF).drop 120).all fun f => f.ok (He.frG (HandSHeadRun.getT s) adrs))) = some ((true, fnD0.map He.DefD.val), true) := by kernel_rfl
theorem runw (w : World) : HandSHeadRun.RunEq R (PySem.W.view R.prog [32]) hkL obL 40000 loose w := fun os => look_seven (k := fun s => He.frG (HandSHeadRun.getT s) adrs) (m := 120) (st := fun s => (PySem.W.staticsOk (importedModules R.prog.main.body) (PySem.W.boot_heap w.params) s.abs.heap)) (gd := fun s => (PySem.W.gensDone s.abs)) (lk := fun s => (PySem.W.laidKept (PySem.W.boot_heap w.params) s.abs.heap)) (fun s => rfl) (runwA w os) (runwB w os) (runwC w os) (look_fst (runwE w os)) (look_snd (runwE w os))
theorem runL (w : World) : HandSHeadRun.RunEq R (PySem.W.view R.prog [32]) hkL obL 40000 loose w := runw w
open PySem PySem.W PySem.Calls PyProof.Rows HandSHeadRun in
theorem zhd1 : opening R.prog = plainProg R.prog.main.scope.names := by kernel_rfl
open PySem PySem.W PySem.Calls PyProof.Rows HandSHeadRun in
theorem zhd2 : ∀ s, fenceModules? R.prog s = some s := fun s => by kernel_rfl
open PySem PySem.W PySem.Calls PyProof.Rows HandSHeadRun in
theorem zhd3 : defOf (view R.prog [32]) R.name = some ((HandSHeadRun.topDef R.prog 32), []) := by kernel_rfl
open PySem PySem.W PySem.Calls PyProof.Rows HandSHeadRun in
theorem zhd4 : R.prog.theDef R.name = some ((HandSHeadRun.topDef R.prog 32).params, (HandSHeadRun.topDef R.prog 32).body, (HandSHeadRun.topDef R.prog 32).scope) := by kernel_rfl
open PySem PySem.W PySem.Calls PyProof.Rows HandSHeadRun in
theorem zhd5 : kwWritten? (HandSHeadRun.topDef R.prog 32).params.kwonlyargs (HandSHeadRun.topDef R.prog 32).params.kw_defaults = some [] := by kernel_rfl
open PySem PySem.W PySem.Calls PyProof.Rows HandSHeadRun in
theorem zhd6 : (chainsOk (view R.prog [32]) && opensWell R.prog && (frees R.toRowW && R.within.isEmpty)) = true := by decide +kernel
theorem RoL.sq {K : PySem.W.Frag} {ρ : List Addr} {H : Hp} {p : Addr} {vs : List V} (h : RoL K ρ H p vs) : SqL K H p vs := by
  rcases h with ⟨h, _⟩ | h | h
  · exact .inl (.inl h)
  · exact .inl (.inr h)
  · exact .inr h
inductive RP {κ : Type} (c : Cc) (ρ : List Addr) (H : Hp) : List (κ × V) → List (κ × D) → Prop
  | nil : RP c ρ H [] []
  | cons {k : κ} {v : V} {d : D} {vs : List (κ × V)} {ds : List (κ × D)} : RD c ρ H v d → RP c ρ H vs ds → RP c ρ H ((k, v) :: vs) ((k, d) :: ds)
def BareT (a : Addr) (vs : List V) : HO := .ext fun h => vs.length ≤ sizeLine ∧ ∃ (its : List Value) (n : Nat), Vals vs its ∧ h.get? a = some { cls := .type "tuple", data := .seq its.toArray n }
def RM (c : Cc) (ρ : List Addr) (H : Hp) (a : Addr) : MO → Prop
  | .lst ds => ∃ vs, H a = some (.lst vs) ∧ RL c ρ H vs ds
  | .dK ds => ∃ vs, H a = some (.dK vs) ∧ RP c ρ H vs ds
  | .dT ds => ∃ vs, H a = some (.dT vs) ∧ RP c ρ H vs ds
  | .ins n ds => ∃ C dx vs, c.mg n = some (.ref C) ∧ H a = some (.ins C dx vs) ∧ RP c ρ H vs ds
  | .tp ds => ∃ vs, H a = some (BareT a vs) ∧ RL c ρ H vs ds
structure Rel (c : Cc) (ρ : List Addr) (S : Sg) (H : Hp) : Prop where
  len : ρ.length = S.length
  nd : ρ.Nodup
  at_ : ∀ (k : Nat) (m : MO), S[k]? = some m → ∃ a, ρ[k]? = some a ∧ RM c ρ H a m
structure Ext (ρ : List Addr) (H : Hp) (ρ' : List Addr) (H' : Hp) : Prop where
  new : ∃ n, ρ' = ρ ++ n ∧ ∀ b ∈ n, H b = none
  out : ∀ b o, H b = some o → b ∉ ρ → H' b = some o
  tup : ∀ b xs, H b = some (.tup xs) → H' b = some (.tup xs)
  frz : ∀ b o u, H b = some (.frz o u) → H' b = some (.frz o u)
  gone : ∀ b, H' b = none → H b = none
theorem Ext.refl {ρ : List Addr} {H : Hp} : Ext ρ H ρ H := ⟨⟨[], by simp, fun _ h => nomatch h⟩, fun _ _ h _ => h, fun _ _ h => h, fun _ _ _ h => h, fun _ h => h⟩
theorem Ext.trans {ρ ρ1 ρ2 : List Addr} {H H1 H2 : Hp} (a : Ext ρ H ρ1 H1) (b : Ext ρ1 H1 ρ2 H2) : Ext ρ H ρ2 H2 := by
  obtain ⟨⟨n, e, hn⟩, ao, at_, af, ag⟩ := a
  obtain ⟨⟨m, e2, hm⟩, bo, bt, bf, bg⟩ := b
  have keep : ∀ b o, H b = some o → b ∉ ρ → b ∉ ρ1 := fun b o h hb => by
    rw [e, List.mem_append]
    rintro (q | q)
    · exact hb q
    · rw [hn b q] at h; cases h
  refine ⟨⟨n ++ m, by rw [e2, e, List.append_assoc], fun b hb => ?_⟩, fun b o h hb => bo b o (ao b o h hb) (keep b o h hb), fun b xs h => bt b xs (at_ b xs h), fun b o u h => bf b o u (af b o u h), fun b h => ag b (bg b h)⟩
  rcases List.mem_append.mp hb with q | q
  · exact hn b q
  · exact ag b (hm b q)
section
variable {c : Cc} {ρ ρ' : List Addr} {S S' : Sg} {H H' : Hp} {v v' : V} {d : D} {vs vs' : List V} {ds : List D} {a p : Addr}
theorem Ext.sqT {K : PySem.W.Frag} (e : Ext ρ H ρ' H') (h : SqT K H p vs) : SqT K H' p vs := by
  rcases h with (h | ⟨o, h⟩) | h
  · exact .inl (.inl (e.tup _ _ h))
  · exact .inl (.inr ⟨o, e.frz _ _ _ h⟩)
  · exact .inr h
theorem Ext.roL {K : PySem.W.Frag} (e : Ext ρ H ρ' H') (h : RoL K ρ H p vs) : RoL K ρ' H' p vs := by
  rcases h with ⟨h, n⟩ | ⟨o, h⟩ | h
  · obtain ⟨m, e1, hm⟩ := e.new
    refine .inl ⟨e.out _ _ h n, ?_⟩
    rw [e1, List.mem_append]
    rintro (q | q)
    · exact n q
    · rw [hm p q] at h; cases h
  · exact .inr (.inl ⟨o, e.frz _ _ _ h⟩)
  · exact .inr (.inr h)
theorem Ext.get (e : Ext ρ H ρ' H') {k : Nat} (h : ρ[k]? = some a) : ρ'[k]? = some a := by
  obtain ⟨m, e1, _⟩ := e.new
  rw [e1, List.getElem?_append_left (List.getElem?_eq_some_iff.mp h).1]
  exact h
mutual
theorem RD.ext (e : Ext ρ H ρ' H') : ∀ {v : V} {d : D}, RD c ρ H v d → RD c ρ' H' v d
  | _, _, .non => .non
  | _, _, .bl b => .bl b
  | _, _, .int i => .int i
  | _, _, .str s => .str s
  | _, _, .tup h r => .tup ⟨fun z => e.tup _ _ (h.1 z), e.sqT h.2⟩ (RL.ext e r)
  | _, _, .il h r => .il (e.roL h) (RL.ext e r)
  | _, _, .obj h => .obj (e.get h)
  | _, _, .fn h => .fn h
  | _, _, .ty n => .ty n
  | _, _, .kd h r => .kd h (RL.ext e r)
theorem RL.ext (e : Ext ρ H ρ' H') : ∀ {vs : List V} {ds : List D}, RL c ρ H vs ds → RL c ρ' H' vs ds
  | _, _, .nil => .nil
  | _, _, .cons h r => .cons (RD.ext e h) (RL.ext e r)
end
theorem RP.ext {κ : Type} (e : Ext ρ H ρ' H') : ∀ {vs : List (κ × V)} {ds : List (κ × D)}, RP c ρ H vs ds → RP c ρ' H' vs ds
  | _, _, .nil => .nil
  | _, _, .cons h r => .cons (h.ext e) (RP.ext e r)
mutual
theorem RD.back {n : List Addr} (hn : ρ' = ρ ++ n) : ∀ {v v' : V} {d : D}, RD c ρ H v d → RD c ρ' H' v' d → RD c ρ H' v' d
  | _, _, _, .non, .non => .non
  | _, _, _, .bl b, .bl _ => .bl b
  | _, _, _, .int i, .int _ => .int i
  | _, _, _, .str s, .str _ => .str s
  | _, _, _, .tup h r, .tup h' r' => .tup h' (RL.back hn r r')
  | _, _, _, .il h r, .il h' r' => .il (by
      rcases h' with ⟨q, z⟩ | q | q
      · refine .inl ⟨q, fun y => z ?_⟩
        rw [hn]
        exact List.mem_append_left _ y
      · exact .inr (.inl q)
      · exact .inr (.inr q)) (RL.back hn r r')
  | _, _, _, .obj h, .obj h' => .obj (by
      rw [hn, List.getElem?_append_left (List.getElem?_eq_some_iff.mp h).1] at h'
      exact h')
  | _, _, _, .fn h, .fn h' => .fn h'
  | _, _, _, .ty n, .ty _ => .ty n
  | _, _, _, .kd h r, .kd h' r' => .kd h' (RL.back hn r r')
theorem RL.back {n : List Addr} (hn : ρ' = ρ ++ n) : ∀ {vs vs' : List V} {ds : List D}, RL c ρ H vs ds → RL c ρ' H' vs' ds → RL c ρ H' vs' ds
  | _, _, _, .nil, .nil => .nil
  | _, _, _, .cons h r, .cons h' r' => .cons (RD.back hn h h') (RL.back hn r r')
end
theorem RP.back {κ : Type} {n : List Addr} (hn : ρ' = ρ ++ n) : ∀ {vs vs' : List (κ × V)} {ds : List (κ × D)}, RP c ρ H vs ds → RP c ρ' H' vs' ds → RP c ρ H' vs' ds
  | _, _, _, .nil, .nil => .nil
  | _, _, _, .cons h r, .cons h' r' => .cons (RD.back hn h h') (RP.back hn r r')
theorem RM.back {n : List Addr} {m : MO} {a' : Addr} (hn : ρ' = ρ ++ n) (h : RM c ρ H a m) (h' : RM c ρ' H' a' m) : RM c ρ H' a' m := by
  cases m with
  | lst ds =>
    obtain ⟨_, _, r⟩ := h
    obtain ⟨vs, e, r'⟩ := h'
    exact ⟨vs, e, r.back hn r'⟩
  | dK ds =>
    obtain ⟨_, _, r⟩ := h
    obtain ⟨vs, e, r'⟩ := h'
    exact ⟨vs, e, r.back hn r'⟩
  | dT ds =>
    obtain ⟨_, _, r⟩ := h
    obtain ⟨vs, e, r'⟩ := h'
    exact ⟨vs, e, r.back hn r'⟩
  | ins x ds =>
    obtain ⟨_, _, _, _, _, r⟩ := h
    obtain ⟨C, dx, vs, e1, e2, r'⟩ := h'
    exact ⟨C, dx, vs, e1, e2, r.back hn r'⟩
  | tp ds =>
    obtain ⟨_, _, r⟩ := h
    obtain ⟨vs, e, r'⟩ := h'
    exact ⟨vs, e, r.back hn r'⟩
theorem Rel.back {T : Sg} (r : Rel c ρ S H) (e : Ext ρ H ρ' H') (r' : Rel c ρ' (S ++ T) H') : Rel c ρ S H' ∧ Ext ρ H ρ H' := by
  obtain ⟨n, hn, hf⟩ := e.new
  refine ⟨⟨r.len, r.nd, fun k m hk => ?_⟩, ⟨⟨[], by simp, fun _ h => nomatch h⟩, e.out, e.tup, e.frz, e.gone⟩⟩
  obtain ⟨a, ha, hm⟩ := r.at_ k m hk
  obtain ⟨a', ha', hm'⟩ := r'.at_ k m (by rw [List.getElem?_append_left (List.getElem?_eq_some_iff.mp hk).1]; exact hk)
  have : a' = a := by
    rw [e.get ha] at ha'
    exact (Option.some.inj ha').symm
  subst this
  exact ⟨a', ha, hm.back hn hm'⟩
theorem nodup_at {l : List Addr} {i j : Nat} {a : Addr} (h : l.Nodup) (x : l[i]? = Option.some a) (y : l[j]? = Option.some a) : i = j := by
  obtain ⟨h1, e1⟩ := List.getElem?_eq_some_iff.mp x
  obtain ⟨h2, e2⟩ := List.getElem?_eq_some_iff.mp y
  exact (List.getElem_inj h).mp (e1.trans e2.symm)
theorem RM.some {m : MO} (h : RM c ρ H a m) : ∃ o, H a = Option.some o ∧ (∀ xs, o ≠ .tup xs) ∧ (∀ ob u, o ≠ .frz ob u) ∧ Mut (Option.some o) := by
  cases m with
  | lst ds => obtain ⟨_, e, _⟩ := h; exact ⟨_, e, (fun _ z => nomatch z), (fun _ _ z => nomatch z), trivial⟩
  | dK ds => obtain ⟨_, e, _⟩ := h; exact ⟨_, e, (fun _ z => nomatch z), (fun _ _ z => nomatch z), trivial⟩
  | dT ds => obtain ⟨_, e, _⟩ := h; exact ⟨_, e, (fun _ z => nomatch z), (fun _ _ z => nomatch z), trivial⟩
  | ins x ds => obtain ⟨_, _, _, _, e, _⟩ := h; exact ⟨_, e, (fun _ z => nomatch z), (fun _ _ z => nomatch z), trivial⟩
  | tp ds => obtain ⟨_, e, _⟩ := h; exact ⟨_, e, (fun _ z => nomatch z), (fun _ _ z => nomatch z), trivial⟩
theorem Rel.live (r : Rel c ρ S H) (h : a ∈ ρ) : ∃ o, H a = Option.some o ∧ (∀ xs, o ≠ .tup xs) ∧ (∀ ob u, o ≠ .frz ob u) ∧ Mut (Option.some o) := by
  obtain ⟨k, hk⟩ := List.mem_iff_getElem?.mp h
  have hl : k < S.length := by rw [← r.len]; exact (List.getElem?_eq_some_iff.mp hk).1
  obtain ⟨a', ha', hm⟩ := r.at_ k S[k] (List.getElem?_eq_getElem hl)
  rw [hk] at ha'
  cases ha'
  exact hm.some
theorem Rel.fresh (r : Rel c ρ S H) (h : H a = none) : a ∉ ρ := fun q => by
  obtain ⟨o, e, _⟩ := r.live q
  rw [h] at e; cases e
theorem Ext.lay {o : HO} (h : H p = none) : Ext ρ H ρ (upd H p o) :=
  ⟨⟨[], by simp, fun _ h => nomatch h⟩, fun b u e _ => by rw [upd_ne (ne_of_none e h)]; exact e, fun b xs e => by rw [upd_ne (ne_of_none e h)]; exact e, fun b ob u e => by rw [upd_ne (ne_of_none e h)]; exact e, fun b e => by
    by_cases q : b = p
    · subst q; exact h
    · rw [upd_ne q] at e; exact e⟩
theorem RM.ext {m : MO} (e : Ext ρ H ρ' H') (k : ∀ o, H a = Option.some o → H' a = Option.some o) (h : RM c ρ H a m) : RM c ρ' H' a m := by
  cases m with
  | lst ds => obtain ⟨vs, q, r⟩ := h; exact ⟨vs, k _ q, r.ext e⟩
  | dK ds => obtain ⟨vs, q, r⟩ := h; exact ⟨vs, k _ q, r.ext e⟩
  | dT ds => obtain ⟨vs, q, r⟩ := h; exact ⟨vs, k _ q, r.ext e⟩
  | ins x ds => obtain ⟨C, dx, vs, q1, q, r⟩ := h; exact ⟨C, dx, vs, q1, k _ q, r.ext e⟩
  | tp ds => obtain ⟨vs, q, r⟩ := h; exact ⟨vs, k _ q, r.ext e⟩
theorem Rel.lay {o : HO} (r : Rel c ρ S H) (h : H p = none) : Rel c ρ S (upd H p o) :=
  ⟨r.len, r.nd, fun k m hk => by
    obtain ⟨a, ha, hm⟩ := r.at_ k m hk
    exact ⟨a, ha, hm.ext (Ext.lay h) fun o e => by rw [upd_ne (ne_of_none e h)]; exact e⟩⟩
theorem Ext.put {o : HO} (h : H p = none) : Ext ρ H (ρ ++ [p]) (upd H p o) :=
  ⟨⟨[p], rfl, fun b hb => by simp at hb; subst hb; exact h⟩, fun b u e _ => by rw [upd_ne (ne_of_none e h)]; exact e, fun b xs e => by rw [upd_ne (ne_of_none e h)]; exact e, fun b ob u e => by rw [upd_ne (ne_of_none e h)]; exact e, fun b e => by
    by_cases q : b = p
    · subst q; exact h
    · rw [upd_ne q] at e; exact e⟩
theorem Rel.put {o : HO} {m : MO} (r : Rel c ρ S H) (h : H p = none) (hm : RM c (ρ ++ [p]) (upd H p o) p m) : Rel c (ρ ++ [p]) (S ++ [m]) (upd H p o) := by
  refine ⟨by simp [r.len], ?_, fun k m' hk => ?_⟩
  · rw [List.nodup_append]
    refine ⟨r.nd, by simp, fun a ha b hb => ?_⟩
    simp at hb
    subst hb
    exact fun q => r.fresh h (q ▸ ha)
  · by_cases hlt : k < S.length
    · rw [List.getElem?_append_left hlt] at hk
      obtain ⟨a, ha, hm'⟩ := r.at_ k m' hk
      exact ⟨a, (Ext.put (o := o) h).get ha, hm'.ext (Ext.put h) fun o e => by rw [upd_ne (ne_of_none e h)]; exact e⟩
    · have hk0 : k = S.length := by
        have := (List.getElem?_eq_some_iff.mp hk).1
        simp at this
        omega
      subst hk0
      simp at hk
      subst hk
      exact ⟨p, by rw [← r.len]; simp, hm⟩
theorem Ext.set {o : HO} (r : Rel c ρ S H) (ha : a ∈ ρ) : Ext ρ H ρ (upd H a o) := by
  obtain ⟨o', e', n1, n2, _⟩ := r.live ha
  refine ⟨⟨[], by simp, fun _ h => nomatch h⟩, fun b u e hb => ?_, fun b xs e => ?_, fun b ob u e => ?_, fun b e => ?_⟩
  · have : b ≠ a := fun q => hb (q ▸ ha)
    rw [upd_ne this]; exact e
  · have : b ≠ a := fun q => by
      subst q
      rw [e'] at e
      exact n1 _ (Option.some.inj e)
    rw [upd_ne this]; exact e
  · have : b ≠ a := fun q => by
      subst q
      rw [e'] at e
      exact n2 _ _ (Option.some.inj e)
    rw [upd_ne this]; exact e
  · by_cases q : b = a
    · subst q; rw [upd_same] at e; cases e
    · rw [upd_ne q] at e; exact e
theorem Rel.set {o : HO} {m : MO} {k : Nat} (r : Rel c ρ S H) (hk : ρ[k]? = Option.some a) (hm : RM c ρ (upd H a o) a m) : Rel c ρ (S.set k m) (upd H a o) := by
  have ha : a ∈ ρ := List.mem_of_getElem? hk
  refine ⟨by rw [List.length_set]; exact r.len, r.nd, fun j m' hj => ?_⟩
  by_cases hjk : k = j
  · subst hjk
    have hlt : k < S.length := by rw [← r.len]; exact (List.getElem?_eq_some_iff.mp hk).1
    rw [List.getElem?_set_self hlt] at hj
    cases hj
    exact ⟨a, hk, hm⟩
  · rw [List.getElem?_set_ne hjk] at hj
    obtain ⟨b, hb, hm'⟩ := r.at_ j m' hj
    refine ⟨b, hb, hm'.ext (Ext.set r ha) fun o' e => ?_⟩
    have : b ≠ a := fun q => by
      subst q
      exact hjk (nodup_at r.nd hk hb)
    rw [upd_ne this]; exact e
theorem RL.get : ∀ {vs : List V} {ds : List D} {i : Nat} {d : D}, RL c ρ H vs ds → ds[i]? = Option.some d → ∃ v, vs[i]? = Option.some v ∧ RD c ρ H v d
  | _, _, _, _, .nil, h => by simp at h
  | _, _, 0, _, .cons h r, e => by simp at e; subst e; exact ⟨_, rfl, h⟩
  | _, _, i + 1, _, .cons h r, e => by simpa using RL.get (i := i) r (by simpa using e)
theorem RL.append : ∀ {vs ws : List V} {ds es : List D}, RL c ρ H vs ds → RL c ρ H ws es → RL c ρ H (vs ++ ws) (ds ++ es)
  | _, _, _, _, .nil, s => s
  | _, _, _, _, .cons h r, s => .cons h (RL.append r s)
theorem RL.reverse {vs : List V} {ds : List D} (r : RL c ρ H vs ds) : RL c ρ H vs.reverse ds.reverse := by
  induction vs generalizing ds with
  | nil => cases r; exact .nil
  | cons v vs ih =>
    cases r with
    | cons h r =>
      rw [List.reverse_cons, List.reverse_cons]
      exact (ih r).append (.cons h .nil)
theorem RL.ints {ns : List Int} : RL c ρ H (ns.map V.int) (ns.map D.int) := by
  induction ns with
  | nil => exact .nil
  | cons n ns ih => exact .cons (.int n) ih
end
theorem Res.bind_ok {α β : Type} (a : α) (S : Sg) (g : α → Sg → Res β) : (Res.ok a S).bind g = g a S := rfl
theorem RelEnv.ext {c : Cc} {pn : List (Addr × Obj)} {ρ ρ' : List Addr} {H H' : Hp} {σ : L2.St} {env : Env} (e : Ext ρ H ρ' H') (h : RelEnv c pn ρ H σ env) : RelEnv c pn ρ' H' σ env :=
  ⟨h.len, fun i d hi => let ⟨v, a, b⟩ := h.v i d hi; ⟨v, a, b.ext e⟩, h.x⟩
def Fin (c : Cc) (W : WX) (σ : L2.St) (ρ : List Addr) (H : Hp) {α β : Type} (rel : List Addr → Hp → β → α → Prop) (r : Res α) (Q : β → Hp → Prop) : Prop := match r with
  | .ok a S => ∀ ρ' H' v, Ext ρ H ρ' H' → Rel c ρ' S H' → rel ρ' H' v a → Q v H'
  | .er n S => ∀ ρ' H' C, Ext ρ H ρ' H' → Rel c ρ' S H' → c.mg n = some (.ref C) → W (.ref C) none σ H'
  | .st => False
section
variable {c : Cc} {W : WX} {σ : L2.St} {ρ ρ' : List Addr} {S : Sg} {H H' : Hp} {α β γ δ : Type} {rel : List Addr → Hp → β → α → Prop} {rel2 : List Addr → Hp → δ → γ → Prop}
theorem Fin.mono {r : Res α} {Q Q' : β → Hp → Prop} (h : Fin c W σ ρ H rel r Q) (k : ∀ v H', Q v H' → Q' v H') : Fin c W σ ρ H rel r Q' := by
  cases r with
  | ok a S => exact fun ρ' H' v e R q => k _ _ (h ρ' H' v e R q)
  | er n S => exact h
  | st => exact h
theorem Fin.ext {r : Res α} {Q : β → Hp → Prop} (e : Ext ρ H ρ' H') (h : Fin c W σ ρ H rel r Q) : Fin c W σ ρ' H' rel r Q := by
  cases r with
  | ok a S => exact fun ρ2 H2 v e2 R q => h ρ2 H2 v (e.trans e2) R q
  | er n S => exact fun ρ2 H2 C e2 R q => h ρ2 H2 C (e.trans e2) R q
  | st => exact h
theorem Fin.bind {r : Res γ} {g : γ → Sg → Res α} {Q : β → Hp → Prop} (h : Fin c W σ ρ H rel (r.bind g) Q) :
    Fin c W σ ρ H rel2 r fun x H1 => ∃ ρ1 S1 a, Ext ρ H ρ1 H1 ∧ Rel c ρ1 S1 H1 ∧ rel2 ρ1 H1 x a ∧ Fin c W σ ρ1 H1 rel (g a S1) Q := by
  cases r with
  | ok a S => exact fun ρ1 H1 v e R q => ⟨ρ1, S, a, e, R, q, Fin.ext e h⟩
  | er n S => exact h
  | st => exact h
theorem Fin.done {a : α} {v : β} {Q : β → Hp → Prop} (h : Fin c W σ ρ H rel (.ok a S) Q) (R : Rel c ρ S H) (r : rel ρ H v a) : Q v H := h ρ H v .refl R r
end
abbrev relD (c : Cc) : List Addr → Hp → V → D → Prop := fun ρ H v d => RD c ρ H v d
abbrev relL (c : Cc) : List Addr → Hp → List V → List D → Prop := fun ρ H v d => RL c ρ H v d
abbrev relB : List Addr → Hp → Bool → Bool → Prop := fun _ _ v d => v = d
abbrev relO : List Addr → Hp → Option Int → Option Int → Prop := fun _ _ v d => v = d
def canE (c : Cc) (pn : List (Addr × Obj)) (W : WX) (f : FE) : TE := fun σ H Q => ∃ ρ env S, RelEnv c pn ρ H σ env ∧ Rel c ρ S H ∧ Fin c W σ ρ H (relD c) (f env S) Q
def canA (c : Cc) (pn : List (Addr × Obj)) (W : WX) (f : FL) : TA := fun σ H Q => ∃ ρ env S, RelEnv c pn ρ H σ env ∧ Rel c ρ S H ∧ Fin c W σ ρ H (relL c) (f env S) Q
def canT (c : Cc) (pn : List (Addr × Obj)) (W : WX) (f : FT) : TT := fun σ H Q => ∃ ρ env S, RelEnv c pn ρ H σ env ∧ Rel c ρ S H ∧ Fin c W σ ρ H relB (f env S) Q
def canO (c : Cc) (pn : List (Addr × Obj)) (W : WX) (f : FO) : TO := fun σ H Q => ∃ ρ env S, RelEnv c pn ρ H σ env ∧ Rel c ρ S H ∧ Fin c W σ ρ H relO (f env S) Q
def DE (X : Cx) (W : WX) (e : Expr) (f : FE) : Prop := PE X e (canE X.cc X.pn W f)
def DA (X : Cx) (W : WX) (es : List Expr) (f : FL) : Prop := PA X es (canA X.cc X.pn W f)
def DT (X : Cx) (W : WX) (e : Expr) (f : FT) : Prop := PT X e (canT X.cc X.pn W f)
def DW (X : Cx) (W : WX) (e : Expr) (f : FT) : Prop := PW X e (canT X.cc X.pn W f)
def DO (X : Cx) (W : WX) (e : Option Expr) (f : FO) : Prop := PO X e (canO X.cc X.pn W f)
section
variable {X : Cx} {W : WX} {e a b : Expr} {es : List Expr} {pos : Pos}
theorem PE.imp {t t' : TE} (h : PE X e t) (k : ∀ σ H Q, t' σ H Q → t σ H Q) : PE X e t' := ⟨fun pins s σ H Q I q => h.run pins s σ H Q I (k σ H Q q)⟩
theorem PT.imp {t t' : TT} (h : PT X e t) (k : ∀ σ H Q, t' σ H Q → t σ H Q) : PT X e t' := ⟨fun pins s σ H Q I q => h.run pins s σ H Q I (k σ H Q q)⟩
theorem PW.imp {t t' : TT} (h : PW X e t) (k : ∀ σ H Q, t' σ H Q → t σ H Q) : PW X e t' := ⟨fun wh pins s σ H Q I q => h.run wh pins s σ H Q I (k σ H Q q)⟩
theorem PA.imp {t t' : TA} (h : PA X es t) (k : ∀ σ H Q, t' σ H Q → t σ H Q) : PA X es t' := ⟨fun pos pins s σ H Q I q => h.run pos pins s σ H Q I (k σ H Q q)⟩
theorem PO.imp {o : Option Expr} {t t' : TO} (h : PO X o t) (k : ∀ σ H Q, t' σ H Q → t σ H Q) : PO X o t' := ⟨fun pins s σ H Q I q => h.run pins s σ H Q I (k σ H Q q)⟩
end
def fVar (i : Nat) : FE := fun env S => match env[i]? with
  | some (some (EV.v d)) => .ok d S
  | _ => .st
def fC (d : D) : FE := fun _ S => .ok d S
section
variable {X : Cx} {W : WX} {e a b cc : Expr} {es : List Expr} {pos : Pos} {fa fb fc : FE} {fs : FL}
theorem de_var {i : Nat} {x : Str} (hN : X.N[i]? = some x) (hv : Vis X.env.scope x) (hd : (x == ("__debug__" : Str)) = false) (hcd : (x == ("__classdict__" : Str)) = false) : DE X W (.Name x pos) (fVar i) := by
  refine PE.imp (pe_var hN hv hd hcd) fun σ H Q ⟨ρ, env, S, E, R, h⟩ => ?_
  unfold fVar at h
  split at h
  · rename_i d hd
    obtain ⟨v, hv, r⟩ := E.v i d hd
    exact ⟨v, hv, h.done R r⟩
  · exact h.elim
theorem de_int {i : Int} {j : Nat} : DE X W (.Constant (.int i) j pos) (fC (.int i)) := PE.imp pe_int fun σ H Q ⟨ρ, env, S, E, R, h⟩ => h.done R (.int i)
theorem de_bl {i : Bool} {j : Nat} : DE X W (.Constant (.bool i) j pos) (fC (.bl i)) := PE.imp pe_bl fun σ H Q ⟨ρ, env, S, E, R, h⟩ => h.done R (.bl i)
theorem de_non {j : Nat} : DE X W (.Constant .none j pos) (fC .non) := PE.imp pe_non fun σ H Q ⟨ρ, env, S, E, R, h⟩ => h.done R .non
theorem de_str {x : Str} {j : Nat} : DE X W (.Constant (.str x) j pos) (fC (.str x)) := PE.imp pe_str fun σ H Q ⟨ρ, env, S, E, R, h⟩ => h.done R (.str x)
def OpD (c : Cc) (r : R2) (o : D → D → Sg → Res D) : Prop := ∀ (W : WX) (σ : L2.St) (ρ : List Addr) (S : Sg) (H : Hp) (x y : V) (a b : D) (Q : VK),
  Rel c ρ S H → RD c ρ H x a → RD c ρ H y b → Fin c W σ ρ H (relD c) (o a b S) Q → r x y H Q
def fBin (o : D → D → Sg → Res D) (fa fb : FE) : FE := fun env S => (fa env S).bind fun x S1 => (fb env S1).bind fun y S2 => o x y S2
theorem can_bin {c : Cc} {pn : List (Addr × Obj)} {r : R2} {o : D → D → Sg → Res D} (ho : OpD c r o) {σ : L2.St} {H : Hp} {Q : VK} (h : canE c pn W (fBin o fa fb) σ H Q) : tOp r (canE c pn W fa) (canE c pn W fb) σ H Q := by
  obtain ⟨ρ, env, S, E, R, h⟩ := h
  refine ⟨ρ, env, S, E, R, Fin.mono h.bind fun x H1 ⟨ρ1, S1, a, e1, R1, r1, h1⟩ => ?_⟩
  refine ⟨ρ1, env, S1, E.ext e1, R1, Fin.mono h1.bind fun y H2 ⟨ρ2, S2, b, e2, R2, r2, h2⟩ => ?_⟩
  exact ho W σ ρ2 S2 H2 x y a b Q R2 (r1.ext e2) r2 h2
theorem de_bin {op : Operator} {r : R2} {o : D → D → Sg → Res D} (hr : OpR X (binaryOp op) r) (ho : OpD X.cc r o) (ha : DE X W a fa) (hb : DE X W b fb) : DE X W (.BinOp a op b pos) (fBin o fa fb) :=
  PE.imp (pe_op hr ha hb) fun _ _ _ h => can_bin ho h
theorem de_cmp {op : CmpOp} {r : R2} {o : D → D → Sg → Res D} (hr : OpR X (compareOp op) r) (ho : OpD X.cc r o) (ha : DE X W a fa) (hb : DE X W b fb) (hm : behindInMarks op b = false) : DE X W (.Compare a [op] [b] pos) (fBin o fa fb) :=
  PE.imp (pe_cmpR hr ha hb hm) fun _ _ _ h => can_bin ho h
def fB (f : FE) : FT := fun env S => (f env S).bind fun d S => match d with
  | .bl b => .ok b S
  | _ => .st
theorem can_B {c : Cc} {pn : List (Addr × Obj)} {f : FE} {σ : L2.St} {H : Hp} {Q : Bool → Hp → Prop} (h : canT c pn W (fB f) σ H Q) : canE c pn W f σ H fun x H1 => ∃ k, x = .bl k ∧ Q k H1 := by
  obtain ⟨ρ, env, S, E, R, h⟩ := h
  refine ⟨ρ, env, S, E, R, Fin.mono h.bind fun x H1 ⟨ρ1, S1, a, e1, R1, r1, h1⟩ => ?_⟩
  cases r1 with
  | bl b => exact ⟨b, rfl, h1.done R1 rfl⟩
  | _ => exact h1.elim
theorem dt_cmp {op : CmpOp} {r : R2} {o : D → D → Sg → Res D} (hr : OpR X (compareOp op) r) (ho : OpD X.cc r o) (ha : DE X W a fa) (hb : DE X W b fb) (hm : behindInMarks op b = false) : DT X W (.Compare a [op] [b] pos) (fB (fBin o fa fb)) :=
  PT.imp (pt_cmpR hr ha hb hm) fun σ H Q h => can_bin ho (can_B h)
def fChain (o o' : D → D → Sg → Res D) (fa fb fc : FE) : FE := fun env S => (fa env S).bind fun x S1 => (fb env S1).bind fun y S2 => (o x y S2).bind fun k S3 => match k with
  | .bl true => (fc env S3).bind fun z S4 => o' y z S4
  | .bl false => .ok (.bl false) S3
  | _ => .st
theorem can_chain {c : Cc} {pn : List (Addr × Obj)} {r r' : R2} {o o' : D → D → Sg → Res D} (ho : OpD c r o) (ho' : OpD c r' o') {σ : L2.St} {H : Hp} {Q : VK} (h : canE c pn W (fChain o o' fa fb fc) σ H Q) : tChain r r' (canE c pn W fa) (canE c pn W fb) (canE c pn W fc) σ H Q := by
  obtain ⟨ρ, env, S, E, R, h⟩ := h
  refine ⟨ρ, env, S, E, R, Fin.mono h.bind fun x H1 ⟨ρ1, S1, a, e1, R1, r1, h1⟩ => ?_⟩
  refine ⟨ρ1, env, S1, E.ext e1, R1, Fin.mono h1.bind fun y H2 ⟨ρ2, S2, b, e2, R2, r2, h2⟩ => ?_⟩
  refine ho W σ ρ2 S2 H2 x y a b _ R2 (r1.ext e2) r2 (Fin.mono h2.bind fun k H3 ⟨ρ3, S3, d, e3, R3, r3, h3⟩ => ?_)
  cases r3 with
  | bl k =>
    refine ⟨k, rfl, ?_⟩
    cases k with
    | true =>
      rw [if_pos rfl]
      refine ⟨ρ3, env, S3, (E.ext (e1.trans e2)).ext e3, R3, Fin.mono h3.bind fun z H4 ⟨ρ4, S4, g, e4, R4, r4, h4⟩ => ?_⟩
      exact ho' W σ ρ4 S4 H4 y z b g Q R4 ((r2.ext e3).ext e4) r4 h4
    | false =>
      rw [if_neg Bool.false_ne_true]
      exact h3.done R3 (.bl false)
  | _ => exact h3.elim
theorem de_chain {op op' : CmpOp} {r r' : R2} {o o' : D → D → Sg → Res D} (hr : OpR X (compareOp op) r) (hr' : OpR X (compareOp op') r') (ho : OpD X.cc r o) (ho' : OpD X.cc r' o') (ha : DE X W a fa) (hb : DE X W b fb) (hc : DE X W cc fc)
    (hm : lastMarks [op, op'] [b, cc] = false) : DE X W (.Compare a [op, op'] [b, cc] pos) (fChain o o' fa fb fc) :=
  PE.imp (pe_chain hr hr' ha hb hc hm) fun _ _ _ h => can_chain ho ho' h
theorem dt_chain {op op' : CmpOp} {r r' : R2} {o o' : D → D → Sg → Res D} (hr : OpR X (compareOp op) r) (hr' : OpR X (compareOp op') r') (ho : OpD X.cc r o) (ho' : OpD X.cc r' o') (ha : DE X W a fa) (hb : DE X W b fb) (hc : DE X W cc fc)
    (hm : lastMarks [op, op'] [b, cc] = false) : DT X W (.Compare a [op, op'] [b, cc] pos) (fB (fChain o o' fa fb fc)) :=
  PT.imp (pt_chain hr hr' ha hb hc hm) fun _ _ _ h => can_chain ho ho' (can_B h)
def fAnd (t u : FT) : FT := fun env S => (t env S).bind fun b S => if b = true then u env S else .ok false S
def fOr (t u : FT) : FT := fun env S => (t env S).bind fun b S => if b = true then .ok true S else u env S
def fNot (t : FT) : FT := fun env S => (t env S).bind fun b S => .ok (!b) S
variable {t u : FT} {rest : List Expr}
theorem can_and {c : Cc} {pn : List (Addr × Obj)} {σ : L2.St} {H : Hp} {Q : Bool → Hp → Prop} (h : canT c pn W (fAnd t u) σ H Q) : tAnd (canT c pn W t) (canT c pn W u) σ H Q := by
  obtain ⟨ρ, env, S, E, R, h⟩ := h
  refine ⟨ρ, env, S, E, R, Fin.mono h.bind fun x H1 ⟨ρ1, S1, a, e1, R1, r1, h1⟩ => ?_⟩
  cases r1
  cases x with
  | true =>
    rw [if_pos rfl] at h1 ⊢
    exact ⟨ρ1, env, S1, E.ext e1, R1, h1⟩
  | false =>
    rw [if_neg Bool.false_ne_true] at h1 ⊢
    exact h1.done R1 rfl
theorem can_or {c : Cc} {pn : List (Addr × Obj)} {σ : L2.St} {H : Hp} {Q : Bool → Hp → Prop} (h : canT c pn W (fOr t u) σ H Q) : tOr (canT c pn W t) (canT c pn W u) σ H Q := by
  obtain ⟨ρ, env, S, E, R, h⟩ := h
  refine ⟨ρ, env, S, E, R, Fin.mono h.bind fun x H1 ⟨ρ1, S1, a, e1, R1, r1, h1⟩ => ?_⟩
  cases r1
  cases x with
  | true =>
    rw [if_pos rfl] at h1 ⊢
    exact h1.done R1 rfl
  | false =>
    rw [if_neg Bool.false_ne_true] at h1 ⊢
    exact ⟨ρ1, env, S1, E.ext e1, R1, h1⟩
theorem can_not {c : Cc} {pn : List (Addr × Obj)} {σ : L2.St} {H : Hp} {Q : Bool → Hp → Prop} (h : canT c pn W (fNot t) σ H Q) : tNot (canT c pn W t) σ H Q := by
  obtain ⟨ρ, env, S, E, R, h⟩ := h
  refine ⟨ρ, env, S, E, R, Fin.mono h.bind fun x H1 ⟨ρ1, S1, a, e1, R1, r1, h1⟩ => ?_⟩
  cases r1
  exact h1.done R1 rfl
theorem dw_and1 (ha : DT X W a t) : DW X W (.BoolOp .And [a] pos) t := pw_and1 ha
theorem dw_or1 (ha : DT X W a t) : DW X W (.BoolOp .Or [a] pos) t := pw_or1 ha
theorem dw_and (ha : DT X W a t) (hb : DW X W (.BoolOp .And (b :: rest) pos) u) : DW X W (.BoolOp .And (a :: b :: rest) pos) (fAnd t u) := PW.imp (pw_and ha hb) fun _ _ _ h => can_and h
theorem dw_or (ha : DT X W a t) (hb : DW X W (.BoolOp .Or (b :: rest) pos) u) : DW X W (.BoolOp .Or (a :: b :: rest) pos) (fOr t u) := PW.imp (pw_or ha hb) fun _ _ _ h => can_or h
theorem dt_not (ha : DT X W a t) : DT X W (.UnaryOp .Not a pos) (fNot t) := PT.imp (pt_not ha) fun _ _ _ h => can_not h
theorem DW.dt (h : DW X W e t) : DT X W e t := PW.pt h
def truD (S : Sg) : D → Option Bool
  | .non => some false
  | .bl b => some b
  | .int i => some (decide (i ≠ 0))
  | .str x => if x.length ≤ sizeLine then some (decide (x.length ≠ 0)) else none
  | .tup _ ds => some (!ds.isEmpty)
  | .il ds => some (!ds.isEmpty)
  | .obj k => match S[k]? with
    | some (.lst ds) => some (!ds.isEmpty)
    | some (.dK ds) => some (!ds.isEmpty)
    | _ => none
  | _ => none
def fTru (f : FE) : FT := fun env S => (f env S).bind fun d S => match truD S d with
  | some b => .ok b S
  | none => .st
theorem RP.isEmpty {κ : Type} {c : Cc} {ρ : List Addr} {H : Hp} {vs : List (κ × V)} {ds : List (κ × D)} (r : RP c ρ H vs ds) : ds.isEmpty = vs.isEmpty := by
  cases r <;> rfl
theorem truD_ok {c : Cc} {ρ : List Addr} {S : Sg} {H : Hp} {x : V} {d : D} {b : Bool} (R : Rel c ρ S H) (r : RD c ρ H x d) (h : truD S d = some b) : TruV c.K x H b := by
  cases r with
  | non => exact (Option.some.inj h).symm
  | bl b => exact (Option.some.inj h).symm
  | int i =>
    refine (Option.some.inj h).symm.trans ?_
    by_cases q : i = 0 <;> simp [q]
  | str s =>
    dsimp only [truD] at h
    split at h
    · rename_i hs
      refine ⟨hs, (Option.some.inj h).symm.trans ?_⟩
      by_cases q : s.length = 0 <;> simp [q]
    · cases h
  | tup hs ha => exact .inr (.inl ⟨_, hs.2, by rw [← (Option.some.inj h), ha.isEmpty]⟩)
  | il hs ha => exact .inl ⟨_, hs.sq, by rw [← (Option.some.inj h), ha.isEmpty]⟩
  | @obj k a hk =>
    dsimp only [truD] at h
    split at h
    · rename_i ds hS
      obtain ⟨a', ha', vs, e, q⟩ := R.at_ k _ hS
      rw [hk] at ha'
      cases ha'
      exact .inl ⟨vs, .inl (.inl e), by rw [← (Option.some.inj h), q.isEmpty]⟩
    · rename_i ds hS
      obtain ⟨a', ha', vs, e, q⟩ := R.at_ k _ hS
      rw [hk] at ha'
      cases ha'
      exact .inr (.inr ⟨vs, e, by rw [← (Option.some.inj h), q.isEmpty]⟩)
    · cases h
  | fn _ => cases h
  | ty _ => cases h
  | kd _ _ => cases h
def plainT : Expr → Bool
  | .UnaryOp .Not _ _ => false
  | .BoolOp _ _ _ => false
  | .IfExp _ _ _ _ => false
  | .Compare _ _ _ _ => false
  | _ => true
theorem plainT_is {env : PySem.Env} (h : plainT e = true) : ∀ whole, isTrue e env whole = (do let v ← whole; standAt e.pos; holding [v] (truthy v)) := by
  intro whole
  cases e with
  | UnaryOp op x p => cases op <;> first | rfl | exact absurd (show false = true from h) Bool.false_ne_true
  | BoolOp _ _ _ => exact absurd (show false = true from h) Bool.false_ne_true
  | IfExp _ _ _ _ => exact absurd (show false = true from h) Bool.false_ne_true
  | Compare _ _ _ _ => exact absurd (show false = true from h) Bool.false_ne_true
  | _ => rfl
theorem dt_tru (ha : DE X W e fa) (h : plainT e = true) : DT X W e (fTru fa) := by
  refine PT.imp (pt_truth ha (plainT_is h)) fun σ H Q ⟨ρ, env, S, E, R, h⟩ => ?_
  refine ⟨ρ, env, S, E, R, Fin.mono h.bind fun x H1 ⟨ρ1, S1, a, e1, R1, r1, h1⟩ => ?_⟩
  split at h1
  · rename_i b hb
    exact ⟨b, truD_ok R1 r1 hb, h1.done R1 rfl⟩
  · exact h1.elim
def fAndV (fa fb : FE) : FE := fun env S => (fa env S).bind fun d S => match truD S d with
  | some true => fb env S
  | some false => .ok d S
  | none => .st
def fOrV (fa fb : FE) : FE := fun env S => (fa env S).bind fun d S => match truD S d with
  | some true => .ok d S
  | some false => fb env S
  | none => .st
def fNotV (fa : FE) : FE := fun env S => (fa env S).bind fun d S => match truD S d with
  | some b => .ok (.bl (!b)) S
  | none => .st
theorem de_one {op : BoolOp} (ha : DE X W a fa) : DE X W (.BoolOp op [a] pos) fa := pe_one ha
theorem de_and (ha : DE X W a fa) (hb : DE X W (.BoolOp .And (b :: rest) pos) fb) : DE X W (.BoolOp .And (a :: b :: rest) pos) (fAndV fa fb) := by
  refine PE.imp (pe_andT ha hb) fun σ H Q ⟨ρ, env, S, E, R, h⟩ => ?_
  refine ⟨ρ, env, S, E, R, Fin.mono h.bind fun x H1 ⟨ρ1, S1, a, e1, R1, r1, h1⟩ => ?_⟩
  split at h1
  · rename_i hb
    refine ⟨true, truD_ok R1 r1 hb, ?_⟩
    rw [if_pos rfl]
    exact ⟨ρ1, env, S1, E.ext e1, R1, h1⟩
  · rename_i hb
    refine ⟨false, truD_ok R1 r1 hb, ?_⟩
    rw [if_neg Bool.false_ne_true]
    exact h1.done R1 r1
  · exact h1.elim
theorem de_or (ha : DE X W a fa) (hb : DE X W (.BoolOp .Or (b :: rest) pos) fb) : DE X W (.BoolOp .Or (a :: b :: rest) pos) (fOrV fa fb) := by
  refine PE.imp (pe_orT ha hb) fun σ H Q ⟨ρ, env, S, E, R, h⟩ => ?_
  refine ⟨ρ, env, S, E, R, Fin.mono h.bind fun x H1 ⟨ρ1, S1, a, e1, R1, r1, h1⟩ => ?_⟩
  split at h1
  · rename_i hb
    refine ⟨true, truD_ok R1 r1 hb, ?_⟩
    rw [if_pos rfl]
    exact h1.done R1 r1
  · rename_i hb
    refine ⟨false, truD_ok R1 r1 hb, ?_⟩
    rw [if_neg Bool.false_ne_true]
    exact ⟨ρ1, env, S1, E.ext e1, R1, h1⟩
  · exact h1.elim
theorem de_not (ha : DE X W a fa) : DE X W (.UnaryOp .Not a pos) (fNotV fa) := by
  refine PE.imp (pe_notT ha) fun σ H Q ⟨ρ, env, S, E, R, h⟩ => ?_
  refine ⟨ρ, env, S, E, R, Fin.mono h.bind fun x H1 ⟨ρ1, S1, a, e1, R1, r1, h1⟩ => ?_⟩
  split at h1
  · rename_i b hb
    exact ⟨b, truD_ok R1 r1 hb, h1.done R1 (.bl _)⟩
  · exact h1.elim
def fNil : FL := fun _ S => .ok [] S
def fCons (fa : FE) (fs : FL) : FL := fun env S => (fa env S).bind fun d S => (fs env S).bind fun ds S => .ok (d :: ds) S
theorem da_nil : DA X W [] fNil := PA.imp pa_nil fun σ H Q ⟨ρ, env, S, E, R, h⟩ => h.done R .nil
theorem da_cons (he : DE X W e fa) (hr : DA X W es fs) (hs : starEach (e :: es) X.env = (false, eval e X.env) :: starEach es X.env) : DA X W (e :: es) (fCons fa fs) := by
  refine PA.imp (pa_cons he hr hs) fun σ H Q ⟨ρ, env, S, E, R, h⟩ => ?_
  refine ⟨ρ, env, S, E, R, Fin.mono h.bind fun x H1 ⟨ρ1, S1, a, e1, R1, r1, h1⟩ => ?_⟩
  refine ⟨ρ1, env, S1, E.ext e1, R1, Fin.mono h1.bind fun y H2 ⟨ρ2, S2, b, e2, R2, r2, h2⟩ => ?_⟩
  exact h2.done R2 (.cons (r1.ext e2) r2)
end
mutual
def toP : D → Option PyData
  | .non => some .none
  | .bl b => some (.bool b)
  | .int i => some (.int i)
  | .str s => some (.str s)
  | .tup _ ds => (toPs ds).map .tuple
  | .il ds => (toPs ds).map .list
  | _ => none
def toPs : List D → Option (List PyData)
  | [] => some []
  | d :: ds => (toP d).bind fun x => (toPs ds).bind fun xs => some (x :: xs)
end
def toPS (S : Sg) (d : D) : Option PyData := match d with
  | .obj k => match S[k]? with
    | some (.lst ds) => (toPs ds).map .list
    | _ => none
  | d => toP d
section
variable {c : Cc} {ρ : List Addr} {S : Sg} {H : Hp}
mutual
theorem toP_ok : ∀ {v : V} {d : D} {p : PyData}, RD c ρ H v d → toP d = some p → Dp c.K H v p ∧ p.plain = true
  | _, _, _, .non, h => by cases h; exact ⟨.non, rfl⟩
  | _, _, _, .bl b, h => by cases h; exact ⟨.bl b, rfl⟩
  | _, _, _, .int b, h => by cases h; exact ⟨.int b, rfl⟩
  | _, _, _, .str b, h => by cases h; exact ⟨.str b, rfl⟩
  | _, .tup _ ds, p, .tup hs ha, h => by
    simp only [toP] at h
    cases e : toPs ds with
    | none => rw [e] at h; cases h
    | some ps =>
      rw [e] at h
      cases h
      obtain ⟨h1, h2⟩ := toPs_ok ha e
      exact ⟨.tup hs.2 h1, h2⟩
  | _, .il ds, p, .il hs ha, h => by
    simp only [toP] at h
    cases e : toPs ds with
    | none => rw [e] at h; cases h
    | some ps =>
      rw [e] at h
      cases h
      obtain ⟨h1, h2⟩ := toPs_ok ha e
      exact ⟨.lst hs.sq h1, h2⟩
  | _, _, _, .obj _, h => by cases h
  | _, _, _, .fn _, h => by cases h
  | _, _, _, .ty _, h => by cases h
  | _, _, _, .kd _ _, h => by cases h
theorem toPs_ok : ∀ {vs : List V} {ds : List D} {ps : List PyData}, RL c ρ H vs ds → toPs ds = some ps → DpAll c.K H vs ps ∧ PyData.plainAll ps = true
  | _, _, _, .nil, h => by cases h; exact ⟨.nil, rfl⟩
  | _, d :: ds, ps, .cons h1 h2, h => by
    simp only [toPs] at h
    cases e : toP d with
    | none => rw [e] at h; cases h
    | some x =>
      rw [e] at h
      cases e2 : toPs ds with
      | none => rw [e2] at h; cases h
      | some xs =>
        rw [e2] at h
        cases h
        obtain ⟨a1, a2⟩ := toP_ok h1 e
        obtain ⟨b1, b2⟩ := toPs_ok h2 e2
        exact ⟨.cons a1 b1, by rw [PyData.plainAll, a2, b2]; rfl⟩
end
theorem toPS_ok {v : V} {d : D} {p : PyData} (R : Rel c ρ S H) (r : RD c ρ H v d) (h : toPS S d = some p) : Dp c.K H v p ∧ p.plain = true := by
  cases r with
  | @obj k a hk =>
    dsimp only [toPS] at h
    split at h
    · rename_i ds hS
      obtain ⟨a', ha', vs, e, q⟩ := R.at_ k _ hS
      rw [hk] at ha'
      cases ha'
      cases e2 : toPs ds with
      | none => rw [e2] at h; cases h
      | some ps =>
        rw [e2] at h
        cases h
        obtain ⟨h1, h2⟩ := toPs_ok q e2
        exact ⟨.lst (.inl (.inl e)) h1, h2⟩
    · cases h
  | non => exact toP_ok (ρ := ρ) .non h
  | bl b => exact toP_ok (ρ := ρ) (.bl b) h
  | int b => exact toP_ok (ρ := ρ) (.int b) h
  | str b => exact toP_ok (ρ := ρ) (.str b) h
  | tup a b => exact toP_ok (ρ := ρ) (.tup a b) h
  | il a b => exact toP_ok (ρ := ρ) (.il a b) h
  | fn a => exact toP_ok (ρ := ρ) (.fn a) h
  | ty a => exact toP_ok (ρ := ρ) (.ty a) h
  | kd a b => exact toP_ok (ρ := ρ) (.kd a b) h
end
def eqO (S : Sg) (a b : D) : Option Bool := match toPS S a, toPS S b with
  | some x, some y => if min x.depth y.depth ≤ 64 then some (PyData.eqv x y) else none
  | _, _ => none
def rEqP (K : PySem.W.Frag) : R2 := fun x y H Q => ∃ d e, Dp K H x d ∧ Dp K H y e ∧ d.plain = true ∧ e.plain = true ∧ min d.depth e.depth ≤ 64 ∧ Q (.bl (PyData.eqv d e)) H
def rNeP (K : PySem.W.Frag) : R2 := fun x y H Q => ∃ d e, Dp K H x d ∧ Dp K H y e ∧ d.plain = true ∧ e.plain = true ∧ min d.depth e.depth ≤ 64 ∧ Q (.bl (!PyData.eqv d e)) H
section
variable {X : Cx}
theorem op_eqP (hu : X.A.units + 64 < cLine) : OpR X (compareOp .Eq) (rEqP X.K) := by
  intro pins s σ H x y v u Q I rx ry h
  obtain ⟨d, e, hd, he, sd, se, hm, q⟩ := h
  obtain ⟨as, r1⟩ := Dp.reads I d x v hd rx
  obtain ⟨bs, r2⟩ := Dp.reads I e y u he ry
  exact PySem.SeqAt.eq_plain r1 r2 sd se (by omega) ⟨.bl _, H, I, rfl, q⟩
theorem op_neP (hu : X.A.units + 64 < cLine) : OpR X (compareOp .NotEq) (rNeP X.K) := by
  intro pins s σ H x y v u Q I rx ry h
  obtain ⟨d, e, hd, he, sd, se, hm, q⟩ := h
  obtain ⟨as, r1⟩ := Dp.reads I d x v hd rx
  obtain ⟨bs, r2⟩ := Dp.reads I e y u he ry
  exact PySem.SeqAt.ne_plain r1 r2 sd se (by omega) ⟨.bl _, H, I, rfl, q⟩
end
mutual
inductive QR (S : Sg) : D → PyData → Prop
  | non : QR S .non .none
  | bl (b : Bool) : QR S (.bl b) (.bool b)
  | int (i : Int) : QR S (.int i) (.int i)
  | str (z : Str) : QR S (.str z) (.str z)
  | tup {w : Bool} {ds : List D} {ps : List PyData} (h : QL S ds ps) : QR S (.tup w ds) (.tuple ps)
  | obj {k : Nat} {ds : List D} {ps : List PyData} (hk : S[k]? = some (.lst ds)) (h : QL S ds ps) : QR S (.obj k) (.list ps)
inductive QL (S : Sg) : List D → List PyData → Prop
  | nil : QL S [] []
  | cons {d : D} {ds : List D} {p : PyData} {ps : List PyData} (h : QR S d p) (hs : QL S ds ps) : QL S (d :: ds) (p :: ps)
end
section
variable {c : Cc} {ρ : List Addr} {S : Sg} {H : Hp}
theorem QR.dp (R : Rel c ρ S H) {v : V} {d : D} {p : PyData} (r : RD c ρ H v d) (h : QR S d p) : Dp c.K H v p ∧ p.plain = true := by
  refine QR.rec (motive_1 := fun d p _ => ∀ v, RD c ρ H v d → Dp c.K H v p ∧ p.plain = true) (motive_2 := fun ds ps _ => ∀ vs, RL c ρ H vs ds → DpAll c.K H vs ps ∧ PyData.plainAll ps = true) ?_ ?_ ?_ ?_ ?_ ?_ ?_ ?_ h v r
  · intro v r; cases r; exact ⟨.non, rfl⟩
  · intro b v r; cases r; exact ⟨.bl b, rfl⟩
  · intro i v r; cases r; exact ⟨.int i, rfl⟩
  · intro z v r; cases r; exact ⟨.str z, rfl⟩
  · intro w ds ps _ ih v r
    cases r with
    | tup hs ha =>
      obtain ⟨h1, h2⟩ := ih _ ha
      exact ⟨.tup hs.2 h1, h2⟩
  · intro k ds ps hS _ ih v r
    cases r with
    | obj hk =>
      obtain ⟨a', ha', vs, e, q⟩ := R.at_ k _ hS
      rw [hk] at ha'
      cases ha'
      obtain ⟨h1, h2⟩ := ih _ q
      exact ⟨.lst (.inl (.inl e)) h1, h2⟩
  · intro vs r; cases r; exact ⟨.nil, rfl⟩
  · intro d ds p ps _ _ i1 i2 vs r
    cases r with
    | cons h1 h2 =>
      obtain ⟨a1, a2⟩ := i1 _ h1
      obtain ⟨b1, b2⟩ := i2 _ h2
      exact ⟨.cons a1 b1, by rw [PyData.plainAll, a2, b2]; rfl⟩
end
def EqW (S : Sg) (a b : D) (k : Bool) : Prop := ∃ p q, QR S a p ∧ QR S b q ∧ min p.depth q.depth ≤ 64 ∧ PyData.eqv p q = k
open Classical in
noncomputable def dEq (a b : D) (S : Sg) : Res D := match eqO S a b with
  | some k => .ok (.bl k) S
  | none => if EqW S a b true then .ok (.bl true) S else if EqW S a b false then .ok (.bl false) S else .st
open Classical in
noncomputable def dNe (a b : D) (S : Sg) : Res D := match eqO S a b with
  | some k => .ok (.bl (!k)) S
  | none => if EqW S a b true then .ok (.bl false) S else if EqW S a b false then .ok (.bl true) S else .st
section
variable {c : Cc} {ρ : List Addr} {S : Sg} {H : Hp}
theorem eqO_ok {x y : V} {a b : D} {k : Bool} (R : Rel c ρ S H) (r1 : RD c ρ H x a) (r2 : RD c ρ H y b) (h : eqO S a b = some k) :
    ∃ d e, Dp c.K H x d ∧ Dp c.K H y e ∧ d.plain = true ∧ e.plain = true ∧ min d.depth e.depth ≤ 64 ∧ PyData.eqv d e = k := by
  unfold eqO at h
  split at h
  · rename_i p q hp hq
    split at h
    · rename_i hm
      obtain ⟨a1, a2⟩ := toPS_ok R r1 hp
      obtain ⟨b1, b2⟩ := toPS_ok R r2 hq
      exact ⟨p, q, a1, b1, a2, b2, hm, Option.some.inj h⟩
    · cases h
  · cases h
theorem dEq_ok : OpD c (rEqP c.K) dEq := by
  intro W σ ρ S H x y a b Q R r1 r2 h
  unfold dEq at h
  split at h
  · rename_i k hk
    obtain ⟨d, e, h1, h2, h3, h4, h5, h6⟩ := eqO_ok R r1 r2 hk
    exact ⟨d, e, h1, h2, h3, h4, h5, by rw [h6]; exact h.done R (.bl _)⟩
  · split at h
    · rename_i hw
      obtain ⟨p, q, q1, q2, h5, h6⟩ := hw
      obtain ⟨h1, h3⟩ := QR.dp R r1 q1
      obtain ⟨h2, h4⟩ := QR.dp R r2 q2
      exact ⟨p, q, h1, h2, h3, h4, h5, by rw [h6]; exact h.done R (.bl _)⟩
    · split at h
      · rename_i hw
        obtain ⟨p, q, q1, q2, h5, h6⟩ := hw
        obtain ⟨h1, h3⟩ := QR.dp R r1 q1
        obtain ⟨h2, h4⟩ := QR.dp R r2 q2
        exact ⟨p, q, h1, h2, h3, h4, h5, by rw [h6]; exact h.done R (.bl _)⟩
      · exact h.elim
theorem dNe_ok : OpD c (rNeP c.K) dNe := by
  intro W σ ρ S H x y a b Q R r1 r2 h
  unfold dNe at h
  split at h
  · rename_i k hk
    obtain ⟨d, e, h1, h2, h3, h4, h5, h6⟩ := eqO_ok R r1 r2 hk
    exact ⟨d, e, h1, h2, h3, h4, h5, by rw [h6]; exact h.done R (.bl _)⟩
  · split at h
    · rename_i hw
      obtain ⟨p, q, q1, q2, h5, h6⟩ := hw
      obtain ⟨h1, h3⟩ := QR.dp R r1 q1
      obtain ⟨h2, h4⟩ := QR.dp R r2 q2
      exact ⟨p, q, h1, h2, h3, h4, h5, by rw [h6]; exact h.done R (.bl _)⟩
    · split at h
      · rename_i hw
        obtain ⟨p, q, q1, q2, h5, h6⟩ := hw
        obtain ⟨h1, h3⟩ := QR.dp R r1 q1
        obtain ⟨h2, h4⟩ := QR.dp R r2 q2
        exact ⟨p, q, h1, h2, h3, h4, h5, by rw [h6]; exact h.done R (.bl _)⟩
      · exact h.elim
end
def dOrd (f : Int → Int → Bool) (a b : D) (S : Sg) : Res D := match a, b with
  | .int i, .int j => .ok (.bl (f i j)) S
  | _, _ => .st
theorem dOrd_ok {c : Cc} (f : Int → Int → Bool) : OpD c (rI0 fun i j => .bl (f i j)) (dOrd f) := by
  intro W σ ρ S H x y a b Q R r1 r2 h
  unfold dOrd at h
  split at h
  · cases r1
    cases r2
    exact ⟨_, _, rfl, rfl, h.done R (.bl _)⟩
  · exact h.elim
def dIs (a b : D) (S : Sg) : Res D := match a, b with
  | .non, .non => .ok (.bl true) S
  | _, .non => .ok (.bl false) S
  | .bl x, .bl y => .ok (.bl (decide (x = y))) S
  | _, _ => .st
theorem dIs_ok {c : Cc} : OpD c (fun x y H Q => (y = .non ∧ Q (.bl (decide (x = .non))) H) ∨ rIsB x y H Q) dIs := by
  intro W σ ρ S H x y a b Q R r1 r2 h
  unfold dIs at h
  split at h
  · cases r1; cases r2; exact .inl ⟨rfl, by simpa using h.done R (.bl true)⟩
  · rename_i hn
    cases r2
    refine .inl ⟨rfl, ?_⟩
    have : x ≠ .non := by
      rintro rfl
      cases r1
      exact hn rfl
    rw [decide_eq_false this]
    exact h.done R (.bl false)
  · cases r1; cases r2; exact .inr ⟨_, _, rfl, rfl, h.done R (.bl _)⟩
  · exact h.elim
def keyD : D → Option Key
  | .int i => some (.inl i)
  | .str x => some (.inr x)
  | _ => none
def keysD : List D → Option (List Key)
  | [] => some []
  | d :: ds => (keyD d).bind fun k => (keysD ds).bind fun ks => some (k :: ks)
section
variable {κ : Type} [DecidableEq κ]
def putD (kvs : List (κ × D)) (k : κ) (v : D) : List (κ × D) := if kvs.any (fun kv => decide (kv.1 = k)) then kvs.map (fun kv => if kv.1 = k then (kv.1, v) else kv) else kvs ++ [(k, v)]
def dropD (kvs : List (κ × D)) (k : κ) : List (κ × D) := kvs.filter fun kv => decide (kv.1 ≠ k)
end
section
variable {κ : Type} [DecidableEq κ] {c : Cc} {ρ : List Addr} {S : Sg} {H : Hp}
theorem RP.val (k : κ) : ∀ {vs : List (κ × V)} {ds : List (κ × D)}, RP c ρ H vs ds → (valV vs k = none ∧ valD ds k = none) ∨ ∃ v d, valV vs k = some v ∧ valD ds k = some d ∧ RD c ρ H v d
  | _, _, .nil => .inl ⟨rfl, rfl⟩
  | _, _, .cons (k := k') (v := v) (d := d) (vs := vs) (ds := ds) h r => by
    by_cases e : k' = k
    · refine .inr ⟨v, d, valV_pos (p := (k', v)) e, ?_, h⟩
      simp [valD, List.find?_cons, e]
    · rw [valV_neg (p := (k', v)) e]
      have : valD ((k', d) :: ds) k = valD ds k := by simp [valD, List.find?_cons, e]
      rw [this]
      exact RP.val k r
theorem RP.any (k : κ) : ∀ {vs : List (κ × V)} {ds : List (κ × D)}, RP c ρ H vs ds → (vs.any fun kv => decide (kv.1 = k)) = ds.any fun kv => decide (kv.1 = k)
  | _, _, .nil => rfl
  | _, _, .cons h r => by rw [List.any_cons, List.any_cons, RP.any k r]
theorem RP.repl (k : κ) {x : V} {y : D} (q : RD c ρ H x y) : ∀ {vs : List (κ × V)} {ds : List (κ × D)}, RP c ρ H vs ds → RP c ρ H (vs.map fun kv => if kv.1 = k then (kv.1, x) else kv) (ds.map fun kv => if kv.1 = k then (kv.1, y) else kv)
  | _, _, .nil => .nil
  | _, _, .cons (k := k') h r => by
    rw [List.map_cons, List.map_cons]
    by_cases e : k' = k
    · rw [if_pos e, if_pos e]; exact .cons q (RP.repl k q r)
    · rw [if_neg e, if_neg e]; exact .cons h (RP.repl k q r)
theorem RP.snoc {k : κ} {x : V} {y : D} (q : RD c ρ H x y) : ∀ {vs : List (κ × V)} {ds : List (κ × D)}, RP c ρ H vs ds → RP c ρ H (vs ++ [(k, x)]) (ds ++ [(k, y)])
  | _, _, .nil => .cons q .nil
  | _, _, .cons h r => .cons h (RP.snoc q r)
theorem RP.put (k : κ) {x : V} {y : D} (q : RD c ρ H x y) {vs : List (κ × V)} {ds : List (κ × D)} (r : RP c ρ H vs ds) : RP c ρ H (putK vs k x) (putD ds k y) := by
  unfold putK putD
  rw [r.any k]
  split
  · exact r.repl k q
  · exact r.snoc q
theorem RP.drop (k : κ) : ∀ {vs : List (κ × V)} {ds : List (κ × D)}, RP c ρ H vs ds → RP c ρ H (dropK vs k) (dropD ds k)
  | _, _, .nil => .nil
  | _, _, .cons (k := k') h r => by
    unfold dropK dropD
    rw [List.filter_cons, List.filter_cons]
    by_cases e : k' = k
    · rw [if_neg (by simp [e]), if_neg (by simp [e])]; exact RP.drop k r
    · rw [if_pos (by simp [e]), if_pos (by simp [e])]; exact .cons h (RP.drop k r)
theorem RP.len : ∀ {vs : List (κ × V)} {ds : List (κ × D)}, RP c ρ H vs ds → vs.length = ds.length
  | _, _, .nil => rfl
  | _, _, .cons _ r => congrArg (· + 1) (RP.len r)
theorem keyD_ok {v : V} {d : D} {k : Key} (r : RD c ρ H v d) (h : keyD d = some k) : v = kV k := by
  cases r <;> first | (cases h; rfl) | exact nomatch h
theorem keysD_ok : ∀ {vs : List V} {ds : List D} {ks : List Key}, RL c ρ H vs ds → keysD ds = some ks → vs = ks.map kV
  | _, _, _, .nil, h => by cases h; rfl
  | _, d :: ds, ks, .cons h1 h2, h => by
    simp only [keysD] at h
    cases e : keyD d with
    | none => rw [e] at h; cases h
    | some x =>
      rw [e] at h
      cases e2 : keysD ds with
      | none => rw [e2] at h; cases h
      | some xs =>
        rw [e2] at h
        cases h
        rw [keyD_ok h1 e, keysD_ok h2 e2]
        rfl
def getD? (S : Sg) (k : Nat) (y : D) : Option (Option D) := match S[k]? with
  | some (.dK kvs) => (keyD y).map fun z => valD kvs z
  | some (.dT kvs) => match y with
    | .tup true ds => (keysD ds).map fun z => valD kvs z
    | _ => none
  | _ => none
theorem getD?_ok {k : Nat} {a : Addr} {y : V} {d : D} {o : Option D} (R : Rel c ρ S H) (hk : ρ[k]? = some a) (r : RD c ρ H y d) (h : getD? S k d = some o) :
    (o = none ∧ DGet H a y none) ∨ ∃ z v, o = some z ∧ DGet H a y (some v) ∧ RD c ρ H v z := by
  unfold getD? at h
  split at h
  · rename_i kvs hS
    obtain ⟨a', ha', vs, e, q⟩ := R.at_ k _ hS
    rw [hk] at ha'; cases ha'
    cases e2 : keyD d with
    | none => rw [e2] at h; cases h
    | some z =>
      rw [e2] at h
      cases h
      have hy := keyD_ok r e2
      subst hy
      rcases q.val z with ⟨h1, h2⟩ | ⟨v, w, h1, h2, h3⟩
      · exact .inl ⟨h2, by rw [← h1]; exact DGet.k e⟩
      · exact .inr ⟨w, v, h2, by rw [← h1]; exact DGet.k e, h3⟩
  · rename_i kvs hS
    obtain ⟨a', ha', vs, e, q⟩ := R.at_ k _ hS
    rw [hk] at ha'; cases ha'
    split at h
    · rename_i ds
      cases r with
      | tup ht hl =>
        cases e2 : keysD ds with
        | none => rw [e2] at h; cases h
        | some z =>
          rw [e2] at h
          cases h
          have hy := keysD_ok hl e2
          subst hy
          have hb := ht.1 rfl
          rcases q.val z with ⟨h1, h2⟩ | ⟨v, w, h1, h2, h3⟩
          · exact .inl ⟨h2, by rw [← h1]; exact DGet.t e hb⟩
          · exact .inr ⟨w, v, h2, by rw [← h1]; exact DGet.t e hb, h3⟩
    · cases h
  · cases h
end
def seqD (S : Sg) : D → Option (List D)
  | .tup _ ds => some ds
  | .il ds => some ds
  | .obj k => match S[k]? with
    | some (.lst ds) => some ds
    | _ => none
  | _ => none
def inO (S : Sg) (a b : D) : Option Bool := match a, b with
  | .str x, .str z => match x.cps.toList with
    | [n] => some (decide (n ∈ z.cps.toList))
    | _ => some (!(Builtin.Str.occurrences z x 0 z.length 1).isEmpty)
  | a, b => match seqD S b with
    | some ds => match toPs ds, toP a with
      | some xs, some d => if min (PyData.depthAll xs) d.depth ≤ 60 then some (xs.any fun y => PyData.eqv y d) else none
      | _, _ => none
    | none => match b with
      | .obj k => (getD? S k a).map (·.isSome)
      | _ => none
def dIn (a b : D) (S : Sg) : Res D := match inO S a b with
  | some k => .ok (.bl k) S
  | none => .st
def dNotIn (a b : D) (S : Sg) : Res D := match inO S a b with
  | some k => .ok (.bl (!k)) S
  | none => .st
def rInG (K : PySem.W.Frag) (g : Bool → Bool) : R2 := fun x y H Q =>
  (∃ (c : Nat) (z : Str), x = .str ⟨#[c]⟩ ∧ y = .str z ∧ Q (.bl (g (decide (c ∈ z.cps.toList)))) H) ∨
  (∃ i j, x = .str i ∧ y = .str j ∧ Q (.bl (g (!(Builtin.Str.occurrences j i 0 j.length 1).isEmpty))) H) ∨
  (∃ d ps, Dp K H x d ∧ (Dp K H y (.list ps) ∨ Dp K H y (.tuple ps)) ∧ d.plain = true ∧ PyData.plainAll ps = true ∧ min (PyData.depthAll ps) d.depth ≤ 60 ∧ Q (.bl (g (ps.any fun z => PyData.eqv z d))) H) ∨
  (∃ a o, y = .ref a ∧ DGet H a x o ∧ Q (.bl (g o.isSome)) H)
section
variable {X : Cx}
theorem op_inG (hu : X.A.units + 64 < cLine) : OpR X (compareOp .In) (rInG X.K id) := by
  refine OpR.or op_in_sign (OpR.or op_in_str (OpR.or ?_ ?_))
  · intro pins s σ H x y v u Q I rx ry h
    obtain ⟨d, ps, hd, hp, sd, sp, hm, q⟩ := h
    obtain ⟨as, r1⟩ := Dp.reads I d x v hd rx
    rcases hp with hp | hp
    · obtain ⟨bs, r2⟩ := Dp.reads I _ y u hp ry
      exact PySem.SeqAt.in_list_data r2 r1 sp sd (by omega) ⟨.bl _, H, I, rfl, q⟩
    · obtain ⟨bs, r2⟩ := Dp.reads I _ y u hp ry
      exact PySem.SeqAt.in_tuple_data r2 r1 sp sd (by omega) ⟨.bl _, H, I, rfl, q⟩
  · intro pins s σ H x y v u Q I rx ry h
    obtain ⟨a, o, rfl, g, q⟩ := h
    cases ry
    exact d_in (by omega) I g rx fun s3 I3 => ⟨.bl o.isSome, H, I3, rfl, q⟩
theorem op_notInG (hu : X.A.units + 64 < cLine) : OpR X (compareOp .NotIn) (rInG X.K not) := by
  refine OpR.or op_notIn_sign (OpR.or op_notIn_str (OpR.or ?_ ?_))
  · intro pins s σ H x y v u Q I rx ry h
    obtain ⟨d, ps, hd, hp, sd, sp, hm, q⟩ := h
    obtain ⟨as, r1⟩ := Dp.reads I d x v hd rx
    rcases hp with hp | hp
    · obtain ⟨bs, r2⟩ := Dp.reads I _ y u hp ry
      exact PySem.SeqAt.notIn_list_data r2 r1 sp sd (by omega) ⟨.bl _, H, I, rfl, q⟩
    · obtain ⟨bs, r2⟩ := Dp.reads I _ y u hp ry
      exact PySem.SeqAt.notIn_tuple_data r2 r1 sp sd (by omega) ⟨.bl _, H, I, rfl, q⟩
  · intro pins s σ H x y v u Q I rx ry h
    obtain ⟨a, o, rfl, g, q⟩ := h
    cases ry
    exact d_notIn (by omega) I g rx fun s3 I3 => ⟨.bl (!o.isSome), H, I3, rfl, q⟩
end
section
variable {c : Cc} {ρ : List Addr} {S : Sg} {H : Hp}
theorem seqD_ok {v : V} {d : D} {ds : List D} (R : Rel c ρ S H) (r : RD c ρ H v d) (h : seqD S d = some ds) : ∃ p vs, v = .ref p ∧ (SqL c.K H p vs ∨ SqT c.K H p vs) ∧ RL c ρ H vs ds := by
  cases r with
  | tup ht hl => cases h; exact ⟨_, _, rfl, .inr ht.2, hl⟩
  | il ht hl => cases h; exact ⟨_, _, rfl, .inl ht.sq, hl⟩
  | @obj k a hk =>
    dsimp only [seqD] at h
    split at h
    · rename_i es hS
      cases h
      obtain ⟨a', ha', vs, e, q⟩ := R.at_ k _ hS
      rw [hk] at ha'; cases ha'
      exact ⟨_, _, rfl, .inl (.inl (.inl e)), q⟩
    · cases h
  | _ => exact nomatch h
theorem inO_ok {g : Bool → Bool} {x y : V} {a b : D} {k : Bool} {Q : VK} (R : Rel c ρ S H) (r1 : RD c ρ H x a) (r2 : RD c ρ H y b) (h : inO S a b = some k) (q : Q (.bl (g k)) H) : rInG c.K g x y H Q := by
  unfold inO at h
  split at h
  · rename_i xs z
    cases r1
    cases r2
    split at h
    · rename_i n hn
      cases h
      refine .inl ⟨n, z, ?_, rfl, q⟩
      congr 1
      exact Str.ext' (Array.toList_inj.mp (by rw [hn]))
    · cases h
      exact .inr (.inl ⟨_, _, rfl, rfl, q⟩)
  · split at h
    · rename_i ds hds
      split at h
      · rename_i xs d hxs hd
        split at h
        · rename_i hm
          cases h
          obtain ⟨p, vs, rfl, hs, hl⟩ := seqD_ok R r2 hds
          obtain ⟨a1, a2⟩ := toP_ok r1 hd
          obtain ⟨b1, b2⟩ := toPs_ok hl hxs
          exact .inr (.inr (.inl ⟨d, xs, a1, hs.imp (fun z => .lst z b1) (fun z => .tup z b1), a2, b2, hm, q⟩))
        · cases h
      · cases h
    · cases r2 with
      | @obj kk _ hk =>
        dsimp only at h
        cases e : getD? S kk a with
        | none => rw [e] at h; cases h
        | some o =>
          rw [e] at h
          cases h
          rcases getD?_ok R hk r1 e with ⟨rfl, h2⟩ | ⟨z, v, rfl, h2, _⟩
          · exact .inr (.inr (.inr ⟨_, _, rfl, h2, q⟩))
          · exact .inr (.inr (.inr ⟨_, _, rfl, h2, q⟩))
      | _ => exact nomatch h
theorem dIn_ok : OpD c (rInG c.K id) dIn := by
  intro W σ ρ S H x y a b Q R r1 r2 h
  unfold dIn at h
  split at h
  · rename_i k hk
    exact inO_ok R r1 r2 hk (h.done R (.bl _))
  · exact h.elim
theorem dNotIn_ok : OpD c (rInG c.K not) dNotIn := by
  intro W σ ρ S H x y a b Q R r1 r2 h
  unfold dNotIn at h
  split at h
  · rename_i k hk
    exact inO_ok (g := not) R r1 r2 hk (h.done R (.bl _))
  · exact h.elim
end
def okMul (i j : Int) : Bool := (decide (-(2 ^ 64) < i) && decide (i < 2 ^ 64)) || (decide (-(2 ^ 64) < j) && decide (j < 2 ^ 64)) || decide (i.natAbs.log2 + j.natAbs.log2 < 1000000)
def okDiv (j : Int) : Bool := decide (0 < j) && decide (j.natAbs.log2 < 9000)
def okPow (i j : Int) : Bool := decide (0 ≤ j) && decide (j ≤ 1000000) && decide (i.natAbs < 2 ^ 64)
def dInt (ok : Int → Int → Bool) (f : Int → Int → Int) (a b : D) (S : Sg) : Res D := match a, b with
  | .int i, .int j => if ok i j = true then .ok (.int (f i j)) S else .st
  | _, _ => .st
def dMul := dInt okMul fun i j => i * j
def dDiv := dInt (fun _ j => okDiv j) fun i j => i / j
def dMod := dInt (fun _ j => decide (0 < j)) fun i j => i % j
def dPow := dInt okPow fun i j => i ^ j.toNat
def dSub := dInt (fun _ _ => true) fun i j => i - j
def dAdd (a b : D) (S : Sg) : Res D := match a, b with
  | .int i, .int j => .ok (.int (i + j)) S
  | .str x, .str y => if x.length + y.length ≤ sizeLine then .ok (.str (x ++ y)) S else .st
  | .tup w xs, .tup u ys => if xs.length + ys.length ≤ sizeLine then .ok (.tup (w && u) (xs ++ ys)) S else .st
  | .obj k, .obj l => match S[k]?, S[l]? with
    | some (.lst xs), some (.lst ys) => if xs.length + ys.length ≤ sizeLine then .ok (.obj S.length) (S ++ [.lst (xs ++ ys)]) else .st
    | _, _ => .st
  | _, _ => .st
def rMul : R2 := fun x y H Q => rI CMul (fun i j => .int (i * j)) x y H Q ∨ rI CMulW (fun i j => .int (i * j)) x y H Q
theorem op_mulA {X : Cx} : OpR X (binaryOp .Mult) rMul := OpR.or op_mul op_mulW
section
variable {c : Cc}
theorem dInt_ok {C : Int → Int → Prop} {ok : Int → Int → Bool} {f : Int → Int → Int} (h : ∀ i j, ok i j = true → C i j) : OpD c (rI C fun i j => .int (f i j)) (dInt ok f) := by
  intro W σ ρ S H x y a b Q R r1 r2 q
  unfold dInt at q
  split at q
  · cases r1
    cases r2
    split at q
    · rename_i hk
      exact ⟨_, _, rfl, rfl, h _ _ hk, q.done R (.int _)⟩
    · exact q.elim
  · exact q.elim
theorem dInt0_ok {f : Int → Int → Int} : OpD c (rI0 fun i j => .int (f i j)) (dInt (fun _ _ => true) f) := by
  intro W σ ρ S H x y a b Q R r1 r2 q
  unfold dInt at q
  split at q
  · cases r1
    cases r2
    rw [if_pos rfl] at q
    exact ⟨_, _, rfl, rfl, q.done R (.int _)⟩
  · exact q.elim
theorem dMul_ok : OpD c rMul dMul := by
  intro W σ ρ S H x y a b Q R r1 r2 q
  unfold dMul dInt at q
  split at q
  · rename_i i j
    cases r1
    cases r2
    split at q
    · rename_i hk
      unfold okMul at hk
      simp only [Bool.or_eq_true, Bool.and_eq_true, decide_eq_true_eq] at hk
      rcases hk with (hk | hk) | hk
      · exact .inl ⟨i, j, rfl, rfl, .inl hk, q.done R (.int _)⟩
      · exact .inl ⟨i, j, rfl, rfl, .inr hk, q.done R (.int _)⟩
      · exact .inr ⟨i, j, rfl, rfl, hk, q.done R (.int _)⟩
    · exact q.elim
  · exact q.elim
theorem dDiv_ok : OpD c (rI CDivW fun i j => .int (i / j)) dDiv := dInt_ok fun i j h => by
  unfold okDiv at h
  simp only [Bool.and_eq_true, decide_eq_true_eq] at h
  exact h
theorem dMod_ok : OpD c (rI (fun _ j => 0 < j) fun i j => .int (i % j)) dMod := dInt_ok fun i j h => of_decide_eq_true h
theorem dPow_ok : OpD c (rI CPow fun i j => .int (i ^ j.toNat)) dPow := dInt_ok fun i j h => by
  unfold okPow at h
  simp only [Bool.and_eq_true, decide_eq_true_eq] at h
  exact ⟨h.1.1, h.1.2, h.2⟩
def rAddG (K : PySem.W.Frag) : R2 := fun x y H Q => rI0 (fun i j => .int (i + j)) x y H Q ∨ (∃ i j, x = .str i ∧ y = .str j ∧ i.length + j.length ≤ sizeLine ∧ Q (.str (i ++ j)) H) ∨ rCatA K x y H Q ∨ rCat x y H Q
theorem op_addG {X : Cx} : OpR X (binaryOp .Add) (rAddG X.K) := OpR.or op_add (OpR.or op_add_str (OpR.or op_catA op_cat))
theorem TupAt.weak {K : PySem.W.Frag} {H : Hp} {p : Addr} {vs : List V} {w u : Bool} (h : TupAt K H p vs w) (k : u = true → w = true) : TupAt K H p vs u := ⟨fun z => h.1 (k z), h.2⟩
theorem TupAt.new {K : PySem.W.Frag} {H : Hp} {p : Addr} {vs : List V} {w : Bool} : TupAt K (upd H p (.tup vs)) p vs w := ⟨fun _ => upd_same, SqT.of upd_same⟩
theorem RL.nil_iff {ρ : List Addr} {H : Hp} {vs : List V} {ds : List D} (r : RL c ρ H vs ds) : vs = [] ↔ ds = [] := by
  cases r with
  | nil => simp
  | cons _ _ => simp
theorem dAdd_ok : OpD c (rAddG c.K) dAdd := by
  intro W σ ρ S H x y a b Q R r1 r2 q
  unfold dAdd at q
  split at q
  · cases r1
    cases r2
    exact .inl ⟨_, _, rfl, rfl, q.done R (.int _)⟩
  · cases r1
    cases r2
    split at q
    · rename_i hz
      exact .inr (.inl ⟨_, _, rfl, rfl, hz, q.done R (.str _)⟩)
    · exact q.elim
  · rename_i w xs u ys
    cases r1 with
    | tup h1 l1 =>
      cases r2 with
      | tup h2 l2 =>
        split at q
        · rename_i hz
          refine .inr (.inr (.inl ⟨_, _, _, _, rfl, rfl, h1.2, h2.2, by rw [l1.len, l2.len]; exact hz, fun e => ?_, fun _ e => ?_, fun _ _ p hp => ?_⟩))
          · have e' := l1.nil_iff.mp e
            subst e'
            exact q.done R (.tup (h2.weak fun z => (Bool.and_eq_true_iff.mp z).2) l2)
          · have e' := l2.nil_iff.mp e
            subst e'
            rw [List.append_nil] at q
            exact q.done R (.tup (h1.weak fun z => (Bool.and_eq_true_iff.mp z).1) l1)
          · exact q _ _ _ (Ext.lay hp) (R.lay hp) (.tup .new ((l1.append l2).ext (Ext.lay hp)))
        · exact q.elim
  · rename_i k l
    cases r1 with
    | obj hk =>
      cases r2 with
      | obj hl =>
        split at q
        · rename_i xs ys hx hy
          split at q
          · rename_i hz
            obtain ⟨a', ha', vs, e, l1⟩ := R.at_ k _ hx
            rw [hk] at ha'; cases ha'
            obtain ⟨b', hb', ws, e2, l2⟩ := R.at_ l _ hy
            rw [hl] at hb'; cases hb'
            refine .inr (.inr (.inr ⟨_, _, _, _, rfl, rfl, e, e2, by rw [l1.len, l2.len]; exact hz, fun p hp => ?_⟩))
            refine q _ _ _ (Ext.put hp) (R.put hp ⟨_, upd_same, (l1.append l2).ext (Ext.put hp)⟩) (.obj ?_)
            rw [← R.len]
            simp
          · exact q.elim
        · exact q.elim
  · exact q.elim
end
section
variable {X : Cx} {W : WX} {e a b : Expr} {es : List Expr} {pos : Pos} {fa fb : FE} {fs : FL}
def fTup (fs : FL) : FE := fun env S => (fs env S).bind fun ds S => if ds.length ≤ sizeLine then .ok (.tup true ds) S else .st
def fLst (fs : FL) : FE := fun env S => (fs env S).bind fun ds S => if ds.length ≤ sizeLine then .ok (.obj S.length) (S ++ [.lst ds]) else .st
theorem de_tup {k : Nat} (h : DA X W es fs) : DE X W (.Tuple es k pos) (fTup fs) := by
  refine PE.imp (pe_tup h) fun σ H Q ⟨ρ, env, S, E, R, h⟩ => ?_
  refine ⟨ρ, env, S, E, R, Fin.mono h.bind fun x H1 ⟨ρ1, S1, ds, e1, R1, r1, h1⟩ => ?_⟩
  split at h1
  · rename_i hz
    exact ⟨by rw [r1.len]; exact hz, fun p hp => h1 _ _ _ (Ext.lay hp) (R1.lay hp) (.tup .new (r1.ext (Ext.lay hp)))⟩
  · exact h1.elim
theorem de_lst (h : DA X W es fs) : DE X W (.List es pos) (fLst fs) := by
  refine PE.imp (pe_lst h) fun σ H Q ⟨ρ, env, S, E, R, h⟩ => ?_
  refine ⟨ρ, env, S, E, R, Fin.mono h.bind fun x H1 ⟨ρ1, S1, ds, e1, R1, r1, h1⟩ => ?_⟩
  split at h1
  · rename_i hz
    refine ⟨by rw [r1.len]; exact hz, fun p hp => h1 _ _ _ (Ext.put hp) (R1.put hp ⟨_, upd_same, r1.ext (Ext.put hp)⟩) (.obj ?_)⟩
    rw [← R1.len]
    simp
  · exact h1.elim
def dIx (a b : D) (S : Sg) : Res D := match a, b with
  | .str z, .int i => if z.length ≤ sizeLine then match atI z.cps.toList i with
      | some n => .ok (.str ⟨#[n]⟩) S
      | none => .st
    else .st
  | a, b => match seqD S a with
    | some ds => match b with
      | .int i => match atI ds i with
        | some d => .ok d S
        | none => .st
      | _ => .st
    | none => match a with
      | .obj k => match getD? S k b with
        | some (some d) => .ok d S
        | _ => .st
      | _ => .st
theorem ix_dict (hu : X.A.units + 1 < cLine) : IxR X (fun x y H Q => ∃ a v, x = .ref a ∧ DGet H a y (some v) ∧ Q v H) := by
  intro value slice pins s σ H x y v u Q I rx ry h hs
  obtain ⟨a, w, rfl, g, q⟩ := h
  cases rx
  exact PyProof.Rows.tail_any (dict_typeIs I g) PySem.F.slot_dict_getitem.lookup (d_getItem hu I g ry fun w' s3 I3 rw' => ⟨w, H, I3, rw', q⟩) hs
def rIxG (K : PySem.W.Frag) : R2 := fun x y H Q => rIx K x y H Q ∨ ∃ a v, x = .ref a ∧ DGet H a y (some v) ∧ Q v H
theorem ix_G (hu : X.A.units + 1 < cLine) : IxR X (rIxG X.K) := IxR.or ix_seq (ix_dict hu)
theorem atI_RL {c : Cc} {ρ : List Addr} {H : Hp} {vs : List V} {ds : List D} {i : Int} {d : D} (r : RL c ρ H vs ds) (h : atI ds i = some d) : ∃ v, atI vs i = some v ∧ RD c ρ H v d := by
  unfold atI at h ⊢
  rw [r.len]
  cases e : ixN ds.length i with
  | none => rw [e] at h; cases h
  | some j =>
    rw [e] at h
    obtain ⟨v, h1, h2⟩ := r.get (show ds[j]? = some d from h)
    exact ⟨v, h1, h2⟩
theorem dIx_ok {c : Cc} : OpD c (rIxG c.K) dIx := by
  intro W σ ρ S H x y a b Q R r1 r2 q
  unfold dIx at q
  split at q
  · cases r1
    cases r2
    split at q
    · rename_i hz
      split at q
      · rename_i n hn
        exact .inl (.inr (.inr ⟨_, _, n, rfl, rfl, hz, hn, q.done R (.str _)⟩))
      · exact q.elim
    · exact q.elim
  · split at q
    · rename_i ds hds
      cases r2 with
      | int i =>
        dsimp only at q
        split at q
        · rename_i d hd
          obtain ⟨p, vs, rfl, hs, hl⟩ := seqD_ok R r1 hds
          obtain ⟨v, hv, rv⟩ := atI_RL hl hd
          rcases hs with hs | hs
          · exact .inl (.inl ⟨p, vs, i, v, rfl, rfl, hs, hv, q.done R rv⟩)
          · exact .inl (.inr (.inl ⟨p, vs, i, v, rfl, rfl, hs, hv, q.done R rv⟩))
        · exact q.elim
      | _ => exact q.elim
    · cases r1 with
      | @obj kk _ hk =>
        dsimp only at q
        cases e : getD? S kk b with
        | none => rw [e] at q; exact q.elim
        | some o =>
          rw [e] at q
          rcases getD?_ok R hk r2 e with ⟨rfl, _⟩ | ⟨z, v, rfl, h2, h3⟩
          · exact q.elim
          · exact .inr ⟨_, v, rfl, h2, q.done R h3⟩
      | _ => exact q.elim
def plainI : Expr → Bool
  | .Slice _ _ none _ => false
  | _ => true
theorem plainI_is (h : plainI b = true) : PlainIx b := by
  intro o i
  cases b with
  | Slice l u s p => cases s <;> first | rfl | exact absurd (show false = true from h) Bool.false_ne_true
  | _ => rfl
theorem de_ix (hu : X.A.units + 1 < cLine) (ha : DE X W a fa) (hb : DE X W b fb) (hs : plainI b = true) : DE X W (.Subscript a b pos) (fBin dIx fa fb) :=
  PE.imp (pe_ix (ix_G hu) ha hb (plainI_is hs)) fun _ _ _ h => can_bin dIx_ok h
def fO0 : FO := fun _ S => .ok none S
def fO1 (f : FE) : FO := fun env S => (f env S).bind fun d S => match d with
  | .int i => .ok (some i) S
  | _ => .st
theorem do_none : DO X W none fO0 := PO.imp po_none fun σ H Q ⟨ρ, env, S, E, R, h⟩ => h.done R rfl
theorem do_some (h : DE X W e fa) : DO X W (some e) (fO1 fa) := PO.imp (po_some h) fun σ H Q ⟨ρ, env, S, E, R, h⟩ => by
  refine ⟨ρ, env, S, E, R, Fin.mono h.bind fun x H1 ⟨ρ1, S1, d, e1, R1, r1, h1⟩ => ?_⟩
  cases r1 with
  | int i => exact ⟨i, rfl, h1.done R1 rfl⟩
  | _ => exact h1.elim
def cutD (xs : List D) (lo hi : Option Int) : List D := (xs.drop (HT.sIx xs.length 0 lo)).take (HT.sIx xs.length xs.length hi - HT.sIx xs.length 0 lo)
def lstD (S : Sg) : D → Option (List D)
  | .il ds => some ds
  | .obj k => match S[k]? with
    | some (.lst ds) => some ds
    | _ => none
  | _ => none
theorem lstD_ok {c : Cc} {ρ : List Addr} {S : Sg} {H : Hp} {v : V} {d : D} {ds : List D} (R : Rel c ρ S H) (r : RD c ρ H v d) (h : lstD S d = some ds) : ∃ p vs, v = .ref p ∧ SqL c.K H p vs ∧ RL c ρ H vs ds := by
  cases r with
  | il ht hl => cases h; exact ⟨_, _, rfl, ht.sq, hl⟩
  | @obj k a hk =>
    dsimp only [lstD] at h
    split at h
    · rename_i es hS
      cases h
      obtain ⟨a', ha', vs, e, q⟩ := R.at_ k _ hS
      rw [hk] at ha'; cases ha'
      exact ⟨_, _, rfl, .inl (.inl e), q⟩
    · cases h
  | _ => exact nomatch h
def newL (ds : List D) (S : Sg) : Res D := .ok (.obj S.length) (S ++ [.lst ds])
theorem newL_ok {c : Cc} {W : WX} {σ : L2.St} {ρ : List Addr} {S : Sg} {H : Hp} {vs : List V} {ds : List D} {p : Addr} {Q : VK} (R : Rel c ρ S H) (r : RL c ρ H vs ds) (hp : H p = none) (h : Fin c W σ ρ H (relD c) (newL ds S) Q) : Q (.ref p) (upd H p (.lst vs)) := by
  refine h _ _ _ (Ext.put hp) (R.put hp ⟨_, upd_same, r.ext (Ext.put hp)⟩) (.obj ?_)
  rw [← R.len]
  simp
def dCut (d : D) (lo hi : Option Int) (S : Sg) : Res D := match d with
  | .str z => if z.length ≤ sizeLine then .ok (.str (cutS z lo hi)) S else .st
  | .tup w ds => .ok (.tup w (cutD ds lo hi)) S
  | d => match lstD S d with
    | some ds => newL (cutD ds lo hi) S
    | none => .st
def fCut (f : FE) (l h : FO) : FE := fun env S => (f env S).bind fun d S => (l env S).bind fun lo S => (h env S).bind fun hi S => dCut d lo hi S
def rSlG (K : PySem.W.Frag) : V → Option Int → Option Int → Hp → VK → Prop := fun x lo hi H Q => rSlS x lo hi H Q ∨ rSlA K x lo hi H Q ∨ rSlL K x lo hi H Q
theorem sl_G : SlR X (rSlG X.K) := SlR.or sl_str (SlR.or sl_tupA sl_list)
theorem RL.cut {c : Cc} {ρ : List Addr} {H : Hp} {vs : List V} {ds : List D} {lo hi : Option Int} (r : RL c ρ H vs ds) : RL c ρ H (cutV vs lo hi) (cutD ds lo hi) := by
  unfold cutV cutD
  rw [r.len]
  exact (r.drop _).take _
theorem de_cut {p2 : Pos} {lo hi : Option Expr} {fl fh : FO} (he : DE X W e fa) (hl : DO X W lo fl) (hh : DO X W hi fh) : DE X W (.Subscript e (.Slice lo hi none p2) pos) (fCut fa fl fh) := by
  refine PE.imp (pe_slice sl_G he hl hh) fun σ H Q ⟨ρ, env, S, E, R, h⟩ => ?_
  refine ⟨ρ, env, S, E, R, Fin.mono h.bind fun x H1 ⟨ρ1, S1, d, e1, R1, r1, h1⟩ => ?_⟩
  refine ⟨ρ1, env, S1, E.ext e1, R1, Fin.mono h1.bind fun l H2 ⟨ρ2, S2, lo', e2, R2, r2, h2⟩ => ?_⟩
  refine ⟨ρ2, env, S2, E.ext (e1.trans e2), R2, Fin.mono h2.bind fun u H3 ⟨ρ3, S3, hi', e3, R3, r3, h3⟩ => ?_⟩
  cases r2
  cases r3
  have r1' := (r1.ext e2).ext e3
  have lst : ∀ ds, lstD S3 d = some ds → Fin X.cc W σ ρ3 H3 (relD X.cc) (newL (cutD ds l u) S3) Q → rSlG X.K x l u H3 Q := fun ds hds h => by
    obtain ⟨p, vs, rfl, hs, hl⟩ := lstD_ok R3 r1' hds
    exact .inr (.inr ⟨p, vs, rfl, hs, fun q hq => newL_ok R3 hl.cut hq h⟩)
  cases r1' with
  | str z =>
    dsimp only [dCut] at h3
    split at h3
    · rename_i hz
      exact .inl ⟨_, rfl, hz, h3.done R3 (.str _)⟩
    · exact h3.elim
  | @tup p vs w ds ht hl =>
    dsimp only [dCut] at h3
    refine .inr (.inl ⟨_, _, rfl, ht.2, fun hw => ?_, fun _ q hq => ?_⟩)
    · have e : cutD ds l u = ds := by
        unfold cutD
        rw [← hl.len, hw.1, hw.2, List.drop_zero, Nat.sub_zero, hl.len, List.take_length]
      rw [e] at h3
      exact h3.done R3 (.tup ht hl)
    · exact h3 _ _ _ (Ext.lay hq) (R3.lay hq) (.tup .new (hl.cut.ext (Ext.lay hq)))
  | _ =>
    dsimp only [dCut] at h3
    split at h3
    · rename_i ds hds
      exact lst ds hds h3
    · exact h3.elim
end
end G
namespace HT
open PySem PySem.Spec PyProof.Rows L2
section
variable {prog : Program} {w : World} {A : Around} {E : Value → Shared → Prop} {s : Shared}
theorem sliceApplied_rev {sl : Addr} {vs : Value} {n : Nat} {Q : Int × Int × Nat → Shared → Prop} (hs : s.heap.IsSliceOf sl .none .none vs) (ps : IsPart vs (some (-1)))
    (h : Q ((n : Int) - 1, -1, n) s) : wpAny (model prog w) A (Builtin.Slice.sliceApplied (.ref sl) (pure (n : Int))) Q E s := by
  obtain ⟨os, hos, hcs, hds⟩ := id hs
  unfold Builtin.Slice.sliceApplied Builtin.Slice.sliceFields
  refine wpAny_bind (wpAny_bind (wpAny_field hos hds (x := .none) rfl (wpAny_bind (wpAny_field hos hds (x := .none) rfl (wpAny_bind (wpAny_field hos hds (x := vs) rfl (wpAny_pure ?_)))))))
  refine wpAny_bind (slicePart_ ps ?_)
  show wpAny _ _ (if ((-1 : Int) == 0) = true then _ else _) _ _ s
  rw [if_neg (by decide)]
  refine wpAny_bind (slicePart_none (wpAny_bind (slicePart_none (wpAny_bind (wpAny_pure ?_)))))
  show wpAny _ _ (pure ((n : Int) - 1, (-1 : Int), Builtin.Slice.slicePlaces ((n : Int) - 1) (-1) (-1))) _ _ s
  have e : Builtin.Slice.slicePlaces ((n : Int) - 1) (-1) (-1) = n := by
    unfold Builtin.Slice.slicePlaces
    rw [if_neg (by decide)]
    have h1 : - (-1 : Int) = 1 := by decide
    rw [h1, Int.ediv_one]
    split <;> omega
  rw [e]
  exact wpAny_pure h
theorem fm_congr {α β : Type} {f g : α → Option β} : ∀ {l : List α}, (∀ x ∈ l, f x = g x) → l.filterMap f = l.filterMap g
  | [], _ => rfl
  | x :: l, h => by rw [List.filterMap_cons, List.filterMap_cons, h x List.mem_cons_self, fm_congr fun y hy => h y (List.mem_cons_of_mem _ hy)]
theorem pick_rev (xs : Array Value) : ((List.range xs.size).filterMap fun (m : Nat) => xs[(((xs.size : Int) - 1) + (m : Int) * (-1)).toNat]?).toArray = xs.toList.reverse.toArray := by
  have e : ((List.range xs.size).filterMap fun (m : Nat) => xs[(((xs.size : Int) - 1) + (m : Int) * (-1)).toNat]?) = ((List.range xs.size).map fun k => xs.size - 1 - k).filterMap (xs[·]?) := by
    rw [List.filterMap_map]
    refine fm_congr fun m hm => ?_
    have h1 : m < xs.size := List.mem_range.mp hm
    show xs[_]? = xs[_]?
    have h2 : (((xs.size : Int) - 1) + (m : Int) * (-1)).toNat = xs.size - 1 - m := by omega
    rw [h2]
  rw [e, PySem.W.krv_range, List.filterMap_reverse, PySem.W.krv_all]
theorem getItem_tuple_rev {t sl : Addr} {items : Array Value} {vs : Value} {Q : Value → Shared → Prop} (ht : IsTup s.heap t items) (hs : s.heap.IsSliceOf sl .none .none vs) (ps : IsPart vs (some (-1)))
    (h : Q (.ref s.heap.objs.size) { s with heap := s.heap.push { cls := .type "tuple", data := .seq items.toList.reverse.toArray } })
    (hsz : items.size ≤ sizeLine) : wpAny (model prog w) A (getItem (.ref t) (.ref sl)) Q E s := by
  have htake : sizeOk (.seq items.toList.reverse.toArray) := by
    show items.toList.reverse.toArray.size ≤ sizeLine
    rw [List.size_toArray, List.length_reverse, Array.length_toList]
    omega
  obtain ⟨os, hos, hcs, hds⟩ := id hs
  have hTs : s.TypeIs (.ref sl) "slice" := ⟨os, hos, hcs⟩
  unfold getItem
  try with_reducible refine wpAny_holding ?_
  first | refine wpAny_bind (wpAny_pure ?_) | skip
  refine wpAny_bind (wpAny_sequenceKey ht.typeIs (by decide) ?_)
  refine wpAny_bind (wpAny_callSpecial?_slot (name := Str.ofString "__getitem__") ht.typeIs PyProof.Rows.slot_tuple_getitem
    (wpAny_call_entry PyProof.Rows.slot_tuple_getitem ht.typeIs entry_tuple_getitem ?_ (args_tuple_getitem _ _)))
  show wpAny _ _ (Builtin.Tuple.tupleItemsOf (.ref t) >>= _) _ _ s
  refine wpAny_bind (tupleItemsOf_ ht ?_)
  refine wpAny_bind (wpAny_typeOf hTs ?_)
  rw [if_pos (by decide)]
  refine wpAny_bind (sliceApplied_rev hs ps ?_)
  have hno : ¬ (((((items.size : Nat) : Int) - 1) == 0 && (-1 : Int) == 1 && items.size == items.size) = true) := by
    intro q
    rw [Bool.and_eq_true, Bool.and_eq_true] at q
    exact absurd q.1.2 (by decide)
  show wpAny _ _ (if ((((items.size : Nat) : Int) - 1) == 0 && (-1 : Int) == 1 && items.size == items.size) = true then _ else _) _ _ s
  rw [if_neg hno, pick_rev]
  first
    | exact wpAny_bind (m := Builtin.Tuple.tupleExact _) (wpAny_newObj_type (wpAny_pure ⟨_, rfl, wpAny_pure h⟩) htake)
    | exact wpAny_bind (m := Builtin.Tuple.tupleExact _) (wpAny_newObj_type (wpAny_bind (wpAny_pure (wpAny_pure ⟨_, rfl, wpAny_pure h⟩))) htake)
    | exact wpAny_bind (wpAny_bind (m := Builtin.Tuple.tupleExact _) (wpAny_newObj_type (wpAny_pure (wpAny_pure ⟨_, rfl, wpAny_pure h⟩)) htake))
    | exact wpAny_bind (wpAny_bind (m := Builtin.Tuple.tupleExact _) (wpAny_newObj_type (wpAny_pure ⟨_, rfl, wpAny_pure h⟩) htake))
end
end HT
namespace L2
open PySem PySem.Spec PyProof.Rows
variable {X : Cx}
def tRevG (K : PySem.W.Frag) (te : TE) : TE := fun σ H Q => te σ H fun x H1 => ∃ a xs, x = .ref a ∧ ((SqL K H1 a xs ∧ ∀ p, H1 p = none → Q (.ref p) (upd H1 p (.lst xs.reverse))) ∨ (SqT K H1 a xs ∧ ∀ p, H1 p = none → Q (.ref p) (upd H1 p (.tup xs.reverse))))
theorem pe_revG {e : Expr} {te : TE} {k : Nat} {p1 p2 p3 pos : Pos} (he : PE X e te) : PE X (.Subscript e (.Slice none none (some (.UnaryOp .USub (.Constant (.int 1) k p1) p2)) p3) pos) (tRevG X.K te) := by
  refine ⟨fun pins s σ H Q I h => ?_⟩
  refine Subscript_ (thn (he.run pins s σ H _ I h) fun v s1 ⟨x, H1, I1, r1, q1⟩ => ?_)
  obtain ⟨a, xs, ex, q⟩ := q1
  subst ex
  cases r1
  have hst : PO X (some (.UnaryOp .USub (.Constant (.int 1) k p1) p2)) (tPart (tUn (rU fun i => .int (-i)) (tC (.int 1)))) := po_some (pe_un un_neg pe_int)
  refine wpAny_Slice (thn (po_none.run pins s1 σ H1 (fun o H2 => o = none ∧ H2 = H1) I1 ⟨rfl, rfl⟩) fun vl s2 ⟨l, H2, I2, pl, el, e2⟩ => ?_)
  subst el e2
  refine thn (po_none.run pins s2 σ H2 (fun o H3 => o = none ∧ H3 = H2) I2 ⟨rfl, rfl⟩) fun vu s3 ⟨u, H3, I3, pu, eu, e3⟩ => ?_
  subst eu e3
  refine thn (hst.run pins s3 σ H3 (fun o H4 => o = some (-1) ∧ H4 = H3) I3 ⟨1, rfl, -1, rfl, rfl, rfl⟩) fun vs s4 ⟨o, H4, I4, ps, eo, e4⟩ => ?_
  subst eo e4
  have I5 : Inv X pins σ H4 { s4 with heap := s4.heap.push { cls := .type "slice", data := .fields #[vl, vu, vs] } } := I4.kept (t' := s4.toks) fun b ob q => Heap.get?_push_of_some _ q
  show wpAny (model X.prog X.w) X.A (subscriptTail e (.Slice none none (some (.UnaryOp .USub (.Constant (.int 1) k p1) p2)) p3) (.ref a) (.ref s4.heap.objs.size)) (EP X pins σ Q) X.xe { s4 with heap := s4.heap.push { cls := .type "slice", data := .fields #[vl, vu, vs] } }
  rcases q with ⟨hx, q⟩ | ⟨hx, q⟩
  · obtain ⟨its, r, ht, hz⟩ := I5.list hx
    have hlen := r.length
    refine tail_any (ops := [.ref a, .ref s4.heap.objs.size]) ht.isList.typeIs (PySem.slot_list_getitem.lookup) ?_ (by with_unfolding_all rfl)
    refine wpAny_getItem_list_slice ht.isList (Heap.IsSliceOf.new _ vl vu vs) pl pu ps (by decide) ?_ (by rw [List.size_toArray]; omega)
    rw [PySem.W.krv_pick]
    refine ⟨.ref _, _, I5.laid (t' := s4.toks) (o := .lst xs.reverse) (fun b ob q => Heap.get?_push_of_some _ q) (Nat.le_refl _) ?_, rfl, q _ (I5.hok.fresh (Nat.le_refl _))⟩
    exact ⟨by rw [List.length_reverse]; exact hz, _, 0, r.reverse, Heap.get?_push_size _ rfl⟩
  · obtain ⟨its, r, ht, hz⟩ := I5.tuple hx
    have hlen := r.length
    refine tail_any (ops := [.ref a, .ref s4.heap.objs.size]) ht.typeIs (PyProof.Rows.slot_tuple_getitem.lookup) ?_ (by with_unfolding_all rfl)
    cases pl
    cases pu
    refine HT.getItem_tuple_rev ht (Heap.IsSliceOf.new _ .none .none vs) ps ?_ (by rw [List.size_toArray]; omega)
    refine ⟨.ref _, _, I5.laid (t' := s4.toks) (o := .tup xs.reverse) (fun b ob q => Heap.get?_push_of_some _ q) (Nat.le_refl _) ?_, rfl, q _ (I5.hok.fresh (Nat.le_refl _))⟩
    exact ⟨by rw [List.length_reverse]; exact hz, _, r.reverse, IsTup.new _ _⟩
end L2
namespace G
open PySem PySem.Spec L2
def CallD (c : Cc) (r : List V → Hp → VK → Prop) (o : List D → Sg → Res D) : Prop := ∀ (W : WX) (σ : L2.St) (ρ : List Addr) (S : Sg) (H : Hp) (vs : List V) (ds : List D) (Q : VK),
  Rel c ρ S H → RL c ρ H vs ds → Fin c W σ ρ H (relD c) (o ds S) Q → r vs H Q
def fCall (o : List D → Sg → Res D) (fs : FL) : FE := fun env S => (fs env S).bind o
section
variable {X : Cx} {W : WX} {e a b : Expr} {es : List Expr} {pos : Pos} {fa fb : FE} {fs : FL} {c : Cc} {x : Str} {p : Pos} {r : List V → Hp → VK → Prop} {o : List D → Sg → Res D}
theorem can_call {pn : List (Addr × Obj)} (ho : CallD c r o) {σ : L2.St} {H : Hp} {Q : VK} (h : canE c pn W (fCall o fs) σ H Q) : tCB r (canA c pn W fs) σ H Q := by
  obtain ⟨ρ, env, S, E, R, h⟩ := h
  refine ⟨ρ, env, S, E, R, Fin.mono h.bind fun x H1 ⟨ρ1, S1, a, e1, R1, r1, h1⟩ => ?_⟩
  exact ho W σ ρ1 S1 H1 x a Q R1 r1 h1
theorem de_callB {id : String} (hc : CallR X (.builtin id) r) (ho : CallD X.cc r o) (hg : Gl X x) (hm : X.mg x = none) (hv : bootBuiltins x = some (.builtin id)) (ha : DA X W (e :: es) fs) (hn : x ≠ "__name__") (hdb : (x == ("__debug__" : Str)) = false)
    (he : starEach (e :: es) X.env = (false, eval e X.env) :: starEach es X.env) (hpl : (backTo pos (starEach es X.env)).any (·.1) = false) : DE X W (.Call (.Name x p) (e :: es) [] pos) (fCall o fs) :=
  PE.imp (pe_callB hc hg hm hv ha hn hdb he hpl) fun _ _ _ h => can_call ho h
theorem de_callTy {T : String} (hc : CallR X (.type T) r) (ho : CallD X.cc r o) (hg : Gl X x) (hm : X.mg x = none) (hv : bootBuiltins x = some (.type T)) (ha : DA X W (e :: es) fs) (hn : x ≠ "__name__") (hdb : (x == ("__debug__" : Str)) = false)
    (he : starEach (e :: es) X.env = (false, eval e X.env) :: starEach es X.env) (hpl : (backTo pos (starEach es X.env)).any (·.1) = false) : DE X W (.Call (.Name x p) (e :: es) [] pos) (fCall o fs) :=
  PE.imp (pe_callTy hc hg hm hv ha hn hdb he hpl) fun _ _ _ h => can_call ho h
def lenD (S : Sg) (d : D) : Option Nat := match d with
  | .str z => if z.length ≤ sizeLine then some z.length else none
  | d => match seqD S d with
    | some ds => some ds.length
    | none => match d with
      | .obj k => match S[k]? with
        | some (.dK kvs) => some kvs.length
        | _ => none
      | _ => none
def oLen (ds : List D) (S : Sg) : Res D := match ds with
  | [d] => match lenD S d with
    | some n => .ok (.int n) S
    | none => .st
  | _ => .st
def rLenG (K : PySem.W.Frag) : List V → Hp → VK → Prop := fun xs H Q => (∃ x n, xs = [x] ∧ LenV K x H n ∧ Q (.int n) H) ∨ ∃ a kvs, xs = [.ref a] ∧ H a = some (.dK kvs) ∧ Q (.int kvs.length) H
theorem call_lenG : CallR X (.builtin "len") (rLenG X.K) := by
  refine CallR.or call_len ?_
  intro pins s σ H xs us Q I r h
  obtain ⟨a, kvs, rfl, h1, q⟩ := h
  obtain ⟨u, rfl, rx⟩ := vals1 r
  cases rx
  exact d_len I (.inl h1) fun t s3 I3 => ⟨.int kvs.length, H, I3, ⟨_, rfl⟩, q⟩
theorem lenD_ok {ρ : List Addr} {S : Sg} {H : Hp} {v : V} {d : D} {n : Nat} (R : Rel c ρ S H) (r : RD c ρ H v d) (h : lenD S d = some n) : LenV c.K v H n ∨ ∃ a kvs, v = .ref a ∧ H a = some (.dK kvs) ∧ n = kvs.length := by
  have sq : ∀ ds, seqD S d = some ds → n = ds.length → LenV c.K v H n := fun ds hds hn => by
    obtain ⟨p, vs, rfl, hs, hl⟩ := seqD_ok R r hds
    rcases hs with hs | hs
    · exact .inl ⟨vs, hs, by rw [hn, hl.len]⟩
    · exact .inr ⟨vs, hs, by rw [hn, hl.len]⟩
  cases r with
  | str z =>
    dsimp only [lenD] at h
    split at h
    · rename_i hz
      cases h
      exact .inl ⟨hz, rfl⟩
    · cases h
  | tup ht hl => cases h; exact .inl (sq _ rfl rfl)
  | il ht hl => cases h; exact .inl (sq _ rfl rfl)
  | @obj k a hk =>
    dsimp only [lenD] at h
    split at h
    · rename_i ds hds
      cases h
      exact .inl (sq _ hds rfl)
    · split at h
      · rename_i kvs hS
        cases h
        obtain ⟨a', ha', vs, e, q⟩ := R.at_ k _ hS
        rw [hk] at ha'; cases ha'
        exact .inr ⟨_, vs, rfl, e, q.len.symm⟩
      · cases h
  | _ => exact nomatch h
theorem oLen_ok : CallD c (rLenG c.K) oLen := by
  intro W σ ρ S H vs ds Q R r h
  unfold oLen at h
  split at h
  · cases r with
    | cons r1 r2 =>
      cases r2
      split at h
      · rename_i n hn
        rcases lenD_ok R r1 hn with h1 | ⟨a, kvs, rfl, h1, rfl⟩
        · exact .inl ⟨_, n, rfl, h1, h.done R (.int _)⟩
        · exact .inr ⟨a, kvs, rfl, h1, h.done R (.int _)⟩
      · exact h.elim
  · exact h.elim
def oInt (ds : List D) (S : Sg) : Res D := match ds with
  | [.int i] => .ok (.int i) S
  | [.bl k] => .ok (.int (if k = true then 1 else 0)) S
  | [.str a] => if a.length ≤ 640 then match PySem.intText? a with
      | some n => .ok (.int n) S
      | none => .st
    else .st
  | _ => .st
def rIntG : List V → Hp → VK → Prop := fun xs H Q => ((∃ i, xs = [.int i] ∧ Q (.int i) H) ∨ ∃ k, xs = [.bl k] ∧ Q (.int (if k then 1 else 0)) H) ∨ ∃ a n, xs = [.str a] ∧ PySem.intText? a = some n ∧ a.length ≤ 640 ∧ Q (.int n) H
theorem call_intG : CallR X (.type "int") rIntG := CallR.or call_int1 call_int_str
theorem oInt_ok : CallD c rIntG oInt := by
  intro W σ ρ S H vs ds Q R r h
  unfold oInt at h
  split at h
  · cases r with | cons r1 r2 => cases r2; cases r1; exact .inl (.inl ⟨_, rfl, h.done R (.int _)⟩)
  · cases r with | cons r1 r2 => cases r2; cases r1; exact .inl (.inr ⟨_, rfl, h.done R (.int _)⟩)
  · cases r with
    | cons r1 r2 =>
      cases r2; cases r1
      split at h
      · rename_i hz
        split at h
        · rename_i n hn
          exact .inr ⟨_, n, rfl, hn, hz, h.done R (.int _)⟩
        · exact h.elim
      · exact h.elim
  · exact h.elim
def blsD : List D → Option (List Bool)
  | [] => some []
  | .bl b :: ds => (blsD ds).map (b :: ·)
  | _ :: _ => none
def strsD : List D → Option (List Str)
  | [] => some []
  | .str b :: ds => (strsD ds).map (b :: ·)
  | _ :: _ => none
theorem blsD_ok {ρ : List Addr} {H : Hp} : ∀ {vs : List V} {ds : List D} {bs : List Bool}, RL c ρ H vs ds → blsD ds = some bs → vs = bs.map V.bl
  | _, _, _, .nil, h => by cases h; rfl
  | _, _, _, .cons (.bl b) r, h => by
    simp only [blsD, Option.map_eq_some_iff] at h
    obtain ⟨bs', h1, rfl⟩ := h
    rw [blsD_ok r h1]
    rfl
  | _, _, _, .cons .non r, h => nomatch h
  | _, _, _, .cons (.int _) r, h => nomatch h
  | _, _, _, .cons (.str _) r, h => nomatch h
  | _, _, _, .cons (.tup _ _) r, h => nomatch h
  | _, _, _, .cons (.il _ _) r, h => nomatch h
  | _, _, _, .cons (.obj _) r, h => nomatch h
  | _, _, _, .cons (.fn _) r, h => nomatch h
  | _, _, _, .cons (.ty _) r, h => nomatch h
  | _, _, _, .cons (.kd _ _) r, h => nomatch h
theorem strsD_ok {ρ : List Addr} {H : Hp} : ∀ {vs : List V} {ds : List D} {bs : List Str}, RL c ρ H vs ds → strsD ds = some bs → vs = bs.map V.str
  | _, _, _, .nil, h => by cases h; rfl
  | _, _, _, .cons (.str b) r, h => by
    simp only [strsD, Option.map_eq_some_iff] at h
    obtain ⟨bs', h1, rfl⟩ := h
    rw [strsD_ok r h1]
    rfl
  | _, _, _, .cons .non r, h => nomatch h
  | _, _, _, .cons (.bl _) r, h => nomatch h
  | _, _, _, .cons (.int _) r, h => nomatch h
  | _, _, _, .cons (.tup _ _) r, h => nomatch h
  | _, _, _, .cons (.il _ _) r, h => nomatch h
  | _, _, _, .cons (.obj _) r, h => nomatch h
  | _, _, _, .cons (.fn _) r, h => nomatch h
  | _, _, _, .cons (.ty _) r, h => nomatch h
  | _, _, _, .cons (.kd _ _) r, h => nomatch h
def oAll (ds : List D) (S : Sg) : Res D := match ds with
  | [d] => match (lstD S d).bind blsD with
    | some bs => .ok (.bl (bs.all id)) S
    | none => .st
  | _ => .st
def oAny (ds : List D) (S : Sg) : Res D := match ds with
  | [d] => match (lstD S d).bind blsD with
    | some bs => .ok (.bl (bs.any id)) S
    | none => .st
  | _ => .st
theorem oAll_ok : CallD c (rAll c.K) oAll := by
  intro W σ ρ S H vs ds Q R r h
  unfold oAll at h
  split at h
  · cases r with
    | cons r1 r2 =>
      cases r2
      split at h
      · rename_i d _ bs hb
        obtain ⟨es, he, hb⟩ := Option.bind_eq_some_iff.mp hb
        obtain ⟨p, vs, rfl, hs, hl⟩ := lstD_ok R r1 he
        rw [blsD_ok hl hb] at hs
        exact ⟨p, bs, rfl, hs, h.done R (.bl _)⟩
      · exact h.elim
  · exact h.elim
theorem oAny_ok : CallD c (rAny c.K) oAny := by
  intro W σ ρ S H vs ds Q R r h
  unfold oAny at h
  split at h
  · cases r with
    | cons r1 r2 =>
      cases r2
      split at h
      · rename_i d _ bs hb
        obtain ⟨es, he, hb⟩ := Option.bind_eq_some_iff.mp hb
        obtain ⟨p, vs, rfl, hs, hl⟩ := lstD_ok R r1 he
        rw [blsD_ok hl hb] at hs
        exact ⟨p, bs, rfl, hs, h.done R (.bl _)⟩
      · exact h.elim
  · exact h.elim
def oTuple (ds : List D) (S : Sg) : Res D := match ds with
  | [.tup w es] => .ok (.tup w es) S
  | [d] => match lstD S d with
    | some es => .ok (.tup true es) S
    | none => .st
  | _ => .st
theorem oTuple_ok : CallD c (fun xs H Q => ∃ p ys, xs = [.ref p] ∧ ((SqL c.K H p ys ∧ ∀ l, H l = none → Q (.ref l) (upd H l (.tup ys))) ∨ (SqT c.K H p ys ∧ Q (.ref p) H))) oTuple := by
  intro W σ ρ S H vs ds Q R r h
  unfold oTuple at h
  split at h
  · cases r with
    | cons r1 r2 =>
      cases r2
      cases r1 with
      | tup ht hl => exact ⟨_, _, rfl, .inr ⟨ht.2, h.done R (.tup ht hl)⟩⟩
  · cases r with
    | cons r1 r2 =>
      cases r2
      split at h
      · rename_i es he
        obtain ⟨p, vs, rfl, hs, hl⟩ := lstD_ok R r1 he
        exact ⟨p, vs, rfl, .inl ⟨hs, fun l hn => h _ _ _ (Ext.lay hn) (R.lay hn) (.tup .new (hl.ext (Ext.lay hn)))⟩⟩
      · exact h.elim
  · exact h.elim
def tyD (S : Sg) : D → Option String
  | .non => some "NoneType"
  | .bl _ => some "bool"
  | .int _ => some "int"
  | .str _ => some "str"
  | .tup _ _ => some "tuple"
  | .il _ => some "list"
  | .obj k => match S[k]? with
    | some (.lst _) => some "list"
    | some (.dK _) => some "dict"
    | some (.dT _) => some "dict"
    | _ => none
  | _ => none
theorem tyD_ok {ρ : List Addr} {S : Sg} {H : Hp} {v : V} {d : D} {n : String} (R : Rel c ρ S H) (r : RD c ρ H v d) (h : tyD S d = some n) : TyX c.K H v (.type n) := by
  cases r with
  | non => cases h; exact .base .non
  | bl b => cases h; exact .base (.bl _)
  | int b => cases h; exact .base (.int _)
  | str b => cases h; exact .base (.str _)
  | tup ht hl =>
    cases h
    rcases ht.2 with (q | ⟨o, q⟩) | ⟨o, its, n, h1, h2, _⟩
    · exact .base (.tup q)
    · exact .fTuple q
    · exact .kTuple h1 h2
  | il ht hl =>
    cases h
    rcases ht with ⟨q, _⟩ | ⟨o, q⟩ | ⟨o, its, n, h1, h2, _⟩
    · exact .base (.lst q)
    · exact .base (.frz q)
    · exact .kList h1 h2
  | @obj k a hk =>
    dsimp only [tyD] at h
    split at h
    · rename_i ds hS
      cases h
      obtain ⟨a', ha', vs, e, q⟩ := R.at_ k _ hS
      rw [hk] at ha'; cases ha'
      exact .base (.lst e)
    · rename_i ds hS
      cases h
      obtain ⟨a', ha', vs, e, q⟩ := R.at_ k _ hS
      rw [hk] at ha'; cases ha'
      exact .base (.dK e)
    · rename_i ds hS
      cases h
      obtain ⟨a', ha', vs, e, q⟩ := R.at_ k _ hS
      rw [hk] at ha'; cases ha'
      exact .base (.dT e)
    · cases h
  | _ => exact nomatch h
def subTy (a b : String) : Bool := a == b || (a == "bool" && b == "int")
def knownTy : List String := ["NoneType", "bool", "int", "str", "tuple", "list", "dict"]
theorem kit_sub {K : PySem.W.Frag} {a b : String} (ha : a ∈ knownTy) (hb : b ∈ ["bool", "int", "str", "tuple", "list", "dict"]) : PySem.W.kitOne K (.type a) (.type b) = some (subTy a b) := by
  refine kit_ty ?_
  have all : ∀ a ∈ knownTy, ∀ b ∈ ["bool", "int", "str", "tuple", "list", "dict"], kitB a b = some (subTy a b) := by decide +kernel
  exact all a ha b hb
theorem tyD_known {S : Sg} {d : D} {n : String} (h : tyD S d = some n) : n ∈ knownTy := by
  cases d with
  | obj k =>
    dsimp only [tyD] at h
    split at h <;> first | (cases h; decide) | cases h
  | _ => first | (cases h; decide) | cases h
def oIsi (ds : List D) (S : Sg) : Res D := match ds with
  | [d, .ty b] => if b ∈ ["bool", "int", "str", "tuple", "list", "dict"] then match tyD S d with
      | some a => .ok (.bl (subTy a b)) S
      | none => .st
    else .st
  | _ => .st
theorem oIsi_ok : CallD c (rIsi c.K) oIsi := by
  intro W σ ρ S H vs ds Q R r h
  unfold oIsi at h
  split at h
  · cases r with
    | cons r1 r2 =>
      cases r2 with
      | cons r2 r3 =>
        cases r3; cases r2
        split at h
        · rename_i hb
          split at h
          · rename_i a ha
            exact ⟨_, _, _, _, _, rfl, .ty _, tyD_ok R r1 ha, kit_sub (tyD_known ha) hb, h.done R (.bl _)⟩
          · exact h.elim
        · exact h.elim
  · exact h.elim
end
end G
namespace PySem
open Sem (wp)
open AutoSeq1 (wpAny_loadPart')
set_option maxHeartbeats 1000000 in
theorem meets_enumerate_newB1 {v : Value} {o : Obj} {H : Heap → Prop} (B : Begins v o H) :
    Meets (Builtin.«enumerate.__new__» ⟨[.type "enumerate", v], []⟩) (fun _ R s => H s.heap ∧
      R (.ok (.ret (.ref (s.heap.push o).objs.size))) { s with heap := (s.heap.push o).push { cls := .type "enumerate", data := .fields #[.none, .bool false, .ref s.heap.objs.size, rawInt 0, .none, .none] } }) :=
  .of_wp fun prog w A R s h => by
    obtain ⟨hp, g, d, tk, os⟩ := s; obtain ⟨h1, h⟩ := h
    have hsub := sub_enumerate
    have q1 : ∀ {A' : Around} {E : Value → Shared → Prop} {Q : Value → Shared → Prop}, Q (.ref hp.objs.size) ⟨hp.push o, g, d, tk, os⟩ → wpAny (model prog w) A' (pyIter v) Q E ⟨hp, g, d, tk, os⟩ :=
      fun q => B.iter prog w _ _ ⟨hp, g, d, tk, os⟩ _ h1 q
    wp_walk using q1
    refine wpAny_stack_any fun st => wpAny_pure ?_
    split
    · rename_i c _ _ _ _ _
      cases (c == Value.type "enumerate")
      · wp_walk using q1
        exact ⟨_, rfl, h⟩
      · wp_walk using q1
        exact ⟨_, rfl, h⟩
    · wp_walk using q1
      exact ⟨_, rfl, h⟩
section
variable {prog : Program} {w : World} {A : Around} {E : Value → Shared → Prop} {s : Shared}
theorem call_enumB {v : Value} {o : Obj} {H : Heap → Prop} {Q : Value → Shared → Prop} (B : Begins v o H) (h1 : H s.heap)
    (h : ∀ h', IsEnum h' (s.heap.objs.size + 1) s.heap.objs.size 0 .none → h'.get? s.heap.objs.size = some o → h'.objs.size = s.heap.objs.size + 2 →
      (∀ b o, s.heap.get? b = some o → h'.get? b = some o) → Q (.ref (s.heap.objs.size + 1)) { s with heap := h' }) :
    wpAny (model prog w) A (call (.type "enumerate") [v]) Q E s := by
  refine callType_new F.called_enumerate (by decide) (F.typeCall_enumerate_1 _) (F.newCall_enumerate_1 _) (fun obj => F.args_object_init_2 obj _) F.entry_enumerate_new
    (meets_enumerate_newB1 B) ⟨h1, ?_⟩
  have hz : (s.heap.push o).objs.size = s.heap.objs.size + 1 := Heap.size_push ..
  show _ ∧ _
  rw [hz]
  have he : IsEnum ((s.heap.push o).push { cls := .type "enumerate", data := .fields #[.none, .bool false, .ref s.heap.objs.size, rawInt 0, .none, .none] }) (s.heap.objs.size + 1) s.heap.objs.size 0 .none := by
    have := Heap.get?_push_size (s.heap.push o) (o := { cls := .type "enumerate", data := .fields #[.none, .bool false, .ref s.heap.objs.size, rawInt 0, .none, .none] }) rfl
    rw [hz] at this; exact this
  refine ⟨⟨_, he, rfl⟩, h _ he (Heap.get?_push_of_some _ (Heap.get?_push_size _ B.free)) (by rw [Heap.size_push, hz]) fun b o x => Heap.get?_push_of_some _ (Heap.get?_push_of_some _ x)⟩
end
end PySem
namespace L2
open PySem PySem.Spec PyProof.Rows
def IteT (K : PySem.W.Frag) (a : Addr) : It :=
  ⟨fun i H => ∃ (xs : List V) (x : V), SqT K H a xs ∧ xs[i]? = some x, fun i H v H' => ∃ T x, v = .ref T ∧ H T = none ∧ H' = upd H T (.tup [.int (i : Nat), x]) ∧ ∀ xs, SqT K H a xs → xs[i]? = some x, fun i H => ∃ xs : List V, SqT K H a xs ∧ xs.length = i⟩
theorem isTuple_of {h : Heap} {a : Addr} {its : Array Value} (p : IsTup h a its) : h.IsTuple a its := p
theorem turn_enumT {P : Program} {w : World} {K : PySem.W.Frag} {elts : List Expr} {kk : Nat} {tpos : Pos} (a e it : Addr) (hai : a ≠ it) (hae : e ≠ a) :
    Turn P w K (.Tuple elts kk tpos) (IteT K a) [e, it] e (fun i h => (∃ old, IsEnum h e it ((i : Nat) : Int) old) ∧ h.IsTupleIter it a i ∧ e ≠ it) where
  mem := by simp
  obj := fun i h st b hb => by
    obtain ⟨⟨old, he⟩, ⟨o, ho, hc, hd⟩, _⟩ := st
    have e' : b = e ∨ b = it := by simpa using hb
    rcases e' with z | z
    · rw [z]; exact ⟨_, he, fun v q => nomatch q⟩
    · rw [z]; exact ⟨o, ho, fun v q => by rw [hd] at q; cases q⟩
  keep := fun i h h' st k => let ⟨⟨old, he⟩, hi, hne⟩ := st; ⟨⟨old, k e (by simp) _ he⟩, hi.at fun o q => k it (by simp) o q, hne⟩
  item := by
    intro X hP hw hK hc i pins s σ H E I hf st hg
    subst hP hw hK
    obtain ⟨⟨old, he⟩, hit, hne⟩ := st
    obtain ⟨xs, x, hq, hx⟩ := hg
    obtain ⟨its, rv, p, hz⟩ := I.tuple hq
    obtain ⟨u, hu, ru⟩ := rv.get hx
    have hel : e < s.heap.objs.size := Heap.lt_size he
    have hil : it < s.heap.objs.size := by obtain ⟨_, q, _⟩ := hit; exact Heap.lt_size q
    refine wpAny_pyNext_enum_itemD (Draws.tuple (A := X.A.in1) (I.ok.hd hc) it a hai its.toArray) he ⟨hit, isTuple_of p⟩ (by
      have := (List.getElem?_eq_some_iff.mp hu).1
      simpa using this) hne (by simp [hne, hae]) fun x' h' tk hx' ho hst hT hsz hk => ?_
    have hxu : x' = u := by
      have h1 : its.toArray[i]? = some x' := hx'
      simp only [List.getElem?_toArray] at h1
      rw [hu] at h1
      exact (Option.some.inj h1).symm
    subst hxu
    obtain ⟨hit', hpt⟩ := hst
    refine ⟨_, rfl, wpAny_letOwnedTupleGo_enum (s := { s with heap := h', toks := tk + 1 }) ho fun h'' he' sb => ?_⟩
    have hT2 : h''.get? s.heap.objs.size = some { cls := .type "tuple", data := .seq #[.int i tk, x'] } := (sb.2 _ (Nat.ne_of_gt hel)).trans hT
    have new : ObjOk X.prog X.w (upd H s.heap.objs.size (.tup [.int (i : Nat), x])) h'' s.heap.objs.size (.tup [.int (i : Nat), x]) :=
      ⟨by show 2 ≤ sizeLine; decide, [.int i tk, x'], .cons ⟨_, rfl⟩ (.cons ru .nil), ⟨_, hT2, rfl, _, rfl⟩⟩
    have I1 : Inv X pins σ (upd H s.heap.objs.size (.tup [.int (i : Nat), x])) { s with heap := h'', toks := tk + 1 } :=
      I.turnedNew (ch := [e, it]) (fun b ob hb q => (sb.2 b (fun z => hb (by simp [z]))).trans (hk b ob (fun z => hb (by simp [z])) (fun z => hb (by simp [z])) q)) hf (Nat.le_refl _) new
    refine ⟨.ref s.heap.objs.size, _, I1, rfl, ⟨_, x, rfl, I.hok.fresh (Nat.le_refl _), rfl, fun ys hy => by rw [I.tuple_inj hy hq]; exact hx⟩, ⟨⟨x', ?_⟩, hit'.at fun o q => (sb.2 it (Ne.symm hne)).trans q, hne⟩, fun b hb => ?_⟩
    · have e1 : ((i + 1 : Nat) : Int) = (i : Int) + 1 := by omega
      rw [e1]; exact he'
    · have hb' : b < s.heap.objs.size := by
        have e' : b = e ∨ b = it := by simpa using hb
        rcases e' with z | z
        · rw [z]; exact hel
        · rw [z]; exact hil
      rw [upd_ne (Nat.ne_of_lt hb')]
      exact (hf b hb).1
  done := by
    intro X hP hw hK hc i pins s σ H E I hf st hg
    subst hP hw hK
    obtain ⟨⟨old, he⟩, hit, hne⟩ := st
    obtain ⟨xs, hq, hx⟩ := hg
    obtain ⟨its, rv, p, hz⟩ := I.tuple hq
    obtain ⟨f0, f1, f2, f3, f4, f5⟩ := hf it (by simp)
    have hl := rv.length
    have hsz : its.toArray.size = i := by rw [List.size_toArray, ← hl]; exact hx
    exact wpAny_pyNext_enum_endD (Draws.tuple (A := X.A.in1) (I.ok.hd hc) it a hai its.toArray) he ⟨by rw [hsz]; exact hit, isTuple_of p⟩ fun h' eb => ⟨rfl, I.turned (t' := s.toks) (fun b o hb q => eb b o hb q) f0 f1 f3 f4 f5⟩
  self := fun A i s Q E st h => let ⟨⟨_, he⟩, _⟩ := st; wpAny_pyIter_enum he h
def iEnumT (K : PySem.W.Frag) (ta : TA) : TI := fun σ H R => ta σ H fun vs H1 => ∃ a xs, vs = [.ref a] ∧ ((SqL K H1 a xs ∧ R (Ite K a) H1) ∨ (SqT K H1 a xs ∧ R (IteT K a) H1))
theorem pi_enumT {X : Cx} {e : Expr} {ta : TA} {p pos tpos : Pos} {elts : List Expr} {kk : Nat} (hg : Gl X "enumerate") (hm : X.mg "enumerate" = none) (ha : PA X [e] ta) (hs : starEach [e] X.env = [(false, eval e X.env)]) :
    PI X (.Tuple elts kk tpos) (.Call (.Name "enumerate" p) [e] [] pos) (iEnumT X.K ta) := by
  refine ⟨fun pins s σ H R I h => ?_⟩
  refine Call_ (ld_blt I hg hm boot_enumerate (PyProof.Rows.callWith_type1 (thn (ha.run pos pins s σ H _ I h) fun us s1 ⟨vs, H1, I1, r1, q1⟩ => ?_) hs rfl))
  obtain ⟨a, xs, ex, hq⟩ := q1
  subst ex
  cases r1 with
  | cons r rr =>
    cases rr
    cases r
    rcases hq with ⟨hq, q⟩ | ⟨hq, q⟩
    · obtain ⟨its, rv, p', hz⟩ := I1.list hq
      refine call_enumerate_list p'.isList fun h' he hit hsz hk => wpAny_pyIter_enum he ?_
      have I2 : Inv X pins σ H1 { s1 with heap := h' } := I1.kept (t' := s1.toks) hk
      refine ⟨s1.heap.objs.size + 1, [s1.heap.objs.size + 1, s1.heap.objs.size], _, _, H1, rfl, I2, turn_enum a (s1.heap.objs.size + 1) s1.heap.objs.size, ⟨⟨.none, he⟩, hit, Nat.succ_ne_self _⟩, fun b hb => ?_, q⟩
      have e' : b = s1.heap.objs.size + 1 ∨ b = s1.heap.objs.size := by simpa using hb
      have hle : s1.heap.objs.size ≤ b := by
        rcases e' with z | z
        · rw [z]; exact Nat.le_add_right _ _
        · rw [z]; exact Nat.le_refl _
      exact I1.fpOk hle (I1.hok.fresh hle)
    · obtain ⟨its, rv, p', hz⟩ := I1.tuple hq
      have hal : a < s1.heap.objs.size := p'.lt
      refine call_enumB (begins_tuple a its.toArray) (isTuple_of p') fun h' he hit hsz hk => wpAny_pyIter_enum he ?_
      have I2 : Inv X pins σ H1 { s1 with heap := h' } := I1.kept (t' := s1.toks) hk
      refine ⟨s1.heap.objs.size + 1, [s1.heap.objs.size + 1, s1.heap.objs.size], _, _, H1, rfl, I2, turn_enumT a (s1.heap.objs.size + 1) s1.heap.objs.size (Nat.ne_of_lt hal) (Nat.ne_of_gt (Nat.lt_succ_of_lt hal)), ⟨⟨.none, he⟩, ⟨_, hit, rfl, rfl⟩, Nat.succ_ne_self _⟩, fun b hb => ?_, q⟩
      have e' : b = s1.heap.objs.size + 1 ∨ b = s1.heap.objs.size := by simpa using hb
      have hle : s1.heap.objs.size ≤ b := by
        rcases e' with z | z
        · rw [z]; exact Nat.le_add_right _ _
        · rw [z]; exact Nat.le_refl _
      exact I1.fpOk hle (I1.hok.fresh hle)
end L2
namespace G
open PySem PySem.Spec L2
def tyM (S : Sg) : D → Option String
  | .str _ => some "str"
  | .il _ => some "list"
  | .obj k => match S[k]? with
    | some (.lst _) => some "list"
    | some (.dK _) => some "dict"
    | some (.dT _) => some "dict"
    | _ => none
  | _ => none
theorem tyM_ok {c : Cc} {ρ : List Addr} {S : Sg} {H : Hp} {v : V} {d : D} {T : String} (R : Rel c ρ S H) (r : RD c ρ H v d) (h : tyM S d = some T) : tyV c.K T v H := by
  cases r with
  | str z => cases h; exact rfl
  | il ht hl => cases h; exact .inl ⟨rfl, _, ht.sq⟩
  | @obj k a hk =>
    dsimp only [tyM] at h
    split at h
    · rename_i ds hS
      cases h
      obtain ⟨a', ha', vs, e, q⟩ := R.at_ k _ hS
      rw [hk] at ha'; cases ha'
      exact .inl ⟨rfl, _, .inl (.inl e)⟩
    · rename_i ds hS
      cases h
      obtain ⟨a', ha', vs, e, q⟩ := R.at_ k _ hS
      rw [hk] at ha'; cases ha'
      exact .inr (.inr (.inl ⟨rfl, .inl ⟨_, e⟩⟩))
    · rename_i ds hS
      cases h
      obtain ⟨a', ha', vs, e, q⟩ := R.at_ k _ hS
      rw [hk] at ha'; cases ha'
      exact .inr (.inr (.inl ⟨rfl, .inr ⟨_, e⟩⟩))
    · cases h
  | _ => exact nomatch h
def MthD (c : Cc) (r : V → List V → Hp → VK → Prop) (o : D → List D → Sg → Res D) : Prop := ∀ (W : WX) (σ : L2.St) (ρ : List Addr) (S : Sg) (H : Hp) (x : V) (d : D) (vs : List V) (ds : List D) (Q : VK),
  Rel c ρ S H → RD c ρ H x d → RL c ρ H vs ds → Fin c W σ ρ H (relD c) (o d ds S) Q → r x vs H Q
def fMth (T : String) (o : D → List D → Sg → Res D) (fa : FE) (fs : FL) : FE := fun env S => (fa env S).bind fun d S => if tyM S d = some T then (fs env S).bind fun ds S => o d ds S else .st
section
variable {X : Cx} {W : WX} {e a b : Expr} {es : List Expr} {pos apos : Pos} {fa fb : FE} {fs : FL} {c : Cc} {r : V → List V → Hp → VK → Prop} {o : D → List D → Sg → Res D} {T id : String} {name : Str}
theorem de_mth (pa : PlainAttrs T) (slot : Slot T name id) (hty : typeOf (.builtin id) = pure (.type "method_descriptor")) (hm : MtR X id r) (ho : MthD X.cc r o) (ha : DE X W a fa) (hs : DA X W (e :: es) fs)
    (hbase : attributeBase a name X.env (eval a X.env) = eval a X.env)
    (hfew : ((backTo pos (starEach (e :: es) X.env)).all (fun x => !x.1) && (backToKw pos (keywordEach [] X.env)).all (fun x => x.1.isSome)
      && decide ((e :: es).length + ([] : List Keyword).length + (if ([] : List Keyword).isEmpty then 0 else 1) < 30)) = true)
    (hline : (apos.endLine == pos.line) = true) (hse : starEach (e :: es) X.env = (false, eval e X.env) :: starEach es X.env) (hplain : (backTo pos (starEach es X.env)).any (·.1) = false) :
    DE X W (.Call (.Attribute a name apos) (e :: es) [] pos) (fMth T o fa fs) := by
  refine PE.imp (pe_bm pa slot hty hm ha hs hbase hfew hline hse hplain) fun σ H Q ⟨ρ, env, S, E, R, h⟩ => ?_
  refine ⟨ρ, env, S, E, R, Fin.mono h.bind fun x H1 ⟨ρ1, S1, d, e1, R1, r1, h1⟩ => ?_⟩
  split at h1
  · rename_i hT
    refine ⟨tyM_ok R1 r1 hT, ρ1, env, S1, E.ext e1, R1, Fin.mono h1.bind fun y H2 ⟨ρ2, S2, ds, e2, R2, r2, h2⟩ => ?_⟩
    exact ho W σ ρ2 S2 H2 x d y ds Q R2 (r1.ext e2) r2 h2
  · exact h1.elim
theorem lst_at {ρ : List Addr} {S : Sg} {H : Hp} {k : Nat} {a : Addr} {ds : List D} (R : Rel c ρ S H) (hk : ρ[k]? = some a) (h : S[k]? = some (.lst ds)) : ∃ vs, H a = some (.lst vs) ∧ RL c ρ H vs ds := by
  obtain ⟨a', ha', vs, e, q⟩ := R.at_ k _ h
  rw [hk] at ha'; cases ha'
  exact ⟨vs, e, q⟩
theorem setL_ok {ρ : List Addr} {S : Sg} {H : Hp} {σ : L2.St} {k : Nat} {a : Addr} {vs : List V} {ds : List D} {v : V} {d : D} {Q : VK} (R : Rel c ρ S H) (hk : ρ[k]? = some a) (r : RL c ρ H vs ds) (rv : RD c ρ H v d)
    (h : Fin c W σ ρ H (relD c) (.ok d (S.set k (.lst ds))) Q) : Q v (upd H a (.lst vs)) := by
  have e := Ext.set (o := .lst vs) R (List.mem_of_getElem? hk)
  exact h _ _ _ e (R.set hk ⟨vs, upd_same, r.ext e⟩) (rv.ext e)
def oAppend (d : D) (ds : List D) (S : Sg) : Res D := match d, ds with
  | .obj k, [y] => match S[k]? with
    | some (.lst xs) => if xs.length < sizeLine then .ok .non (S.set k (.lst (xs ++ [y]))) else .st
    | _ => .st
  | _, _ => .st
theorem oAppend_ok : MthD c rAppend oAppend := by
  intro W σ ρ S H x d vs ds Q R r1 r2 h
  unfold oAppend at h
  split at h
  · cases r1 with
    | obj hk =>
      cases r2 with
      | cons ry r2 =>
        cases r2
        split at h
        · rename_i xs hS
          split at h
          · rename_i hz
            obtain ⟨vs, e, q⟩ := lst_at R hk hS
            exact ⟨_, vs, _, rfl, rfl, e, by rw [q.len]; exact hz, setL_ok R hk (q.append (.cons ry .nil)) .non h⟩
          · exact h.elim
        · exact h.elim
  · exact h.elim
def oExtend (d : D) (ds : List D) (S : Sg) : Res D := match d, ds with
  | .obj k, [.obj l] => match S[k]?, S[l]? with
    | some (.lst xs), some (.lst ys) => if xs.length + ys.length ≤ sizeLine then .ok .non (S.set k (.lst (xs ++ ys))) else .st
    | _, _ => .st
  | _, _ => .st
theorem oExtend_ok : MthD c rExtend oExtend := by
  intro W σ ρ S H x d vs ds Q R r1 r2 h
  unfold oExtend at h
  split at h
  · cases r1 with
    | obj hk =>
      cases r2 with
      | cons ry r2 =>
        cases r2
        cases ry with
        | obj hl =>
          split at h
          · rename_i xs ys hS hS2
            split at h
            · rename_i hz
              obtain ⟨vs, e, q⟩ := lst_at R hk hS
              obtain ⟨ws, e2, q2⟩ := lst_at R hl hS2
              exact ⟨_, _, vs, ws, rfl, rfl, e, e2, by rw [q.len, q2.len]; exact hz, setL_ok R hk (q.append q2) .non h⟩
            · exact h.elim
          · exact h.elim
  · exact h.elim
def oInsert (d : D) (ds : List D) (S : Sg) : Res D := match d, ds with
  | .obj k, [.int i, y] => match S[k]? with
    | some (.lst xs) => if xs.length < sizeLine ∧ 0 ≤ i ∧ i < 2 ^ 63 then .ok .non (S.set k (.lst (xs.take i.toNat ++ [y] ++ xs.drop i.toNat))) else .st
    | _ => .st
  | _, _ => .st
theorem oInsert_ok : MthD c (fun x vs H Q => ∃ (l : Addr) (xs : List V) (i : Int) (y : V), x = .ref l ∧ vs = [.int i, y] ∧ H l = some (.lst xs) ∧ xs.length < sizeLine ∧ 0 ≤ i ∧ i < 2 ^ 63 ∧
    Q .non (upd H l (.lst (xs.take i.toNat ++ [y] ++ xs.drop i.toNat)))) oInsert := by
  intro W σ ρ S H x d vs ds Q R r1 r2 h
  unfold oInsert at h
  split at h
  · cases r1 with
    | obj hk =>
      cases r2 with
      | cons ri r2 =>
        cases r2 with
        | cons ry r2 =>
          cases r2
          cases ri
          split at h
          · rename_i xs hS
            split at h
            · rename_i hz
              obtain ⟨vs, e, q⟩ := lst_at R hk hS
              exact ⟨_, vs, _, _, rfl, rfl, e, by rw [q.len]; exact hz.1, hz.2.1, hz.2.2, setL_ok R hk (((q.take _).append (.cons ry .nil)).append (q.drop _)) .non h⟩
            · exact h.elim
          · exact h.elim
  · exact h.elim
def oJoin (d : D) (ds : List D) (S : Sg) : Res D := match d, ds with
  | .str a, [y] => match (seqD S y).bind strsD with
    | some ys => if (ys.map (·.length)).sum + ys.length * a.length ≤ 16777216 then .ok (.str (Txt.join a ys)) S else .st
    | none => .st
  | _, _ => .st
theorem oJoin_ok : MthD c (fun x xs H Q => ∃ a p, ∃ ys : List Str, x = .str a ∧ xs = [.ref p] ∧ (SqL c.K H p (ys.map V.str) ∨ SqT c.K H p (ys.map V.str)) ∧
    (ys.map (·.length)).sum + ys.length * a.length ≤ 16777216 ∧ Q (.str (Txt.join a ys)) H) oJoin := by
  intro W σ ρ S H x d vs ds Q R r1 r2 h
  unfold oJoin at h
  split at h
  · cases r1 with
    | str z =>
      cases r2 with
      | cons ry r2 =>
        cases r2
        split at h
        · rename_i ys hy
          split at h
          · rename_i hz
            obtain ⟨es, he, hb⟩ := Option.bind_eq_some_iff.mp hy
            obtain ⟨p, vs, rfl, hs, hl⟩ := seqD_ok R ry he
            rw [strsD_ok hl hb] at hs
            exact ⟨_, p, ys, rfl, rfl, hs, hz, h.done R (.str _)⟩
          · exact h.elim
        · exact h.elim
  · exact h.elim
theorem RL.strs {ρ : List Addr} {H : Hp} {ys : List Str} : RL c ρ H (ys.map V.str) (ys.map D.str) := by
  induction ys with
  | nil => exact .nil
  | cons n ns ih => exact .cons (.str n) ih
def oSplit (d : D) (ds : List D) (S : Sg) : Res D := match d, ds with
  | .str a, [.str b] => if b.length ≠ 0 ∧ a.length + 2 ≤ sizeLine then newL ((Txt.split a b).map D.str) S else .st
  | _, _ => .st
theorem oSplit_ok : MthD c (fun x xs H Q => ∃ a b, x = .str a ∧ xs = [.str b] ∧ (b.length == 0) = false ∧ a.length + 2 ≤ sizeLine ∧ rNewStrs (Txt.split a b) H Q) oSplit := by
  intro W σ ρ S H x d vs ds Q R r1 r2 h
  unfold oSplit at h
  split at h
  · cases r1
    cases r2 with
    | cons ry r2 =>
      cases r2
      cases ry
      split at h
      · rename_i hz
        exact ⟨_, _, rfl, rfl, by simpa using hz.1, hz.2, fun p hp => newL_ok R .strs hp h⟩
      · exact h.elim
  · exact h.elim
end
theorem Res.s_ok {α : Type} (a : α) (S : Sg) (env : Env) (k : α → Sg → SR) : (Res.ok a S).s env k = k a S := rfl
def SR.andThen (r : SR) (k : FS) : SR := match r with
  | .nx env S => k env S
  | r => r
def FinS (c : Cc) (pn : List (Addr × Obj)) (W : WX) (ρ : List Addr) (H : Hp) (r : SR) (D : Ends) : Prop := match r with
  | .nx env S => ∀ ρ' σ' H', Ext ρ H ρ' H' → Rel c ρ' S H' → RelEnv c pn ρ' H' σ' env → D.nx σ' H'
  | .rt d S => ∀ ρ' H' v, Ext ρ H ρ' H' → Rel c ρ' S H' → RD c ρ' H' v d → D.rt v H'
  | .bk env S => ∀ ρ' σ' H', Ext ρ H ρ' H' → Rel c ρ' S H' → RelEnv c pn ρ' H' σ' env → D.bk σ' H'
  | .ct env S => ∀ ρ' σ' H', Ext ρ H ρ' H' → Rel c ρ' S H' → RelEnv c pn ρ' H' σ' env → D.ct σ' H'
  | .er n env S => ∀ ρ' σ' H' C, Ext ρ H ρ' H' → Rel c ρ' S H' → RelEnv c pn ρ' H' σ' env → c.mg n = some (.ref C) → W (.ref C) none σ' H'
  | .st => False
section
variable {c : Cc} {pn : List (Addr × Obj)} {W : WX} {σ : L2.St} {ρ ρ' : List Addr} {S : Sg} {H H' : Hp} {env : Env} {D D' : Ends}
theorem FinS.ext {r : SR} (e : Ext ρ H ρ' H') (h : FinS c pn W ρ H r D) : FinS c pn W ρ' H' r D := by
  cases r with
  | nx env S => exact fun ρ2 σ2 H2 e2 R E => h ρ2 σ2 H2 (e.trans e2) R E
  | rt d S => exact fun ρ2 H2 v e2 R q => h ρ2 H2 v (e.trans e2) R q
  | bk env S => exact fun ρ2 σ2 H2 e2 R E => h ρ2 σ2 H2 (e.trans e2) R E
  | ct env S => exact fun ρ2 σ2 H2 e2 R E => h ρ2 σ2 H2 (e.trans e2) R E
  | er n env S => exact fun ρ2 σ2 H2 C e2 R E => h ρ2 σ2 H2 C (e.trans e2) R E
  | st => exact h
theorem FinS.done (h : FinS c pn W ρ H (.nx env S) D) (R : Rel c ρ S H) (E : RelEnv c pn ρ H σ env) : D.nx σ H := h ρ σ H .refl R E
theorem FinS.bind {α β : Type} {rel : List Addr → Hp → β → α → Prop} {r : Res α} {k : α → Sg → SR} (E : RelEnv c pn ρ H σ env) (h : FinS c pn W ρ H (r.s env k) D) :
    Fin c W σ ρ H rel r fun x H1 => ∃ ρ1 S1 a, Ext ρ H ρ1 H1 ∧ Rel c ρ1 S1 H1 ∧ rel ρ1 H1 x a ∧ FinS c pn W ρ1 H1 (k a S1) D := by
  cases r with
  | ok a S => exact fun ρ1 H1 v e R q => ⟨ρ1, S, a, e, R, q, FinS.ext e h⟩
  | er n S => exact fun ρ1 H1 C e R q => h ρ1 σ H1 C e R (E.ext e) q
  | st => exact h
theorem FinS.mono {r : SR} (h : FinS c pn W ρ H r D) (k1 : ∀ σ H, D.nx σ H → D'.nx σ H) (k2 : ∀ v H, D.rt v H → D'.rt v H) (k3 : ∀ σ H, D.bk σ H → D'.bk σ H) (k4 : ∀ σ H, D.ct σ H → D'.ct σ H) : FinS c pn W ρ H r D' := by
  cases r with
  | nx env S => exact fun ρ2 σ2 H2 e2 R E => k1 _ _ (h ρ2 σ2 H2 e2 R E)
  | rt d S => exact fun ρ2 H2 v e2 R q => k2 _ _ (h ρ2 H2 v e2 R q)
  | bk env S => exact fun ρ2 σ2 H2 e2 R E => k3 _ _ (h ρ2 σ2 H2 e2 R E)
  | ct env S => exact fun ρ2 σ2 H2 e2 R E => k4 _ _ (h ρ2 σ2 H2 e2 R E)
  | er n env S => exact h
  | st => exact h
end
def canS (c : Cc) (pn : List (Addr × Obj)) (W : WX) (g : FS) : TS := fun D σ H => ∃ ρ env S, RelEnv c pn ρ H σ env ∧ Rel c ρ S H ∧ FinS c pn W ρ H (g env S) D
def DS (X : Cx) (W : WX) (st : Stmt) (g : FS) : Prop := PS X st (canS X.cc X.pn W g)
def DSs (X : Cx) (W : WX) (st : List Stmt) (g : FS) : Prop := PSs X st (canS X.cc X.pn W g)
section
variable {X : Cx} {W : WX} {st : Stmt} {sts : List Stmt}
theorem PS.imp {t t' : TS} (h : PS X st t) (k : ∀ D σ H, t' D σ H → t D σ H) : PS X st t' := ⟨fun pins s σ H D I q => h.run pins s σ H D I (k D σ H q)⟩
theorem PSs.imp {t t' : TS} (h : PSs X sts t) (k : ∀ D σ H, t' D σ H → t D σ H) : PSs X sts t' := ⟨fun pins s σ H D I q => h.run pins s σ H D I (k D σ H q)⟩
end
section
variable {X : Cx} {W : WX} {st : Stmt} {rest : List Stmt} {e a b : Expr} {pos pos' : Pos} {fa fb : FE} {fs : FL} {g g2 : FS} {t : FT} {x : Str} {i : Nat}
def sNil : FS := fun env S => .nx env S
def sSeq (g g2 : FS) : FS := fun env S => (g env S).andThen g2
theorem dss_nil : DSs X W [] sNil := PSs.imp pss_nil fun D σ H ⟨ρ, env, S, E, R, h⟩ => h.done R E
theorem dss_cons (h1 : DS X W st g) (h2 : DSs X W rest g2) : DSs X W (st :: rest) (sSeq g g2) := by
  refine PSs.imp (pss_cons h1 h2) fun D σ H ⟨ρ, env, S, E, R, h⟩ => ⟨ρ, env, S, E, R, ?_⟩
  unfold sSeq at h
  cases r : g env S with
  | nx env' S' =>
    rw [r] at h
    exact fun ρ' σ' H' e' R' E' => ⟨ρ', env', S', E', R', FinS.ext e' h⟩
  | _ => rw [r] at h; exact h
def sRet (fa : FE) : FS := fun env S => (fa env S).s env fun d S => .rt d S
theorem ds_ret (h : DE X W e fa) : DS X W (.Return (some e) pos) (sRet fa) := by
  refine PS.imp (ps_ret h) fun D σ H ⟨ρ, env, S, E, R, h⟩ => ⟨ρ, env, S, E, R, Fin.mono (h.bind E) fun x H1 ⟨ρ1, S1, a, e1, R1, r1, h1⟩ => ?_⟩
  exact h1 _ _ _ .refl R1 r1
def sDrop (fa : FE) : FS := fun env S => (fa env S).s env fun _ S => .nx env S
theorem ds_expr (h : DE X W e fa) (hs : swapsWith e none pos.line X.env = pure false) : DS X W (.Expr e pos) (sDrop fa) := by
  refine PS.imp (ps_expr h hs) fun D σ H ⟨ρ, env, S, E, R, h⟩ => ⟨ρ, env, S, E, R, Fin.mono (h.bind E) fun x H1 ⟨ρ1, S1, a, e1, R1, r1, h1⟩ => ?_⟩
  exact h1.done R1 (E.ext e1)
def sIf (t : FT) (g g2 : FS) : FS := fun env S => (t env S).s env fun b S => if b = true then g env S else g2 env S
theorem ds_if {p q : List Stmt} (hc : DT X W e t) (ha : DSs X W p g) (hb : DSs X W q g2) : DS X W (.If e p q pos) (sIf t g g2) := by
  refine PS.imp (ps_if hc ha hb) fun D σ H ⟨ρ, env, S, E, R, h⟩ => ⟨ρ, env, S, E, R, Fin.mono (h.bind E) fun x H1 ⟨ρ1, S1, a, e1, R1, r1, h1⟩ => ?_⟩
  cases r1
  cases x with
  | true =>
    rw [if_pos rfl] at h1 ⊢
    exact ⟨ρ1, env, S1, E.ext e1, R1, h1⟩
  | false =>
    rw [if_neg Bool.false_ne_true] at h1 ⊢
    exact ⟨ρ1, env, S1, E.ext e1, R1, h1⟩
def canG (c : Cc) (pn : List (Addr × Obj)) (f : FG) : TG := fun v σ H Q => ∃ ρ env d env', RelEnv c pn ρ H σ env ∧ RD c ρ H v d ∧ f d env = some env' ∧ ∀ σ', RelEnv c pn ρ H σ' env' → Q σ' H
def DG (X : Cx) (tg : Expr) (f : FG) : Prop := PG X tg (canG X.cc X.pn f)
theorem PG.imp {tg : Expr} {t t' : TG} (h : PG X tg t) (k : ∀ v σ H Q, t' v σ H Q → t v σ H Q) : PG X tg t' := ⟨fun pins s σ H v u Q I r q => h.run pins s σ H v u Q I r (k v σ H Q q)⟩
theorem dg_name (hN : X.N.Nodup) (hi : X.N[i]? = some x) (hx : Loc X.env.scope x) (hf : X.fn x = true ∨ X.env.scope.names.lookup x = some .local) : DG X (.Name x pos) (gNm i) := by
  refine PG.imp (pg_name hN hi hx hf) fun v σ H Q ⟨ρ, env, d, env', E, r, h, k⟩ => ?_
  cases h
  exact k _ (E.set i r)
inductive NmTs (X : Cx) : List Expr → List Nat → Prop
  | nil : NmTs X [] []
  | cons {x : Str} {p : Pos} {i : Nat} {es : List Expr} {is : List Nat} (hi : X.N[i]? = some x) (hx : Loc X.env.scope x) (hf : X.fn x = true ∨ X.env.scope.names.lookup x = some .local) (t : NmTs X es is) : NmTs X (.Name x p :: es) (i :: is)
theorem pgs_names (hN : X.N.Nodup) : ∀ {es : List Expr} {is : List Nat}, NmTs X es is → PGs X es (tNms is)
  | _, _, .nil => pgs_nil
  | _, _, .cons hi hx hf t => pgs_cons (pg_name hN hi hx hf) (pgs_names hN t) rfl
theorem NmTs.plain : ∀ {es : List Expr} {is : List Nat}, NmTs X es is → (assignEach es X.env).length = is.length ∧ (assignEach es X.env).findIdx? (·.1) = none
  | _, _, .nil => ⟨rfl, rfl⟩
  | _, _, .cons (x := x) (p := p) (es := es) hi hx hf t => by
    obtain ⟨h1, h2⟩ := NmTs.plain t
    have e : assignEach (Expr.Name x p :: es) X.env = (false, assign (.Name x p) X.env) :: assignEach es X.env := rfl
    rw [e]
    refine ⟨by simp [h1], ?_⟩
    rw [List.findIdx?_cons]
    simp [h2]
theorem tNms_ok {c : Cc} {pn : List (Addr × Obj)} {ρ : List Addr} {H : Hp} {Q : L2.St → Hp → Prop} : ∀ {is : List Nat} {vs : List V} {ds : List D} {σ : L2.St} {env env' : Env}, RelEnv c pn ρ H σ env → RL c ρ H vs ds → gNms is ds env = some env' →
    (∀ σ', RelEnv c pn ρ H σ' env' → Q σ' H) → tNms is vs σ H Q
  | [], _, _, _, _, _, E, .nil, h, k => by cases h; exact ⟨rfl, k _ E⟩
  | i :: is, _, _, _, _, _, E, .cons h1 h2, h, k => ⟨_, _, rfl, tNms_ok (E.set i h1) h2 h k⟩
  | [], _, _, _, _, _, E, .cons _ _, h, k => nomatch h
  | _ :: _, _, _, _, _, _, E, .nil, h, k => nomatch h
theorem dg_tup {es : List Expr} {is : List Nat} {k : Nat} (hc : X.calm = true) (hN : X.N.Nodup) (h : NmTs X es is) : DG X (.Tuple es k pos) (gTupN is) := by
  obtain ⟨h1, h2⟩ := h.plain
  refine PG.imp (pg_tup (n := is.length) hc (pgs_names hN h) h1 h2) fun v σ H Q ⟨ρ, env, d, env', E, r, h, k⟩ => ?_
  cases r with
  | @tup p vs w ds ht hl =>
    exact ⟨p, vs, rfl, ht.2, by rw [hl.len, gNms_len h], tNms_ok E hl h fun σ' E' => k σ' E'⟩
  | _ => cases h
def sAsg (fa : FE) (f : FG) : FS := fun env S => (fa env S).s env fun d S => match f d env with
  | some env' => .nx env' S
  | none => .st
theorem can_asg {te : TE} {tg : TG} {f : FG} (he : ∀ σ H Q, canE X.cc X.pn W fa σ H Q → te σ H Q) (hg : ∀ v σ H Q, canG X.cc X.pn f v σ H Q → tg v σ H Q) {D : Ends} {σ : L2.St} {H : Hp} (h : canS X.cc X.pn W (sAsg fa f) D σ H) : tAsg te tg D σ H := by
  obtain ⟨ρ, env, S, E, R, h⟩ := h
  refine he _ _ _ ⟨ρ, env, S, E, R, Fin.mono (h.bind E) fun x H1 ⟨ρ1, S1, a, e1, R1, r1, h1⟩ => ?_⟩
  split at h1
  · rename_i env' hf
    exact hg _ _ _ _ ⟨ρ1, env, a, env', E.ext e1, r1, hf, fun σ' E' => h1 ρ1 σ' H1 .refl R1 E'⟩
  · exact h1.elim
theorem ds_set (hN : X.N.Nodup) (hi : X.N[i]? = some x) (hx : Loc X.env.scope x) (he : DE X W e fa) (hs : swapsWith e (some (.Name x pos')) pos.line X.env = pure false) (hf : X.fn x = true ∨ X.env.scope.names.lookup x = some .local) :
    DS X W (.Assign [.Name x pos'] e pos) (sAsg fa (gNm i)) :=
  PS.imp (ps_set hN hi hx he hs hf) fun D σ H h => can_asg (fun _ _ _ q => q) (fun v σ H Q ⟨ρ, env, d, env', E, r, h, k⟩ => by
    cases h
    exact k _ (E.set i r)) h
def sPar (is : List Nat) (fs : FL) : FS := fun env S => (fs env S).s env fun ds S => match gNms is ds env with
  | some env' => .nx env' S
  | none => .st
theorem ds_par {i j : Nat} {x y : Str} {px py pt : Pos} {kt k2 : Nat} {pt2 : Pos} (hc : X.calm = true) (hN : X.N.Nodup) (hi : X.N[i]? = some x) (hj : X.N[j]? = some y) (hij : i ≠ j)
    (hx : X.env.scope.names.lookup x = some .local) (hy : X.env.scope.names.lookup y = some .local) (ha : DA X W [a, b] fs)
    (hw : swappedStores [.Tuple [.Name x px, .Name y py] kt pt] (.Tuple [a, b] k2 pt2) X.env = pure (some [x, y]))
    (hs : swapsWithSole [.Tuple [.Name x px, .Name y py] kt pt] (.Tuple [a, b] k2 pt2) pos.line X.env = pure false) :
    DS X W (.Assign [.Tuple [.Name x px, .Name y py] kt pt] (.Tuple [a, b] k2 pt2) pos) (sPar [i, j] fs) := by
  refine PS.imp (ps_par hc hN hi hj hij hx hy ha hw hs) fun D σ H ⟨ρ, env, S, E, R, h⟩ => ⟨ρ, env, S, E, R, Fin.mono (h.bind E) fun vs H1 ⟨ρ1, S1, ds, e1, R1, r1, h1⟩ => ?_⟩
  split at h1
  · rename_i env' he
    cases r1 with
    | nil => cases he
    | cons q1 r1 =>
      cases r1 with
      | nil => cases he
      | cons q2 r1 =>
        cases r1 with
        | nil =>
          cases he
          exact ⟨_, _, rfl, h1 ρ1 _ H1 .refl R1 (((E.ext e1).set i q1).set j q2)⟩
        | cons _ _ => cases he
  · exact h1.elim
def setIx (o i d : D) (S : Sg) : Option Sg := match o with
  | .obj k => match S[k]? with
    | some (.lst ds) => match i with
      | .int z => (ixN ds.length z).map fun j => S.set k (.lst (ds.set j d))
      | _ => none
    | some (.dK kvs) => if kvs.length < sizeLine then (keyD i).map fun z => S.set k (.dK (putD kvs z d)) else none
    | some (.dT kvs) => match i with
      | .tup true ds => if kvs.length < sizeLine then (keysD ds).map fun z => S.set k (.dT (putD kvs z d)) else none
      | _ => none
    | _ => none
  | _ => none
def rSetG : TSet := fun o i v H Q => rSetL o i v H Q ∨ ∃ a H4, o = .ref a ∧ DPut H a i v H4 ∧ Q H4
theorem set_G (hu : X.A.units + 1 < cLine) : PSet X rSetG := by
  intro pins s σ H o i v ov iv u Q I ro ri rv h
  rcases h with h | ⟨a, H4, rfl, g, q⟩
  · exact set_list pins s σ H o i v ov iv u Q I ro ri rv h
  · cases ro
    exact d_setItem hu I g ri rv fun s3 I3 => ⟨H4, I3, q⟩
theorem setIx_ok {c : Cc} {ρ : List Addr} {S S' : Sg} {H : Hp} {o i v : V} {dO dI d : D} {Q : Hp → Prop} (R : Rel c ρ S H) (ro : RD c ρ H o dO) (ri : RD c ρ H i dI) (rv : RD c ρ H v d) (h : setIx dO dI d S = some S')
    (k : ∀ H', Ext ρ H ρ H' → Rel c ρ S' H' → Q H') : rSetG o i v H Q := by
  cases ro with
  | @obj kk a hk =>
    dsimp only [setIx] at h
    split at h
    · rename_i ds hS
      cases ri with
      | int z =>
        dsimp only at h
        obtain ⟨j, hj, h⟩ := Option.map_eq_some_iff.mp h
        subst h
        obtain ⟨vs, e, q⟩ := lst_at R hk hS
        have ee := Ext.set (o := .lst (vs.set j v)) R (List.mem_of_getElem? hk)
        exact .inl ⟨_, vs, z, j, rfl, rfl, e, by rw [q.len]; exact hj, k _ ee (R.set hk ⟨_, upd_same, (RL.set rv j q).ext ee⟩)⟩
      | _ => cases h
    · rename_i kvs hS
      split at h
      · rename_i hz
        obtain ⟨z, hz2, h⟩ := Option.map_eq_some_iff.mp h
        subst h
        obtain ⟨a', ha', vs, e, q⟩ := R.at_ kk _ hS
        rw [hk] at ha'; cases ha'
        have hi := keyD_ok ri hz2
        subst hi
        have ee := Ext.set (o := .dK (putK vs z v)) R (List.mem_of_getElem? hk)
        exact .inr ⟨_, _, rfl, DPut.k e (by rw [q.len]; exact hz), k _ ee (R.set hk ⟨_, upd_same, (q.put z rv).ext ee⟩)⟩
      · cases h
    · rename_i kvs hS
      split at h
      · rename_i ds
        split at h
        · rename_i hz
          obtain ⟨z, hz2, h⟩ := Option.map_eq_some_iff.mp h
          subst h
          obtain ⟨a', ha', vs, e, q⟩ := R.at_ kk _ hS
          rw [hk] at ha'; cases ha'
          cases ri with
          | tup ht hl =>
            have hi := keysD_ok hl hz2
            subst hi
            have ee := Ext.set (o := .dT (putK vs z v)) R (List.mem_of_getElem? hk)
            exact .inr ⟨_, _, rfl, DPut.t e (ht.1 rfl) (by rw [q.len]; exact hz), k _ ee (R.set hk ⟨_, upd_same, (q.put z rv).ext ee⟩)⟩
        · cases h
      · cases h
    · cases h
  | _ => cases h
def sSetIx (fo fi fv : FE) : FS := fun env S => (fv env S).s env fun d S => (fo env S).s env fun o S => (fi env S).s env fun i S => match setIx o i d S with
  | some S' => .nx env S'
  | none => .st
theorem ds_setIx {o i : Expr} {fo fi fv : FE} (hu : X.A.units + 1 < cLine) (ho : DE X W o fo) (hi : DE X W i fi) (hv : DE X W e fv) (hs : swapsWithSole [.Subscript o i pos'] e pos.line X.env = pure false)
    (hw : swappedStores [.Subscript o i pos'] e X.env = pure none)
    (ha : ∀ v, assign (.Subscript o i pos') X.env v = (do
      let ov ← holding [v] (eval o X.env)
      let iv ← holding [v, ov] (eval i X.env)
      standAt pos'
      holding [v, ov, iv] (setItem ov iv v)
      release [v, ov, iv] [])) : DS X W (.Assign [.Subscript o i pos'] e pos) (sSetIx fo fi fv) := by
  refine PS.imp (ps_asg hv (pg_sub ho hi (set_G hu) ha) hs hw rfl) fun D σ H ⟨ρ, env, S, E, R, h⟩ => ⟨ρ, env, S, E, R, Fin.mono (h.bind E) fun x H1 ⟨ρ1, S1, d, e1, R1, r1, h1⟩ => ?_⟩
  have E1 := E.ext e1
  refine ⟨ρ1, env, S1, E1, R1, Fin.mono (h1.bind E1) fun y H2 ⟨ρ2, S2, o', e2, R2, r2, h2⟩ => ?_⟩
  have E2 := E1.ext e2
  refine ⟨ρ2, env, S2, E2, R2, Fin.mono (h2.bind E2) fun z H3 ⟨ρ3, S3, i', e3, R3, r3, h3⟩ => ?_⟩
  split at h3
  · rename_i S' hS
    exact setIx_ok R3 (r2.ext e3) r3 ((r1.ext e2).ext e3) hS fun H' ee R' => h3 ρ3 _ H' ee R' ((E2.ext e3).ext ee)
  · exact h3.elim
def sAug (i : Nat) (o : D → D → Sg → Res D) (fa : FE) : FS := fun env S => match env[i]? with
  | some (some (.v x)) => (fa env S).s env fun y S => (o x y S).s env fun z S => .nx (env.set i (some (.v z))) S
  | _ => .st
theorem ds_aug {op : Operator} {r : R2} {o : D → D → Sg → Res D} (hN : X.N.Nodup) (hi : X.N[i]? = some x) (hx : Loc X.env.scope x) (he : DE X W e fa) (hr : PIp X op r) (ho : OpD X.cc r o) (hf : X.fn x = true ∨ X.env.scope.names.lookup x = some .local) :
    DS X W (.AugAssign (.Name x pos') op e pos) (sAug i o fa) := by
  refine PS.imp (ps_aug hN hi hx he hr hf) fun D σ H ⟨ρ, env, S, E, R, h⟩ => ?_
  unfold sAug at h
  split at h
  · rename_i d hd
    obtain ⟨v, hv, rv⟩ := E.v i d hd
    refine ⟨v, hv, ρ, env, S, E, R, Fin.mono (h.bind E) fun y H1 ⟨ρ1, S1, a, e1, R1, r1, h1⟩ => ?_⟩
    refine ho W σ ρ1 S1 H1 v y d a _ R1 (rv.ext e1) r1 (Fin.mono (FinS.bind (E.ext e1) h1) fun z H2 ⟨ρ2, S2, d2, e2, R2, r2, h2⟩ => ?_)
    exact h2 ρ2 _ H2 .refl R2 (((E.ext e1).ext e2).set i r2)
  · exact h.elim
def rIAddG : R2 := fun x y H Q => rI0 (fun i j => .int (i + j)) x y H Q ∨ (∃ i j, x = .str i ∧ y = .str j ∧ i.length + j.length ≤ sizeLine ∧ Q (.str (i ++ j)) H)
theorem iop_addG : PIp X .Add rIAddG := fun pins s σ H x y v u Q I rx ry h => OpR.or iop_add iop_add_str pins s σ H x y v u Q I rx ry h
def dIAdd (a b : D) (S : Sg) : Res D := match a, b with
  | .int i, .int j => .ok (.int (i + j)) S
  | .str x, .str y => if x.length + y.length ≤ sizeLine then .ok (.str (x ++ y)) S else .st
  | _, _ => .st
theorem dIAdd_ok {c : Cc} : OpD c rIAddG dIAdd := by
  intro W σ ρ S H x y a b Q R r1 r2 q
  unfold dIAdd at q
  split at q
  · cases r1; cases r2
    exact .inl ⟨_, _, rfl, rfl, q.done R (.int _)⟩
  · cases r1; cases r2
    split at q
    · rename_i hz
      exact .inr ⟨_, _, rfl, rfl, hz, q.done R (.str _)⟩
    · exact q.elim
  · exact q.elim
end
structure ExcK (K : PySem.W.Frag) (mg : Str → Option Value) (x : Str) : Prop where
  ex : ∃ C, mg x = some (.ref C) ∧ PySem.W.excIn K C [.type "ValueError", .type "Exception", .type "BaseException", .type "object"] "ValueError.__new__" = true ∧ PySem.W.keepIn K (.ref C) = true ∧ PySem.W.subIn K (.ref C) (.type "BaseException") = some true ∧ PySem.W.typeIn K (.ref C) = some (.type "type")
def sRaise (x : Str) : FS := fun env S => .er x env S
section
variable {X : Cx} {W : WX} {x m : Str} {pos p p2 pos' : Pos} {j : Nat}
theorem ds_raise (hc : X.calm = true) (tk : Takes X W) (hx : ExcK X.K X.mg x) (hg : Gl X x) (hdb : (x == ("__debug__" : Str)) = false) :
    DS X W (.Raise (some (.Call (.Name x p) [.Constant (.str m) j p2] [] pos')) none pos) (sRaise x) := by
  obtain ⟨C, h1, h2, h3, h4, h5⟩ := hx.ex
  refine PS.imp (ps_raise hc tk (pmk_own PySem.F.excBase_ValueError h2 h1 h3 (raises_own h4 h5) hg hdb)) fun D σ H ⟨ρ, env, S, E, R, h⟩ => ?_
  exact h ρ σ H C .refl R E h1
end
def sLoop (t : FT) (g : FS) : Nat → FS
  | 0 => fun _ _ => .st
  | n + 1 => fun env S => (t env S).s env fun b S => if b = true then match g env S with
      | .nx env S => sLoop t g n env S
      | .ct env S => sLoop t g n env S
      | .bk env S => .nx env S
      | r => r
    else .nx env S
def mostTurns : Nat := 100000
def sWhile (t : FT) (g : FS) : FS := sLoop t g mostTurns
section
variable {X : Cx} {W : WX} {e : Expr} {body : List Stmt} {pos : Pos} {t : FT} {g : FS}
theorem ds_while (hp : PassesOwn (model X.prog X.w) X.A X.env X.xe) (hc : DT X W e t) (hb : DSs X W body g) : DS X W (.While e body [] pos) (sWhile t g) := by
  refine PS.imp (ps_while hp hc hb) fun D σ H ⟨ρ, env, S, E, R, h⟩ => ?_
  refine ⟨fun m σ H => ∃ ρ env S, RelEnv X.cc X.pn ρ H σ env ∧ Rel X.cc ρ S H ∧ FinS X.cc X.pn W ρ H (sLoop t g m env S) D, ⟨mostTurns, ρ, env, S, E, R, h⟩, ?_⟩
  rintro m σ H ⟨ρ, env, S, E, R, h⟩
  cases m with
  | zero => exact h.elim
  | succ m =>
    refine ⟨ρ, env, S, E, R, Fin.mono (FinS.bind E h) fun b H1 ⟨ρ1, S1, b', e1, R1, r1, h1⟩ => ?_⟩
    cases r1
    cases b with
    | false =>
      rw [if_neg Bool.false_ne_true] at h1 ⊢
      exact h1.done R1 (E.ext e1)
    | true =>
      rw [if_pos rfl] at h1 ⊢
      refine ⟨fun σ H => ∃ ρ env S, RelEnv X.cc X.pn ρ H σ env ∧ Rel X.cc ρ S H ∧ FinS X.cc X.pn W ρ H (sLoop t g m env S) D, fun σ' H' q => ⟨m, Nat.lt_succ_self m, q⟩, ρ1, env, S1, E.ext e1, R1, ?_⟩
      cases r : g env S1 with
      | nx env' S' => rw [r] at h1; exact fun ρ' σ' H' e' R' E' => ⟨ρ', env', S', E', R', FinS.ext e' h1⟩
      | ct env' S' => rw [r] at h1; exact fun ρ' σ' H' e' R' E' => ⟨ρ', env', S', E', R', FinS.ext e' h1⟩
      | bk env' S' => rw [r] at h1; exact h1
      | rt d S' => rw [r] at h1; exact h1
      | er n env' S' => rw [r] at h1; exact h1
      | st => rw [r] at h1; exact h1
end
def IsItems (c : Cc) (ρ : List Addr) (H : Hp) (J : It) (I : Items) : Prop :=
  ∀ ρ' S' H' (i : Nat), Ext ρ H ρ' H' → Rel c ρ' S' H' → I.ok S' →
    (i = I.ds.length → J.stop i H') ∧ (∀ d, I.ds[i]? = some d → J.go i H' ∧ ∀ x H2, J.yld i H' x H2 → Ext ρ' H' ρ' H2 ∧ Rel c ρ' S' H2 ∧ RD c ρ' H2 x d)
def canI (c : Cc) (pn : List (Addr × Obj)) (W : WX) (f : FI) : TI := fun σ H R => ∃ ρ env S, RelEnv c pn ρ H σ env ∧ Rel c ρ S H ∧ Fin c W σ ρ H (fun ρ H J I => IsItems c ρ H J I) (f env S) R
def DI (X : Cx) (W : WX) (tg it : Expr) (f : FI) : Prop := PI X tg it (canI X.cc X.pn W f)
theorem PI.imp {X : Cx} {tg it : Expr} {t t' : TI} (h : PI X tg it t) (k : ∀ σ H R, t' σ H R → t σ H R) : PI X tg it t' := ⟨fun pins s σ H R I q => h.run pins s σ H R I (k σ H R q)⟩
def still (d : D) (ds : List D) : Sg → Prop := match d with
  | .obj k => fun S => S[k]? = some (.lst ds)
  | _ => fun _ => True
def iSeq (d : D) (S : Sg) : Res Items := match d with
  | .tup _ ds => .ok ⟨ds, fun _ => True⟩ S
  | .str z => .ok ⟨z.cps.toList.map fun n => .str ⟨#[n]⟩, fun _ => True⟩ S
  | d => match lstD S d with
    | some ds => .ok ⟨ds, still d ds⟩ S
    | none => .st
def fSeq (fa : FE) : FI := fun env S => (fa env S).bind iSeq
section
variable {X : Cx} {W : WX} {e tg : Expr} {es : List Expr} {pos p : Pos} {fa : FE} {fs : FL}
theorem lst_still {S S' : Sg} {d : D} {ds : List D} (h : lstD S d = some ds) (ok : still d ds S') : lstD S' d = some ds := by
  cases d with
  | il es => exact h
  | obj k =>
    have : S'[k]? = some (.lst ds) := ok
    simp only [lstD, this]
  | _ => cases h
theorem items_list {c : Cc} {ρ : List Addr} {S : Sg} {H : Hp} {p : Addr} {vs : List V} {d : D} {ds : List D} (R : Rel c ρ S H) (r : RD c ρ H (.ref p) d) (h : lstD S d = some ds) : IsItems c ρ H (Itl c.K p) ⟨ds, still d ds⟩ := by
  intro ρ' S' H' i e R' ok
  have hd := lst_still h ok
  obtain ⟨q, ws, eq, hs, hl⟩ := lstD_ok R' (r.ext e) hd
  cases eq
  refine ⟨fun hi => ⟨ws, hs, by rw [hl.len, hi]; exact Nat.le_refl _⟩, fun x hx => ?_⟩
  obtain ⟨v, hv, rv⟩ := hl.get hx
  refine ⟨⟨ws, v, hs, hv⟩, fun y H2 hy => ?_⟩
  obtain ⟨rfl, hy⟩ := hy
  have := hy ws hs
  rw [hv] at this
  cases this
  exact ⟨.refl, R', rv⟩
theorem items_tup {c : Cc} {ρ : List Addr} {H : Hp} {p : Addr} {vs : List V} {w : Bool} {ds : List D} (ht : TupAt c.K H p vs w) (hl : RL c ρ H vs ds) : IsItems c ρ H (Itt c.K p) ⟨ds, fun _ => True⟩ := by
  intro ρ' S' H' i e R' ok
  have hs := e.sqT ht.2
  have hl' := hl.ext e
  refine ⟨fun hi => ⟨vs, hs, by rw [hl.len, hi]; exact Nat.le_refl _⟩, fun x hx => ?_⟩
  obtain ⟨v, hv, rv⟩ := hl'.get hx
  refine ⟨⟨vs, v, hs, hv⟩, fun y H2 hy => ?_⟩
  obtain ⟨rfl, hy⟩ := hy
  have := hy vs hs
  rw [hv] at this
  cases this
  exact ⟨.refl, R', rv⟩
theorem items_str {c : Cc} {ρ : List Addr} {H : Hp} {z : Str} : IsItems c ρ H (Its z) ⟨z.cps.toList.map fun n => .str ⟨#[n]⟩, fun _ => True⟩ := by
  intro ρ' S' H' i e R' ok
  refine ⟨fun hi => ?_, fun x hx => ?_⟩
  · have : i = z.cps.size := by simpa using hi
    exact Nat.le_of_eq this.symm
  · have hx' : (z.cps.toList.map fun n => D.str ⟨#[n]⟩)[i]? = some x := hx
    rw [List.getElem?_map] at hx'
    obtain ⟨n, hn, rfl⟩ := Option.map_eq_some_iff.mp hx'
    have hn' : z.cps[i]? = some n := by simpa using hn
    have hi : i < z.cps.size := (Array.getElem?_eq_some_iff.mp hn').1
    refine ⟨hi, fun y H2 hy => ?_⟩
    obtain ⟨rfl, m, hm, rfl⟩ := hy
    rw [hn'] at hm
    cases hm
    exact ⟨.refl, R', .str _⟩
def iSeqR (K : PySem.W.Frag) (te : TE) : TI := fun σ H R => te σ H fun x H1 => (∃ a xs, x = .ref a ∧ SqL K H1 a xs ∧ R (Itl K a) H1) ∨ (∃ a xs, x = .ref a ∧ SqT K H1 a xs ∧ R (Itt K a) H1) ∨ ∃ z, x = .str z ∧ R (Its z) H1
theorem pi_seq {te : TE} (he : PE X e te) : PI X tg e (iSeqR X.K te) := by
  refine ⟨fun pins s σ H R I h => ?_⟩
  refine thn (he.run pins s σ H _ I h) fun v s1 ⟨x, H1, I1, r1, q1⟩ => ?_
  rcases q1 with ⟨a, xs, rfl, hq, q⟩ | ⟨a, xs, rfl, hq, q⟩ | ⟨z, rfl, q⟩
  · cases r1
    obtain ⟨its, rv, p, hz⟩ := I1.list hq
    refine wpAny_pyIter_list p.isList ?_
    refine ⟨s1.heap.objs.size, [s1.heap.objs.size], _, _, H1, rfl, I1.kept (t' := s1.toks) fun b o e => Heap.get?_push_of_some _ e, turn_list a _, ⟨_, Heap.get?_push_size _ rfl, rfl, rfl⟩, fun b hb => ?_, q⟩
    have e : b = s1.heap.objs.size := by simpa using hb
    subst e
    exact I1.fpOk (Nat.le_refl _) (I1.hok.fresh (Nat.le_refl _))
  · cases r1
    obtain ⟨its, rv, p, hz⟩ := I1.tuple hq
    refine wpAny_pyIter_tuple (show s1.heap.IsTuple a its.toArray from p) ?_
    refine ⟨s1.heap.objs.size, [s1.heap.objs.size], _, _, H1, rfl, I1.kept (t' := s1.toks) fun b o e => Heap.get?_push_of_some _ e, turn_tuple a _, ⟨_, Heap.get?_push_size _ rfl, rfl, rfl⟩, fun b hb => ?_, q⟩
    have e : b = s1.heap.objs.size := by simpa using hb
    subst e
    exact I1.fpOk (Nat.le_refl _) (I1.hok.fresh (Nat.le_refl _))
  · obtain ⟨t, rfl⟩ := r1
    cases ha : z.cps.all (· < 128)
    · exact wpAny_pyIter_wide ha (pi_one (tk := s1.toks) I1 _ (turn_str _ z t "str_iterator" (.inr rfl)) ⟨_, Heap.get?_push_size _ rfl, rfl, rfl⟩ q)
    · exact wpAny_pyIter_ascii ha (pi_one (tk := s1.toks) I1 _ (turn_str _ z t "str_ascii_iterator" (.inl rfl)) ⟨_, Heap.get?_push_size _ rfl, rfl, rfl⟩ q)
theorem di_seq (he : DE X W e fa) : DI X W tg e (fSeq fa) := by
  refine PI.imp (pi_seq he) fun σ H Rr ⟨ρ, env, S, E, R, h⟩ => ?_
  refine ⟨ρ, env, S, E, R, Fin.mono h.bind fun x H1 ⟨ρ1, S1, d, e1, R1, r1, h1⟩ => ?_⟩
  have lst : ∀ ds, lstD S1 d = some ds → Fin X.cc W σ ρ1 H1 (fun ρ H J I => IsItems X.cc ρ H J I) (.ok ⟨ds, still d ds⟩ S1) Rr → ∃ a xs, x = .ref a ∧ SqL X.K H1 a xs ∧ Rr (Itl X.K a) H1 := fun ds hds h => by
    obtain ⟨p, vs, rfl, hs, hl⟩ := lstD_ok R1 r1 hds
    exact ⟨p, vs, rfl, hs, h.done R1 (items_list (vs := vs) R1 r1 hds)⟩
  cases r1 with
  | tup ht hl => exact .inr (.inl ⟨_, _, rfl, ht.2, h1.done R1 (items_tup ht hl)⟩)
  | str z => exact .inr (.inr ⟨_, rfl, h1.done R1 items_str⟩)
  | _ =>
    dsimp only [iSeq] at h1
    split at h1
    · rename_i ds hds
      exact .inl (lst ds hds h1)
    · exact h1.elim
def rangeD (lo st : Int) (n : Nat) : List D := (List.range n).map fun i => .int (lo + (i : Nat) * st)
def iRange1 (ds : List D) (S : Sg) : Res Items := match ds with
  | [.int j] => if -(2 ^ 62) ≤ j ∧ j < 2 ^ 62 then .ok ⟨rangeD 0 1 j.toNat, fun _ => True⟩ S else .st
  | _ => .st
def fIt (o : List D → Sg → Res Items) (fs : FL) : FI := fun env S => (fs env S).bind o
theorem items_range {c : Cc} {ρ : List Addr} {H : Hp} {lo : Int} {n : Nat} : IsItems c ρ H (Itr lo n) ⟨rangeD lo 1 n, fun _ => True⟩ := by
  intro ρ' S' H' i e R' ok
  refine ⟨fun hi => ?_, fun x hx => ?_⟩
  · have : i = n := by simpa [rangeD] using hi
    exact Nat.le_of_eq this.symm
  · have hx' : ((List.range n).map fun i => D.int (lo + (i : Nat) * 1))[i]? = some x := hx
    rw [List.getElem?_map] at hx'
    obtain ⟨m, hm, rfl⟩ := Option.map_eq_some_iff.mp hx'
    obtain ⟨h1, h2⟩ := List.getElem?_eq_some_iff.mp hm
    have him : m = i := by simpa using h2.symm
    subst him
    have hmn : m < n := by simpa using h1
    refine ⟨hmn, fun y H2 hy => ?_⟩
    obtain ⟨rfl, rfl⟩ := hy
    refine ⟨.refl, R', ?_⟩
    have e : lo + (m : Int) = lo + (m : Nat) * 1 := by omega
    rw [e]
    exact .int _
theorem di_range1 {a : Expr} (hg : Gl X "range") (hm : X.mg "range" = none) (ha : DA X W [a] fs) (hs : starEach [a] X.env = [(false, eval a X.env)]) : DI X W tg (.Call (.Name "range" p) [a] [] pos) (fIt iRange1 fs) := by
  refine PI.imp (pi_range1 hg hm ha hs) fun σ H Rr ⟨ρ, env, S, E, R, h⟩ => ⟨ρ, env, S, E, R, Fin.mono h.bind fun x H1 ⟨ρ1, S1, ds, e1, R1, r1, h1⟩ => ?_⟩
  unfold iRange1 at h1
  split at h1
  · cases r1 with
    | cons q r1 =>
      cases r1; cases q
      split at h1
      · rename_i hz
        exact ⟨_, rfl, hz.1, hz.2, h1.done R1 items_range⟩
      · exact h1.elim
  · exact h1.elim
def enumD (ds : List D) : List D := (List.range ds.length).map fun i => .tup true [.int (i : Nat), ds.getD i .non]
def iEnumD (ds : List D) (S : Sg) : Res Items := match ds with
  | [.tup _ es] => .ok ⟨enumD es, fun _ => True⟩ S
  | [d] => match lstD S d with
    | some es => .ok ⟨enumD es, still d es⟩ S
    | none => .st
  | _ => .st
theorem items_enum {c : Cc} {ρ : List Addr} {H : Hp} {J : It} {sq : Hp → List V → Prop} {es : List D} {ok : Sg → Prop}
    (hsq : ∀ ρ' S' H', Ext ρ H ρ' H' → Rel c ρ' S' H' → ok S' → ∃ ws, sq H' ws ∧ RL c ρ' H' ws es)
    (hst : ∀ i H' ws, sq H' ws → ws.length = i → J.stop i H') (hgo : ∀ (i : Nat) H' ws x, sq H' ws → ws[i]? = some x → J.go i H')
    (hy : ∀ i H' v H2, J.yld i H' v H2 → ∃ T x, v = .ref T ∧ H' T = none ∧ H2 = upd H' T (.tup [.int (i : Nat), x]) ∧ ∀ ws, sq H' ws → ws[i]? = some x) : IsItems c ρ H J ⟨enumD es, ok⟩ := by
  intro ρ' S' H' i e R' hok
  obtain ⟨ws, hs, hl⟩ := hsq ρ' S' H' e R' hok
  refine ⟨fun hi => hst i H' ws hs ?_, fun x hx => ?_⟩
  · have hi' : i = (enumD es).length := hi
    rw [hl.len, hi']
    simp [enumD]
  · have hx' : ((List.range es.length).map fun i => D.tup true [.int (i : Nat), es.getD i .non])[i]? = some x := hx
    rw [List.getElem?_map] at hx'
    obtain ⟨m, hm, rfl⟩ := Option.map_eq_some_iff.mp hx'
    obtain ⟨h1, h2⟩ := List.getElem?_eq_some_iff.mp hm
    have him : m = i := by simpa using h2.symm
    subst him
    have hmn : m < es.length := by simpa using h1
    have hde : es[m]? = some (es.getD m .non) := by simp [List.getD, hmn]
    obtain ⟨v, hv, rv⟩ := hl.get hde
    refine ⟨hgo m H' ws v hs hv, fun y H2 hyl => ?_⟩
    obtain ⟨T, x, rfl, hT, rfl, hxx⟩ := hy m H' y H2 hyl
    have := hxx ws hs
    rw [hv] at this
    cases this
    exact ⟨Ext.lay hT, R'.lay hT, .tup .new (.cons (.int _) (.cons (rv.ext (Ext.lay hT)) .nil))⟩
theorem di_enum {a : Expr} {elts : List Expr} {kk : Nat} {tpos : Pos} (hg : Gl X "enumerate") (hm : X.mg "enumerate" = none) (ha : DA X W [a] fs) (hs : starEach [a] X.env = [(false, eval a X.env)]) :
    DI X W (.Tuple elts kk tpos) (.Call (.Name "enumerate" p) [a] [] pos) (fIt iEnumD fs) := by
  refine PI.imp (pi_enumT hg hm ha hs) fun σ H Rr ⟨ρ, env, S, E, R, h⟩ => ⟨ρ, env, S, E, R, Fin.mono h.bind fun x H1 ⟨ρ1, S1, ds, e1, R1, r1, h1⟩ => ?_⟩
  unfold iEnumD at h1
  split at h1
  · cases r1 with
    | cons q r1 =>
      cases r1
      cases q with
      | @tup p vs w es ht hl =>
        refine ⟨p, vs, rfl, .inr ⟨ht.2, h1.done R1 (items_enum (sq := fun H ws => SqT X.K H p ws) (fun ρ' S' H' e R' _ => ⟨vs, e.sqT ht.2, hl.ext e⟩) (fun i H' ws h1 h2 => ⟨ws, h1, h2⟩) (fun i H' ws x h1 h2 => ⟨ws, x, h1, h2⟩) fun i H' v H2 hy => hy)⟩⟩
  · cases r1 with
    | cons rq r1 =>
      cases r1
      split at h1
      · rename_i es hes
        obtain ⟨p, vs, rfl, hsq, hl⟩ := lstD_ok R1 rq hes
        refine ⟨p, vs, rfl, .inl ⟨hsq, h1.done R1 (items_enum (sq := fun H ws => SqL X.K H p ws) (fun ρ' S' H' e R' ok => ?_) (fun i H' ws h1 h2 => ⟨ws, h1, Nat.le_of_eq h2⟩) (fun i H' ws x h1 h2 => ⟨ws, x, h1, h2⟩) fun i H' v H2 hy => hy)⟩⟩
        have hd := lst_still hes ok
        obtain ⟨q, ws, eq, hs2, hl2⟩ := lstD_ok R' (rq.ext e) hd
        cases eq
        exact ⟨ws, hs2, hl2⟩
      · exact h1.elim
  · exact h1.elim
open Classical in
noncomputable def forL (ok : Sg → Prop) (f : FG) (g : FS) : List D → FS
  | [] => fun env S => if ok S then .nx env S else .st
  | d :: ds => fun env S => if ok S then match f d env with
      | some env1 => match g env1 S with
        | .nx env2 S2 => forL ok f g ds env2 S2
        | .ct env2 S2 => forL ok f g ds env2 S2
        | .bk env2 S2 => .nx env2 S2
        | r => r
      | none => .st
    else .st
noncomputable def sFor (fi : FI) (f : FG) (g : FS) : FS := fun env S => (fi env S).s env fun I S => forL I.ok f g I.ds env S
theorem ds_for {iter : Expr} {body : List Stmt} {fi : FI} {f : FG} {g : FS} (hp : PassesOwn (model X.prog X.w) X.A X.env X.xe) (hc : X.calm = true) (hi : DI X W tg iter fi) (hg : DG X tg f) (hb : DSs X W body g)
    (hs : ∀ x, foldedSetIterable iter X.env x = pure x) : DS X W (.For tg iter body [] pos) (sFor fi f g) := by
  refine PS.imp (ps_for hp hc hi hg hb hs) fun D σ H ⟨ρ, env, S, E, R, h⟩ => ?_
  refine ⟨ρ, env, S, E, R, Fin.mono (FinS.bind E h) fun J H1 ⟨ρ1, S1, I, e1, R1, hI, h1⟩ => ?_⟩
  have hI' : IsItems X.cc ρ1 H1 J I := hI
  refine ⟨fun i m σ H => m = I.ds.length - i ∧ i ≤ I.ds.length ∧ ∃ ρ env S, Ext ρ1 H1 ρ H ∧ RelEnv X.cc X.pn ρ H σ env ∧ Rel X.cc ρ S H ∧ FinS X.cc X.pn W ρ H (forL I.ok f g (I.ds.drop i) env S) D, ⟨I.ds.length, by simp, Nat.zero_le _, ρ1, env, S1, .refl, E.ext e1, R1, h1⟩, ?_⟩
  rintro i m σ H ⟨rfl, hi, ρ, env, S, e, E, R, h⟩
  by_cases hlt : i < I.ds.length
  · have hdr : I.ds.drop i = I.ds[i] :: I.ds.drop (i + 1) := List.drop_eq_getElem_cons hlt
    rw [hdr] at h
    unfold forL at h
    by_cases hok : I.ok S
    · rw [if_pos hok] at h
      obtain ⟨_, hy⟩ := hI' ρ S H i e R hok
      obtain ⟨hgo, hyl⟩ := hy I.ds[i] (by simp [hlt])
      refine .inr ⟨hgo, fun σ H => ∃ ρ env S, Ext ρ1 H1 ρ H ∧ RelEnv X.cc X.pn ρ H σ env ∧ Rel X.cc ρ S H ∧ FinS X.cc X.pn W ρ H (forL I.ok f g (I.ds.drop (i + 1)) env S) D, fun σ' H' q => ⟨I.ds.length - (i + 1), by omega, rfl, hlt, q⟩, fun x H2 hx => ?_⟩
      obtain ⟨e2, R2, r2⟩ := hyl x H2 hx
      cases hf : f I.ds[i] env with
      | none => rw [hf] at h; exact h.elim
      | some env1 =>
        rw [hf] at h
        refine ⟨ρ, env, _, env1, E.ext e2, r2, hf, fun σ' E' => ⟨ρ, env1, S, E', R2, ?_⟩⟩
        cases r : g env1 S with
        | nx env' S' => dsimp only at h; rw [r] at h; exact fun ρ' σ' H' e' R' E' => ⟨ρ', env', S', (e.trans e2).trans e', E', R', FinS.ext (e2.trans e') h⟩
        | ct env' S' => dsimp only at h; rw [r] at h; exact fun ρ' σ' H' e' R' E' => ⟨ρ', env', S', (e.trans e2).trans e', E', R', FinS.ext (e2.trans e') h⟩
        | bk env' S' => dsimp only at h; rw [r] at h; exact FinS.ext e2 h
        | rt d S' => dsimp only at h; rw [r] at h; exact FinS.ext e2 h
        | er n env' S' => dsimp only at h; rw [r] at h; exact FinS.ext e2 h
        | st => dsimp only at h; rw [r] at h; exact h.elim
    · rw [if_neg hok] at h
      exact h.elim
  · have hie : i = I.ds.length := by omega
    have hdr : I.ds.drop i = [] := List.drop_eq_nil_of_le (by omega)
    rw [hdr] at h
    unfold forL at h
    by_cases hok : I.ok S
    · rw [if_pos hok] at h
      obtain ⟨hst, _⟩ := hI' ρ S H i e R hok
      exact .inl ⟨hst hie, h.done R E⟩
    · rw [if_neg hok] at h
      exact h.elim
end
section
variable {c : Cc} {ρ ρ' : List Addr} {H : Hp}
mutual
theorem RD.less {n : List Addr} (hn : ρ' = ρ ++ n) : ∀ {v : V} {d : D}, RD c ρ' H v d → d.free = true → RD c ρ H v d
  | _, _, .non, _ => .non
  | _, _, .bl b, _ => .bl b
  | _, _, .int i, _ => .int i
  | _, _, .str s, _ => .str s
  | _, _, .tup h r, q => .tup h (RL.less hn r (by simpa [D.free] using q))
  | _, _, .il h r, q => .il (by
      rcases h with ⟨h, z⟩ | h | h
      · refine .inl ⟨h, fun y => z ?_⟩
        rw [hn]
        exact List.mem_append_left _ y
      · exact .inr (.inl h)
      · exact .inr (.inr h)) (RL.less hn r (by simpa [D.free] using q))
  | _, _, .obj h, q => by simp [D.free] at q
  | _, _, .fn h, _ => .fn h
  | _, _, .ty n, _ => .ty n
  | _, _, .kd h r, q => .kd h (RL.less hn r (by simpa [D.free] using q))
theorem RL.less {n : List Addr} (hn : ρ' = ρ ++ n) : ∀ {vs : List V} {ds : List D}, RL c ρ' H vs ds → D.frees ds = true → RL c ρ H vs ds
  | _, _, .nil, _ => .nil
  | _, _, .cons h r, q => by
    simp only [D.frees, Bool.and_eq_true] at q
    exact .cons (RD.less hn h q.1) (RL.less hn r q.2)
end
end
theorem wipe_wipe {σ : L2.St} : ∀ (vs ws : List Nat), (∀ v ∈ ws, v ∈ vs) → L2.wipe (L2.wipe σ ws) vs = L2.wipe σ vs
  | vs, [], _ => rfl
  | vs, w :: ws, h => by
    show L2.wipe ((L2.wipe σ ws).set w none) vs = _
    rw [wipe_set (h w List.mem_cons_self), wipe_wipe vs ws fun v hv => h v (List.mem_cons_of_mem _ hv)]
open Classical in
noncomputable def lcL (ok : Sg → Prop) (f : FG) (t : FT) (fe : FE) (env : Env) (k : Nat) : List D → Sg → Res Unit
  | [] => fun S => if ok S then .ok () S else .st
  | d :: ds => fun S => if ok S then match f d env with
      | some env1 => (t env1 S).quiet.bind fun b S => if b = true then (fe env1 S).quiet.bind fun x S => match S[k]? with
          | some (.lst acc) => if acc.length < sizeLine then lcL ok f t fe env k ds (S.set k (.lst (acc ++ [x]))) else .st
          | _ => .st
        else lcL ok f t fe env k ds S
      | none => .st
    else .st
open Classical in
noncomputable def lcEnd (use : Bool) (k : Nat) (S0 : Sg) (S : Sg) : Res D := if use = true then match S[k]? with
    | some (.lst acc) => if S = S0 ++ [.lst acc] ∧ D.frees acc = true then .ok (.il acc) S0 else .ok (.obj k) S
    | _ => .ok (.obj k) S
  else .ok (.obj k) S
noncomputable def fLc (use : Bool) (own : List Nat) (fi : FI) (T : Tg) (t : FT) (fe : FE) : FE := fun env S => (fi env S).bind fun I S => if noExc env = true then
    (lcL I.ok T.f t fe (wipeE env own) S.length I.ds (S ++ [.lst []])).bind fun _ S2 => lcEnd use S.length S S2
  else .st
section
variable {X : Cx} {W : WX} {elt tg iter : Expr} {scope : Scope} {own : List (Str × Nat)} {pos : Pos} {fi : FI} {T : Tg} {t : FT} {fe : FE} {use : Bool}
theorem noExc_wipe {env : Env} (h : noExc env = true) : ∀ vs : List Nat, noExc (wipeE env vs) = true
  | [] => h
  | v :: vs => by
    have ih := noExc_wipe h vs
    unfold wipeE noExc
    rw [List.all_eq_true]
    intro x hx
    rcases List.mem_or_eq_of_mem_set hx with q | q
    · exact List.all_eq_true.mp ih x q
    · subst q; rfl
theorem Fin.quiet {c : Cc} {W W0 : WX} {σ σ0 : L2.St} {ρ : List Addr} {H : Hp} {α β : Type} {rel : List Addr → Hp → β → α → Prop} {r : Res α} {Q : β → Hp → Prop} (h : Fin c W σ ρ H rel r.quiet Q) : Fin c W0 σ0 ρ H rel r Q := by
  cases r with
  | ok a S => exact h
  | er n S => exact h.elim
  | st => exact h
theorem quiet_on {c : Cc} {W W0 : WX} {σ σ0 : L2.St} {ρ ρ0 : List Addr} {H H0 : Hp} {α β γ δ : Type} {rel : List Addr → Hp → β → α → Prop} {rel2 : List Addr → Hp → δ → γ → Prop} {r : Res γ} {g : γ → Sg → Res α} {Q : β → Hp → Prop} (h : Fin c W σ ρ0 H0 rel (r.quiet.bind g) Q) :
    Fin c W0 σ0 ρ H rel2 r fun x H1 => ∃ ρ1 S1 a, Ext ρ H ρ1 H1 ∧ Rel c ρ1 S1 H1 ∧ rel2 ρ1 H1 x a ∧ Fin c W σ ρ0 H0 rel (g a S1) Q := by
  cases r with
  | ok a S => exact fun ρ1 H1 v e R q => ⟨ρ1, S, a, e, R, q, h⟩
  | er n S => exact h.elim
  | st => exact h
theorem Res.bind_assoc {α β γ : Type} (r : Res α) (f : α → Sg → Res β) (g : β → Sg → Res γ) : (r.bind f).bind g = r.bind fun a S => (f a S).bind g := by
  cases r <;> rfl
theorem can_lc {te : TE} {tt : TT} {pn' : List (Addr × Obj)} (hown : ∀ i ∈ T.is, i ∈ own.map (·.2))
    (he : ∀ σ H Q, canE X.cc [] (fun _ _ _ _ => False) fe σ H Q → te σ H Q) (ht : ∀ σ H Q, canT X.cc [] (fun _ _ _ _ => False) t σ H Q → tt σ H Q) {σ : L2.St} {H : Hp} {Q : VK}
    (h : canE X.cc pn' W (fLc use (own.map (·.2)) fi T t fe) σ H Q) : tLc (canI X.cc pn' W fi) (T.t X.K) tt te (own.map (·.2)) σ H Q := by
  obtain ⟨ρ, env, S, E, R, h⟩ := h
  refine ⟨ρ, env, S, E, R, Fin.mono h.bind fun J H1 ⟨ρ1, S1, I, e1, R1, hI, h1⟩ => ?_⟩
  have hI' : IsItems X.cc ρ1 H1 J I := hI
  split at h1
  · rename_i hx
    intro Dl hD
    have hl0 : ρ1.length = S1.length := R1.len
    have hE0 : RelEnv X.cc [] ρ1 H1 (L2.wipe σ (own.map (·.2))) (wipeE env (own.map (·.2))) := ((E.ext e1).wipe _).bare (noExc_wipe hx _)
    have ek : Ext ρ1 H1 (ρ1 ++ [Dl]) (upd H1 Dl (.lst [])) := Ext.put hD
    have Rk : Rel X.cc (ρ1 ++ [Dl]) (S1 ++ [.lst []]) (upd H1 Dl (.lst [])) := R1.put hD ⟨[], upd_same, .nil⟩
    have gk : ∀ {ρ H}, Ext (ρ1 ++ [Dl]) (upd H1 Dl (.lst [])) ρ H → ρ[S1.length]? = some Dl := fun e => e.get (by rw [← hl0]; simp)
    let Tn : Nat → Hp → Prop := fun i H => ∃ ρ S, Ext (ρ1 ++ [Dl]) (upd H1 Dl (.lst [])) ρ H ∧ Rel X.cc ρ S H ∧
      Fin X.cc W σ ρ1 H1 (relD X.cc) ((lcL I.ok T.f t fe (wipeE env (own.map (·.2))) S1.length (I.ds.drop i) S).bind fun _ S2 => lcEnd use S1.length S1 S2) Q
    refine ⟨fun i m H => m = I.ds.length - i ∧ i ≤ I.ds.length ∧ Tn i H, ⟨I.ds.length, by simp, Nat.zero_le _, _, _, .refl, Rk, h1⟩, ?_⟩
    rintro i m H ⟨rfl, hi, ρ, S, e, R, h⟩
    have ee : Ext ρ1 H1 ρ H := ek.trans e
    by_cases hlt : i < I.ds.length
    · have hdr : I.ds.drop i = I.ds[i] :: I.ds.drop (i + 1) := List.drop_eq_getElem_cons hlt
      rw [hdr] at h
      unfold lcL at h
      by_cases hok : I.ok S
      · rw [if_pos hok] at h
        obtain ⟨_, hy⟩ := hI' ρ S H i ee R hok
        obtain ⟨hgo, hyl⟩ := hy I.ds[i] (by simp [hlt])
        refine .inr ⟨hgo, fun H => Tn (i + 1) H, fun H' q => ⟨I.ds.length - (i + 1), by omega, rfl, hlt, q⟩, fun x H2 hx2 => ?_⟩
        obtain ⟨e2, R2, r2⟩ := hyl x H2 hx2
        cases hf : T.f I.ds[i] (wipeE env (own.map (·.2))) with
        | none => rw [hf] at h; exact h.elim
        | some env1 =>
          rw [hf] at h
          dsimp only at h
          rw [Res.bind_assoc] at h
          refine T.ok (hE0.ext (ee.trans e2)) r2 hf hown (wipe_wipe _ _ fun _ z => z) fun σ' E' hw => ⟨hw, ?_⟩
          refine ht _ _ _ ⟨ρ, env1, S, E', R2, Fin.mono (quiet_on h) fun b H3 ⟨ρ3, S3, b', e3, R3, rb, h3⟩ => ?_⟩
          cases rb
          cases b with
          | false =>
            rw [if_neg Bool.false_ne_true] at h3 ⊢
            exact ⟨ρ3, S3, (e.trans e2).trans e3, R3, h3⟩
          | true =>
            rw [if_pos rfl] at h3 ⊢
            rw [Res.bind_assoc] at h3
            refine he _ _ _ ⟨ρ3, env1, S3, E'.ext e3, R3, Fin.mono (quiet_on h3) fun y H4 ⟨ρ4, S4, d, e4, R4, rd, h4⟩ => ?_⟩
            have e5 := ((e.trans e2).trans e3).trans e4
            split at h4
            · rename_i acc hS
              split at h4
              · rename_i hz
                obtain ⟨vs, hv, q⟩ := lst_at R4 (gk e5) hS
                have ew := Ext.set (o := .lst (vs ++ [y])) R4 (List.mem_of_getElem? (gk e5))
                exact ⟨vs, hv, by rw [q.len]; exact hz, ρ4, _, e5.trans ew, R4.set (m := .lst (acc ++ [d])) (gk e5) ⟨_, upd_same, (q.append (.cons rd .nil)).ext ew⟩, h4⟩
              · exact h4.elim
            · exact h4.elim
      · rw [if_neg hok] at h
        exact h.elim
    · have hie : i = I.ds.length := by omega
      have hdr : I.ds.drop i = [] := List.drop_eq_nil_of_le (by omega)
      rw [hdr] at h
      unfold lcL at h
      by_cases hok : I.ok S
      · rw [if_pos hok] at h
        obtain ⟨hst, _⟩ := hI' ρ S H i ee R hok
        refine .inl ⟨hst hie, ?_⟩
        have keep : Fin X.cc W σ ρ1 H1 (relD X.cc) (.ok (.obj S1.length) S) Q → Q (.ref Dl) H := fun h => h ρ H _ ee R (.obj (gk e))
        dsimp only [Res.bind_ok] at h
        unfold lcEnd at h
        split at h
        · split at h
          · rename_i acc hS
            split at h
            · rename_i hz
              obtain ⟨hz1, hz2⟩ := hz
              obtain ⟨vs, hv, q⟩ := lst_at R (gk e) hS
              obtain ⟨n, hn, _⟩ := id ee.new
              obtain ⟨Rb, eb⟩ := R1.back ee (by rw [← hz1]; exact R)
              exact h ρ1 H _ eb Rb (.il (.inl ⟨hv, R1.fresh hD⟩) (RL.less hn q hz2))
            · exact keep h
          · exact keep h
        · exact keep h
      · rw [if_neg hok] at h
        exact h.elim
  · exact h1.elim
theorem de_lc (hc : X.calm = true) (hN : X.N.Nodup) (hi : DI X W tg iter fi) (ok : BlkOk X.N X.env.scope scope own) (hown : ∀ i ∈ T.is, i ∈ own.map (·.2))
    (hg : ∀ (s : Shared) (H : Hp) (C : Addr) (cl : List (Str × Addr)) (fp : List Addr), PG (X.blk s H scope (compEnvC scope cl C X.env) fp) tg (T.t X.K))
    {ifs : List Expr} (ht : ∀ (s : Shared) (H : Hp) (C : Addr) (cl : List (Str × Addr)) (fp : List Addr), PTs (X.blk s H scope (compEnvC scope cl C X.env) fp) ifs (canT X.cc [] (fun _ _ _ _ => False) t))
    (he : ∀ (s : Shared) (H : Hp) (C : Addr) (cl : List (Str × Addr)) (fp : List Addr), DE (X.blk s H scope (compEnvC scope cl C X.env) fp) (fun _ _ _ _ => False) elt fe)
    (hs : ∀ x, foldedSetIterable iter X.env x = pure x) : DE X W (.ListComp elt [⟨tg, iter, ifs, 0⟩] scope pos) (fLc use (own.map (·.2)) fi T t fe) :=
  PE.imp (pe_lc (te := canE X.cc [] (fun _ _ _ _ => False) fe) hc hN hi ok hg ht (fun s H C cl fp => he s H C cl fp) hs) fun _ _ _ h => can_lc hown (fun _ _ _ q => q) (fun _ _ _ q => q) h
def fYes : FT := fun _ S => .ok true S
theorem pts_yes : PTs X [] (canT X.cc [] (fun _ _ _ _ => False) fYes) := ⟨fun pins s σ H Q I ⟨ρ, env, S, E, R, h⟩ => pts_nil.run pins s σ H Q I (h.done R rfl)⟩
end
def FinC (c : Cc) (ρ : List Addr) (H : Hp) (r : Res D) (Q : VK) (E : XK) : Prop := match r with
  | .ok d S => ∀ ρ' H' v, Ext ρ H ρ' H' → Rel c ρ' S H' → RD c ρ' H' v d → Q v H'
  | .er x S => ∀ ρ' H' C, Ext ρ H ρ' H' → Rel c ρ' S H' → c.mg x = some (.ref C) → E (.ref C) none H'
  | .st => False
def spD (c : Cc) (n : Nat) (F : Fn) : Sp := fun vs H Q E => ∃ ρ S ds, Rel c ρ S H ∧ RL c ρ H vs ds ∧ ds.length = n ∧ FinC c ρ H (F ds S) Q E
structure FnE where
  name : Str
  n : Nat
  F : Fn
def FnK (P : Program) (w : World) (K : PySem.W.Frag) (mg : Str → Option Value) (base : Heap) (k : Nat) (e : FnE) : Prop := ∃ (f : Addr) (fd : FuncData) (ps : List Str),
  mg e.name = some (.ref f) ∧ PySem.W.keepIn K (.ref f) = true ∧ Binds K fd ps [] ∧ ps.length = e.n ∧ FnOk P w K mg base (L2.CX P w) k f fd ps (spD ⟨K, mg, w⟩ e.n e.F)
theorem FnK.mono {P : Program} {w : World} {K : PySem.W.Frag} {mg : Str → Option Value} {base : Heap} {j k : Nat} {e : FnE} (h : FnK P w K mg base j e) (hjk : j ≤ k) : FnK P w K mg base k e := by
  obtain ⟨f, fd, ps, h1, h2, h3, h4, h5⟩ := h
  exact ⟨f, fd, ps, h1, h2, h3, h4, h5.mono hjk⟩
mutual
def D.low : D → D
  | .tup _ ds => .tup false (D.lows ds)
  | .il ds => .il (D.lows ds)
  | .kd ks ds => .kd ks (D.lows ds)
  | d => d
def D.lows : List D → List D
  | [] => []
  | d :: ds => d.low :: D.lows ds
end
section
variable {c : Cc} {ρ : List Addr} {H : Hp}
mutual
theorem RD.low : ∀ {v : V} {d : D}, RD c ρ H v d → RD c ρ H v d.low
  | _, _, .non => .non
  | _, _, .bl b => .bl b
  | _, _, .int i => .int i
  | _, _, .str s => .str s
  | _, _, .tup h r => .tup ⟨(fun z => by cases z), h.2⟩ (RL.low r)
  | _, _, .il h r => .il h (RL.low r)
  | _, _, .obj h => .obj h
  | _, _, .fn h => .fn h
  | _, _, .ty n => .ty n
  | _, _, .kd h r => .kd h (RL.low r)
theorem RL.low : ∀ {vs : List V} {ds : List D}, RL c ρ H vs ds → RL c ρ H vs (D.lows ds)
  | _, _, .nil => .nil
  | _, _, .cons h r => .cons (RD.low h) (RL.low r)
end
end
def Weak (S : Sg) (r r' : Res D) : Prop := r' = .st ∨ r = r' ∨ (∃ d G, r = .ok d (S ++ G) ∧ d.free = true ∧ r' = .ok d S) ∨ (∃ x G, r = .er x (S ++ G) ∧ r' = .er x S) ∨ ∃ d S', r = .ok d S' ∧ r' = .ok d.low S'
theorem FinC.weak {c : Cc} {ρ : List Addr} {S : Sg} {H : Hp} {r r' : Res D} {Q : VK} {E : XK} (R : Rel c ρ S H) (h : Weak S r r') (f : FinC c ρ H r' Q E) : FinC c ρ H r Q E := by
  rcases h with rfl | rfl | ⟨d, G, rfl, hd, rfl⟩ | ⟨x, G, rfl, rfl⟩ | ⟨d, S', rfl, rfl⟩
  · exact f.elim
  · exact f
  · intro ρ' H' v e R' q
    obtain ⟨Rb, eb⟩ := R.back e R'
    obtain ⟨n, hn, _⟩ := e.new
    exact f ρ H' v eb Rb (RD.less hn q hd)
  · intro ρ' H' C e R' q
    obtain ⟨Rb, eb⟩ := R.back e R'
    exact f ρ H' C eb Rb q
  · intro ρ' H' v e R' q
    exact f ρ' H' v e R' q.low
theorem FnK.weak {P : Program} {w : World} {K : PySem.W.Frag} {mg : Str → Option Value} {base : Heap} {k n : Nat} {x : Str} {F F' : Fn} (h : FnK P w K mg base k ⟨x, n, F⟩) (hw : ∀ ds S, ds.length = n → Weak S (F ds S) (F' ds S)) : FnK P w K mg base k ⟨x, n, F'⟩ := by
  obtain ⟨f, fd, ps, h1, h2, h3, h4, h5⟩ := h
  refine ⟨f, fd, ps, h1, h2, h3, h4, h5.imp fun vs H Q E ⟨ρ, S, ds, R, r, hl, q⟩ => ⟨ρ, S, ds, R, r, hl, q.weak R (hw ds S hl)⟩⟩
section
variable {X : Cx} {W : WX} {e : Expr} {es : List Expr} {pos p : Pos} {fs : FL} {k n : Nat} {x : Str} {F : Fn}
theorem can_fn {pn : List (Addr × Obj)} {t : TA} (ht : ∀ σ H Q, canA X.cc pn W fs σ H Q → t σ H Q) (hlen : ∀ env S ds S', fs env S = .ok ds S' → ds.length = n) {σ : L2.St} {H : Hp} {Q : VK} (h : canE X.cc pn W (fCall F fs) σ H Q) : tCallS (spD X.cc n F) (WE W) t σ H Q := by
  obtain ⟨ρ, env, S, E, R, h⟩ := h
  refine ht _ _ _ ⟨ρ, env, S, E, R, ?_⟩
  unfold fCall at h
  cases r : fs env S with
  | ok ds S' =>
    rw [r] at h
    intro ρ' H' v e R' q
    refine ⟨ρ', S', ds, R', q, hlen env S ds S' r, ?_⟩
    have h' := Fin.ext e h
    dsimp only [Res.bind_ok] at h'
    cases r2 : F ds S' with
    | ok d S2 => rw [r2] at h'; exact h'
    | er m S2 => rw [r2] at h'; exact h'
    | st => rw [r2] at h'; exact h'
  | er m S' => rw [r] at h; exact h
  | st => rw [r] at h; exact h
theorem de_call (h : FnK X.prog X.w X.K X.mg X.base k ⟨x, n, F⟩) (hr : Room k X.A) (hg : Gl X x) (tk : Takes X W) (ha : DA X W (e :: es) fs) (hlen : ∀ env S ds S', fs env S = .ok ds S' → ds.length = n) (hdb : (x == ("__debug__" : Str)) = false)
    (he : starEach (e :: es) X.env = (false, eval e X.env) :: starEach es X.env) (hpl : (backTo pos (starEach es X.env)).any (·.1) = false) : DE X W (.Call (.Name x p) (e :: es) [] pos) (fCall F fs) := by
  obtain ⟨f, fd, ps, h1, h2, h3, h4, h5⟩ := h
  exact PE.imp (pe_callS h5 hr hg h1 h2 h3 (fun σ => passAt tk σ) ha hdb he hpl) fun _ _ _ q => can_fn (fun _ _ _ z => z) hlen q
end
def startE (m : Nat) (ds : List D) : Env := ds.map (fun d => some (.v d)) ++ List.replicate (m - ds.length) none
def SR.fin (r : SR) : Res D := match r with
  | .nx _ S => .ok .non S
  | .rt d S => .ok d S
  | .er c _ S => .er c S
  | _ => .st
def runF (m : Nat) (g : FS) : Fn := fun ds S => (g (startE m ds) S).fin
theorem start_ok {c : Cc} {ρ : List Addr} {H : Hp} {N : List Str} {vs : List V} {ds : List D} (r : RL c ρ H vs ds) : RelEnv c [] ρ H (L2.start N vs) (startE N.length ds) := by
  refine ⟨by unfold L2.start startE; simp [r.len], fun i d hi => ?_, fun i n hi => ?_⟩
  · unfold startE at hi
    by_cases hl : i < ds.length
    · rw [List.getElem?_append_left (by simpa using hl), List.getElem?_map] at hi
      obtain ⟨d', hd, e⟩ := Option.map_eq_some_iff.mp hi
      cases e
      obtain ⟨v, hv, rv⟩ := r.get hd
      refine ⟨v, ?_, rv⟩
      unfold L2.start
      rw [List.getElem?_append_left (by simp [r.len]; exact hl), List.getElem?_map, hv]
      rfl
    · rw [List.getElem?_append_right (by simp; omega)] at hi
      have := (List.mem_replicate.mp (List.mem_of_getElem? hi)).2
      cases this
  · unfold startE at hi
    have := List.mem_of_getElem? hi
    rcases List.mem_append.mp this with q | q
    · obtain ⟨d, _, e⟩ := List.mem_map.mp q
      cases e
    · cases (List.mem_replicate.mp q).2
section
variable {P : Program} {w : World} {K : PySem.W.Frag} {mg : Str → Option Value} {base : Heap}
structure DefX (P : Program) (w : World) (K : PySem.W.Frag) (mg : Str → Option Value) (base : Heap) (k : Nat) (N : List Str) (sc : Scope) (X : Cx) (W : WX) : Prop where
  prog : X.prog = P
  wd : X.w = w
  kf : X.K = K
  gl : X.mg = mg
  bs : X.base = base
  n : X.N = N
  sc : X.env.scope = sc
  nd : X.N.Nodup
  room : Room k X.A
  calm : X.calm = true
  tk : Takes X W
  pass : PassesOwn (model X.prog X.w) X.A X.env X.xe
  stk : X.stack = X.env :: X.outer
  frm : X.env.frame = some X.env.locals
  fn : ∀ x, X.fn x = true
theorem fn_okD {x qual : Str} {st : Stmt} {f : Addr} {fd : FuncData} {N ps : List Str} {k : Nat} {g : FS} (F : Fun K x qual st f fd) (S : FnScope N ps (defScope st)) 
    (hb : ∀ X W, DefX P w K mg base k N (defScope st) X W → X.pn = [] → DSs X W (defBody st) g) : FnOk P w K mg base (L2.CX P w) (k + 1) f fd ps (spD ⟨K, mg, w⟩ ps.length (runF N.length g)) := by
  refine F.okX S (fun vs H Q E ⟨ρ, T, ds, R, r, hl, q⟩ => by rw [r.len]; exact hl) fun cdv A outer s H vs Q E hr ⟨ρ, T, ds, R, r, hl, q⟩ => ?_
  have tk : Takes (cxOf (L2.CX P w) P w K mg base N qual (defScope st) f cdv A outer s H E) (fun cls d _ H => E cls d H) := takes_of rfl rfl rfl rfl
  refine ⟨_, hb _ _ ⟨rfl, rfl, rfl, rfl, rfl, rfl, rfl, S.nd, hr, rfl, tk, passes_of rfl, rfl, rfl, fun _ => rfl⟩ rfl, ρ, startE N.length ds, T, start_ok r, R, ?_⟩
  have q' : FinC ⟨K, mg, w⟩ ρ H ((g (startE N.length ds) T).fin) Q E := q
  cases e : g (startE N.length ds) T with
  | nx env' S' => rw [e] at q'; exact fun ρ' σ' H' e' R' E' => q' ρ' H' .non e' R' .non
  | rt d S' => rw [e] at q'; exact q'
  | er n env' S' => rw [e] at q'; exact fun ρ' σ' H' C e' R' E' hC => q' ρ' H' C e' R' hC
  | bk env' S' => rw [e] at q'; exact q'.elim
  | ct env' S' => rw [e] at q'; exact q'.elim
  | st => rw [e] at q'; exact q'.elim
theorem fn_def {x qual : Str} {st : Stmt} {f : Addr} {fd : FuncData} {N ps : List Str} {k : Nat} {g : FS} (F : Fun K x qual st f fd) (S : FnScope N ps (defScope st)) (hm : mg x = some (.ref f)) (b : Binds K fd ps [])
    (hb : ∀ X W, DefX P w K mg base k N (defScope st) X W → X.pn = [] → DSs X W (defBody st) g) : FnK P w K mg base (k + 1) ⟨x, ps.length, runF N.length g⟩ := ⟨f, fd, ps, hm, F.kp, b, rfl, fn_okD F S hb⟩
end
def clsX (mg : Str → Option Value) (x : Str) (u : Value) : Prop := (∃ C, mg x = some (.ref C) ∧ u = .ref C) ∨ (x = ("ValueError" : Str) ∧ mg x = none ∧ u = .type "ValueError")
structure ExcT (K : PySem.W.Frag) (mg : Str → Option Value) (names : List Str) : Prop where
  own : ∀ x ∈ names, ExcK K mg x
  cl : ∀ x ∈ names, ∀ C, mg x = some (.ref C) → ExcC K C
  kit : ∀ x ∈ names, ∀ C, mg x = some (.ref C) → ∀ y ∈ ("ValueError" : Str) :: names, ∀ u, clsX mg y u → PySem.W.kitOne K (.ref C) u = some (subX x y)
  exm : ∀ x ∈ names, ∀ C, mg x = some (.ref C) → ∀ y ∈ names, ∀ u, clsX mg y u → PySem.W.exmOne K (.ref C) u = some (subX x y)
section
variable {X : Cx} {W : WX} {pos p p2 p3 : Pos} {names : List Str}
theorem isE_kit {a D : Addr} {oe : Obj} (C : ExcC X.K D) (hp : (a, oe) ∈ X.pn) (h1 : oe.cls = .ref D) (h2 : oe.dict = none) (hf : ∃ vs, oe.data = .fields vs) {pins : List (Addr × Obj)} {σ : L2.St} {H : Hp} {s : Shared} (I : Inv X pins σ H s) :
    ∃ P : Heap → Prop, PySem.W.KitX X.K (.ref a) (.ref D) P ∧ P s.heap := by
  obtain ⟨hget, _⟩ := I.pin (a, oe) (List.mem_append.mpr (.inl hp))
  obtain ⟨vs, hv⟩ := hf
  have J : PySem.W.InstAt s.heap a oe D none := by
    obtain ⟨oc, od, oda, osl⟩ := oe
    dsimp only at h1 h2 hv
    subst h1 h2 hv
    exact ⟨hget, rfl, rfl, trivial⟩
  exact ⟨_, PySem.W.handS_kitx_exc C.hg C.hk C.hs C.hd C.ha C.hn C.ht C.hm, J⟩
def fIsE (names : List Str) (i : Nat) (cs : List Str) : FE := fun env S => match env[i]? with
  | some (some (.exc n)) => if n ∈ names then .ok (.bl (cs.any fun c => subX n c)) S else .st
  | _ => .st
def rIsX (K : PySem.W.Frag) (pn : List (Addr × Obj)) : List V → Hp → VK → Prop := fun xs H Q => ∃ (a D : Addr) (oe : Obj), (a, oe) ∈ pn ∧ oe.cls = .ref D ∧ oe.dict = none ∧ (∃ vs, oe.data = .fields vs) ∧ ExcC K D ∧
  ((∃ (c : V) (cv : Value) (b : Bool), xs = [.ref a, c] ∧ (∀ u, RelV c u → u = cv) ∧ PySem.W.kitOne K (.ref D) cv = some b ∧ Q (.bl b) H) ∨
    ∃ (tp : Addr) (cs : List V) (us : List Value) (b : Bool), xs = [.ref a, .ref tp] ∧ H tp = some (.tup cs) ∧ Paired ClsV cs us ∧ PySem.W.kitAny K (.ref D) us = some b ∧ Q (.bl b) H)
theorem call_isX : CallR X (.builtin "isinstance") (rIsX X.K X.pn) := by
  intro pins s σ H xs us Q I r h
  obtain ⟨a, D, oe, hp, h1, h2, h3, C, h | h⟩ := h
  · obtain ⟨c, cv, b, rfl, hcv, e, q⟩ := h
    obtain ⟨u1, u2, rfl, r1, r2⟩ := vals2 r
    cases r1
    have ec := hcv _ r2
    subst ec
    obtain ⟨P, Z, p⟩ := isE_kit C hp h1 h2 h3 I
    exact PySem.W.kia_one Z I.kIn p e (fun z => nomatch z) fun tk => ⟨.bl b, H, I.tok tk, rfl, q⟩
  · obtain ⟨tp, cs, ws, b, rfl, hT, k, e, q⟩ := h
    obtain ⟨u1, u2, rfl, r1, r2⟩ := vals2 r
    cases r1
    cases (show u2 = Value.ref tp from r2)
    obtain ⟨P, Z, p⟩ := isE_kit C hp h1 h2 h3 I
    obtain ⟨_, its, rv, o, g1, g2, n, g3⟩ := (show ObjOk X.prog X.w H s.heap tp (.tup cs) from I.hok tp _ hT)
    have e3 := ClsV.all k rv
    subst e3
    obtain ⟨oc, od, dt, sl⟩ := o
    simp only at g2 g3
    subst g2 g3
    exact PySem.W.kia_tup Z I.kIn p g1 e (fun z => nomatch z) fun tk => ⟨.bl b, H, I.tok tk, rfl, q⟩
theorem pe_cls {y : Str} {pos : Pos} (hg : Gl X y) (hdb : (y == ("__debug__" : Str)) = false) (hy : (∃ C, X.mg y = some (.ref C)) ∨ (y = ("ValueError" : Str) ∧ X.mg y = none)) : ∃ v u, PE X (.Name y pos) (tC v) ∧ ClsV v u ∧ clsX X.mg y u := by
  rcases hy with ⟨C, h⟩ | ⟨rfl, h⟩
  · exact ⟨.ref C, .ref C, pe_glob hg h rfl hdb, .own C, .inl ⟨C, h, rfl⟩⟩
  · exact ⟨.ty "ValueError", .type "ValueError", pe_bltn hg h (by decide +kernel) rfl (by decide) hdb, .ty _, .inr ⟨rfl, h, rfl⟩⟩
theorem clsV_rel {v : V} {u : Value} (h : ClsV v u) : ∀ w, RelV v w → w = u := fun w r => h.eq r
theorem de_isE {i : Nat} {x y : Str} (T : ExcT X.K X.mg names) (hN : X.N[i]? = some x) (hv : Vis X.env.scope x) (hd : (x == ("__debug__" : Str)) = false) (hcd : (x == ("__classdict__" : Str)) = false)
    (hg : Gl X "isinstance") (hm : X.mg "isinstance" = none) (hgy : Gl X y) (hdy : (y == ("__debug__" : Str)) = false) (hy : y ∈ ("ValueError" : Str) :: names) (hyv : y = ("ValueError" : Str) → X.mg y = none) :
    DE X W (.Call (.Name "isinstance" p) [.Name x p2, .Name y p3] [] pos) (fIsE names i [y]) := by
  have hy' : (∃ C, X.mg y = some (.ref C)) ∨ (y = ("ValueError" : Str) ∧ X.mg y = none) := by
    rcases List.mem_cons.mp hy with e | e
    · exact .inr ⟨e, hyv e⟩
    · obtain ⟨C, h, _⟩ := (T.own y e).ex
      exact .inl ⟨C, h⟩
  obtain ⟨v, u, hP, hC, hX⟩ := pe_cls (pos := p3) hgy hdy hy'
  refine PE.imp (pe_callB call_isX hg hm (by decide +kernel) (pa_cons (pe_var hN hv hd hcd) (pa_cons hP pa_nil)) (by decide) (by decide) rfl rfl) fun σ H Q ⟨ρ, env, S, E, R, h⟩ => ?_
  unfold fIsE at h
  split at h
  · rename_i n hn
    split at h
    · rename_i hmem
      obtain ⟨a, oe, C, hs, hp, h1, h2, h3, h4⟩ := E.x i n hn
      refine ⟨_, hs, a, C, oe, hp, h1, h2, h3, T.cl n hmem C h4, .inl ⟨v, u, subX n y, rfl, clsV_rel hC, T.kit n hmem C h4 y hy u hX, ?_⟩⟩
      have e : ([y].any fun c => subX n c) = subX n y := by simp
      rw [e] at h
      exact h.done R (.bl _)
    · exact h.elim
  · exact h.elim
theorem pa_clss (T : ExcT X.K X.mg names) (hyv : X.mg "ValueError" = none) : ∀ (ys : List (Str × Pos)), (∀ y ∈ ys, Gl X y.1 ∧ (y.1 == ("__debug__" : Str)) = false ∧ y.1 ∈ ("ValueError" : Str) :: names) →
    ∃ (t : TA) (vs : List V) (us : List Value), PA X (ys.map fun y => .Name y.1 y.2) t ∧ (∀ σ H Q, Q vs H → t σ H Q) ∧ Paired ClsV vs us ∧ vs.length = ys.length ∧
      ∀ n ∈ names, ∀ C, X.mg n = some (.ref C) → PySem.W.kitAny X.K (.ref C) us = some (ys.any fun y => subX n y.1)
  | [], _ => ⟨tNil, [], [], pa_nil, fun _ _ _ q => q, .nil, rfl, fun _ _ _ _ => rfl⟩
  | y :: ys, h => by
    obtain ⟨t, vs, us, h1, h2, h3, h4, h5⟩ := pa_clss T hyv ys fun z hz => h z (List.mem_cons_of_mem _ hz)
    obtain ⟨g1, g2, g3⟩ := h y List.mem_cons_self
    have hy' : (∃ C, X.mg y.1 = some (.ref C)) ∨ (y.1 = ("ValueError" : Str) ∧ X.mg y.1 = none) := by
      rcases List.mem_cons.mp g3 with e | e
      · exact .inr ⟨e, by rw [e]; exact hyv⟩
      · obtain ⟨C, h, _⟩ := (T.own y.1 e).ex
        exact .inl ⟨C, h⟩
    obtain ⟨v, u, hP, hC, hX⟩ := pe_cls (pos := y.2) g1 g2 hy'
    refine ⟨tCons (tC v) t, v :: vs, u :: us, pa_cons hP h1 rfl, fun σ H Q q => h2 σ H _ q, .cons hC h3, by simp [h4], fun n hn C hCn => ?_⟩
    rw [List.any_cons]
    refine kitAny_cons (T.kit n hn C hCn y.1 g3 u hX) (fun e => ?_) (fun e => by rw [e]; rfl)
    rw [e, Bool.false_or]
    exact h5 n hn C hCn
theorem de_isEs {i : Nat} {x : Str} {ys : List (Str × Pos)} {kk : Nat} (T : ExcT X.K X.mg names) (hN : X.N[i]? = some x) (hv : Vis X.env.scope x) (hd : (x == ("__debug__" : Str)) = false) (hcd : (x == ("__classdict__" : Str)) = false)
    (hg : Gl X "isinstance") (hm : X.mg "isinstance" = none) (hyv : X.mg "ValueError" = none) (hys : ∀ y ∈ ys, Gl X y.1 ∧ (y.1 == ("__debug__" : Str)) = false ∧ y.1 ∈ ("ValueError" : Str) :: names) (hl : ys.length ≤ 1000) :
    DE X W (.Call (.Name "isinstance" p) [.Name x p2, .Tuple (ys.map fun y => .Name y.1 y.2) kk p3] [] pos) (fIsE names i (ys.map (·.1))) := by
  obtain ⟨t, vs, us, h1, h2, h3, h4, h5⟩ := pa_clss T hyv ys hys
  refine PE.imp (pe_callB call_isX hg hm (by decide +kernel) (pa_cons (pe_var hN hv hd hcd) (pa_cons (pe_tup h1) pa_nil)) (by decide) (by decide) rfl rfl) fun σ H Q ⟨ρ, env, S, E, R, h⟩ => ?_
  unfold fIsE at h
  split at h
  · rename_i n hn
    split at h
    · rename_i hmem
      obtain ⟨a, oe, C, hs, hp, g1, g2, g3, g4⟩ := E.x i n hn
      refine ⟨_, hs, h2 σ H _ ⟨by rw [h4]; exact Nat.le_trans hl (by decide), fun q hq => ?_⟩⟩
      refine ⟨a, C, oe, hp, g1, g2, g3, T.cl n hmem C g4, .inr ⟨q, vs, us, _, rfl, upd_same, h3, h5 n hmem C g4, ?_⟩⟩
      rw [List.any_map] at h
      exact h _ _ _ (Ext.lay hq) (R.lay hq) (.bl _)
    · exact h.elim
  · exact h.elim
end
def SR.unbind (r : SR) (i : Nat) : SR := match r with
  | .nx env S => if noExc (env.set i none) = true then .nx (env.set i none) S else .st
  | .bk env S => if noExc (env.set i none) = true then .bk (env.set i none) S else .st
  | .ct env S => if noExc (env.set i none) = true then .ct (env.set i none) S else .st
  | .er _ _ _ => .st
  | r => r
def sTry (names : List Str) (h : Str) (i : Nat) (g gs : FS) : FS := fun env S => if noExc env = true then match g env S with
    | .er n env1 S1 => if n ∈ names ∧ noExc env1 = true then (if subX n h = true then (gs (env1.set i (some (.exc n))) S1).unbind i else .er n env1 S1) else .st
    | .nx env1 S1 => if noExc env1 = true then .nx env1 S1 else .st
    | .bk env1 S1 => if noExc env1 = true then .bk env1 S1 else .st
    | .ct env1 S1 => if noExc env1 = true then .ct env1 S1 else .st
    | r => r
  else .st
theorem RelEnv.hold {c : Cc} {pn pn' : List (Addr × Obj)} {ρ : List Addr} {H : Hp} {σ : L2.St} {env : Env} {i : Nat} {n : Str} {a C : Addr} {oe : Obj} (E : RelEnv c pn ρ H σ env) (h : noExc env = true) (hp : (a, oe) ∈ pn') (h1 : oe.cls = .ref C) (h2 : oe.dict = Option.none) (h3 : ∃ vs, oe.data = .fields vs) (h4 : c.mg n = some (.ref C)) :
    RelEnv c pn' ρ H (σ.set i (some (.ref a))) (env.set i (some (.exc n))) := by
  refine ⟨by simp [E.len], fun j d hj => ?_, fun j m hj => ?_⟩
  · by_cases hji : i = j
    · subst hji
      by_cases hl : i < env.length
      · rw [List.getElem?_set_self hl] at hj; cases hj
      · rw [List.getElem?_eq_none (by simp; omega)] at hj; cases hj
    · rw [List.getElem?_set_ne hji] at hj
      rw [List.getElem?_set_ne hji]
      exact E.v j d hj
  · by_cases hji : i = j
    · subst hji
      by_cases hl : i < env.length
      · rw [List.getElem?_set_self hl] at hj
        cases hj
        exact ⟨a, oe, C, List.getElem?_set_self (by rw [E.len]; exact hl), hp, h1, h2, h3, h4⟩
      · rw [List.getElem?_eq_none (by simp; omega)] at hj; cases hj
    · rw [List.getElem?_set_ne hji] at hj
      exact absurd hj (noExc_at h)
section
variable {X : Cx} {W : WX} {pos np pos' : Pos} {names : List Str} {body suite : List Stmt} {b₀ : Stmt} {g gs : FS} {h n : Str} {i : Nat}
theorem ds_try (T : ExcT X.K X.mg names) (hs : X.stack = X.env :: X.outer) (hf : X.env.frame = some X.env.locals) (hN : X.N.Nodup) (hi : X.N[i]? = some n) (hln : X.env.kindOf n = some .local) (hh : h ∈ names) (hg : Gl X h) (hdb : (h == ("__debug__" : Str)) = false) (tk : Takes X W)
    (hb : ∀ (W : WX) (pn : List (Addr × Obj)) (xe : Value → Shared → Prop), Takes (X.tr pn xe) W → PassesOwn (model X.prog X.w) X.A X.env xe → DSs (X.tr pn xe) W body g)
    (hsu : ∀ (a : Addr) (oe : Obj) (pn : List (Addr × Obj)), DSs (X.suite a ((a, oe) :: pn)) (fun _ _ _ _ => False) (b₀ :: suite) gs) :
    DS X W (.Try body [.ExceptHandler (some (.Name h np)) (some n) (b₀ :: suite) pos'] [] [] pos) (sTry names h i g gs) := by
  obtain ⟨Ch, hCh, _⟩ := (T.own h hh).ex
  refine PS.imp (ps_try_as (tb := fun W D σ H => ∃ ρ env S, noExc env = true ∧ RelEnv X.cc [] ρ H σ env ∧ Rel X.cc ρ S H ∧ ∀ pn, FinS X.cc pn W ρ H (g env S) D)
    (ts := fun a cls d D σ H => ∀ oe pn, Zc cls d oe → (∃ vs, oe.data = .fields vs) → canS X.cc ((a, oe) :: pn) (fun _ _ _ _ => False) gs D σ H) (Wout := W) hs hf hN hi hln ⟨hg, hdb, .inl hCh⟩ tk (fun W' pn xe tk' hp => ?_) (fun a oe cls d pn hz hv => ?_)) fun D σ H q => ?_
  · exact PSs.imp (hb W' pn xe tk' hp) fun D σ H ⟨ρ, env, S, hx, E, R, q⟩ => ⟨ρ, env, S, E.bare hx, R, q pn⟩
  · exact PSs.imp (hsu a oe pn) fun D σ H q => q oe pn hz hv
  · obtain ⟨ρ, env, S, E, R, q⟩ := q
    unfold sTry at q
    split at q
    · rename_i hx
      refine ⟨ρ, env, S, hx, E.bare hx, R, fun pn => ?_⟩
      cases r : g env S with
      | nx env1 S1 =>
        rw [r] at q
        dsimp only at q
        split at q
        · rename_i h1
          exact fun ρ' σ' H' e' R' E' => q ρ' σ' H' e' R' (E'.bare h1)
        · exact q.elim
      | bk env1 S1 =>
        rw [r] at q
        dsimp only at q
        split at q
        · rename_i h1
          exact fun ρ' σ' H' e' R' E' => q ρ' σ' H' e' R' (E'.bare h1)
        · exact q.elim
      | ct env1 S1 =>
        rw [r] at q
        dsimp only at q
        split at q
        · rename_i h1
          exact fun ρ' σ' H' e' R' E' => q ρ' σ' H' e' R' (E'.bare h1)
        · exact q.elim
      | rt d S1 => rw [r] at q; exact q
      | st => rw [r] at q; exact q
      | er m env1 S1 =>
        rw [r] at q
        dsimp only at q
        split at q
        · rename_i h1
          obtain ⟨hm, h1⟩ := h1
          intro ρ' σ' H' C e' R' E' hC
          refine ⟨subX m h, T.exm m hm C hC h hh _ (.inl ⟨Ch, hCh, rfl⟩), fun hb a ha oe pn' hz hv => ?_, fun hb => ?_⟩
          · rw [if_pos hb] at q
            refine ⟨ρ', _, S1, E'.hold h1 List.mem_cons_self hz.1 hz.2 hv hC, R', ?_⟩
            have q' := FinS.ext e' q
            cases r2 : gs (env1.set i (some (.exc m))) S1 with
            | nx env2 S2 =>
              rw [r2] at q'
              dsimp only [SR.unbind] at q'
              split at q'
              · rename_i h2
                exact fun ρ2 σ2 H2 e2 R2 E2 => q' ρ2 _ H2 e2 R2 (E2.none h2)
              · exact q'.elim
            | bk env2 S2 =>
              rw [r2] at q'
              dsimp only [SR.unbind] at q'
              split at q'
              · rename_i h2
                exact fun ρ2 σ2 H2 e2 R2 E2 => q' ρ2 _ H2 e2 R2 (E2.none h2)
              · exact q'.elim
            | ct env2 S2 =>
              rw [r2] at q'
              dsimp only [SR.unbind] at q'
              split at q'
              · rename_i h2
                exact fun ρ2 σ2 H2 e2 R2 E2 => q' ρ2 _ H2 e2 R2 (E2.none h2)
              · exact q'.elim
            | rt d S2 => rw [r2] at q'; exact q'
            | er m2 env2 S2 => rw [r2] at q'; exact q'.elim
            | st => rw [r2] at q'; exact q'.elim
          · rw [if_neg (by rw [hb]; exact Bool.false_ne_true)] at q
            exact q ρ' σ' H' C e' R' (E'.bare h1) hC
        · exact q.elim
    · exact q.elim
end
def fRev (f : FE) : FE := fun env S => (f env S).bind fun d S => match d with
  | .tup _ ds => .ok (.tup true ds.reverse) S
  | d => match lstD S d with
    | some ds => .ok (.obj S.length) (S ++ [.lst ds.reverse])
    | none => .st
theorem de_rev {X : Cx} {W : WX} {e : Expr} {fa : FE} {k : Nat} {p1 p2 p3 pos : Pos} (he : DE X W e fa) : DE X W (.Subscript e (.Slice none none (some (.UnaryOp .USub (.Constant (.int 1) k p1) p2)) p3) pos) (fRev fa) := by
  refine PE.imp (pe_revG he) fun σ H Q ⟨ρ, env, S, E, R, h⟩ => ?_
  refine ⟨ρ, env, S, E, R, Fin.mono h.bind fun x H1 ⟨ρ1, S1, d, e1, R1, r1, h1⟩ => ?_⟩
  have lst : ∀ ds, lstD S1 d = some ds → Fin X.cc W σ ρ1 H1 (relD X.cc) (newL ds.reverse S1) Q → ∃ a xs, x = .ref a ∧ ((SqL X.K H1 a xs ∧ ∀ p, H1 p = none → Q (.ref p) (upd H1 p (.lst xs.reverse))) ∨ (SqT X.K H1 a xs ∧ ∀ p, H1 p = none → Q (.ref p) (upd H1 p (.tup xs.reverse)))) := fun ds hds h => by
    obtain ⟨p, vs, e, hs, r⟩ := lstD_ok R1 r1 hds
    exact ⟨p, vs, e, .inl ⟨hs, fun l hl => newL_ok R1 r.reverse hl h⟩⟩
  cases r1 with
  | tup hs r =>
    exact ⟨_, _, rfl, .inr ⟨hs.2, fun p hp => h1 _ _ _ (Ext.lay hp) (R1.lay hp) (.tup .new (r.reverse.ext (Ext.lay hp)))⟩⟩
  | il hs r => exact lst _ rfl h1
  | @obj k a hk =>
    dsimp only at h1
    split at h1
    · rename_i ds hS
      exact lst ds hS h1
    · exact h1.elim
  | _ => exact h1.elim
def Free (mg : Str → Option Value) : Prop := ∀ x ∈ freeNames, mg x = none
structure InN (Z : Zk) (N : List Str) (scp : Scope) (X : Cx) : Prop where
  prog : X.prog = Z.P
  wd : X.w = Z.w
  kf : X.K = Z.K
  gl : X.mg = Z.mg
  bs : X.base = Z.base
  n : X.N = N
  sc : X.env.scope = scp
  nd : X.N.Nodup
  fr : Free Z.mg
  un : X.A.units + 200 < cLine
structure InE (Z : Zk) (N : List Str) (sc : Scope) (X : Cx) (W : WX) : Prop extends InN Z N sc X where
  calm : X.calm = true
  tk : Takes X W
  room : Room Z.k X.A
structure InS (Z : Zk) (N : List Str) (sc : Scope) (X : Cx) (W : WX) : Prop extends InE Z N sc X W where
  pass : PassesOwn (model X.prog X.w) X.A X.env X.xe
  stk : X.stack = X.env :: X.outer
  frm : X.env.frame = some X.env.locals
  fns : ∀ x, X.fn x = true
def visB (sc : Scope) (x : Str) : Bool := match sc.names.lookup x with
  | some .local => true
  | some .cell => true
  | some .free => true
  | _ => false
def locB (sc : Scope) (x : Str) : Bool := match sc.names.lookup x with
  | some .local => true
  | some .cell => true
  | _ => false
def glB (sc : Scope) (x : Str) : Bool := match sc.names.lookup x with
  | some .globalImplicit => true
  | _ => false
def plainN (x : Str) : Bool := !(x == ("__debug__" : Str)) && !(x == ("__classdict__" : Str)) && !(x == ("__name__" : Str))
def noStar : Expr → Bool
  | .Starred _ _ => false
  | _ => true
def noComp : Expr → Bool
  | .ListComp _ _ _ _ => false
  | .SetComp _ _ _ _ => false
  | .DictComp _ _ _ _ _ => false
  | _ => true
def noTup : Expr → Bool
  | .Tuple _ _ _ => false
  | .List _ _ => false
  | _ => true
def noCall0 : Expr → Bool
  | .Call _ _ _ _ => false
  | _ => true
theorem vis_by {sc : Scope} {x : Str} (h : visB sc x = true) : Vis sc x := by
  unfold visB at h
  unfold Vis
  split at h <;> simp_all
theorem loc_by {sc : Scope} {x : Str} (h : locB sc x = true) : L2.Loc sc x := by
  unfold locB at h
  unfold L2.Loc
  split at h <;> simp_all
theorem gl_by {sc : Scope} {x : Str} (h : glB sc x = true) : sc.names.lookup x = some .globalImplicit := by
  unfold glB at h
  split at h <;> simp_all
theorem plainN_1 {x : Str} (h : plainN x = true) : (x == ("__debug__" : Str)) = false := by
  unfold plainN at h
  simp at h
  simpa using h.1.1
theorem plainN_2 {x : Str} (h : plainN x = true) : (x == ("__classdict__" : Str)) = false := by
  unfold plainN at h
  simp at h
  simpa using h.1.2
theorem plainN_3 {x : Str} (h : plainN x = true) : x ≠ ("__name__" : Str) := by
  unfold plainN at h
  simp at h
  exact h.2
theorem star_cons {e : Expr} {es : List Expr} {env : PySem.Env} (h : noStar e = true) : starEach (e :: es) env = (false, eval e env) :: starEach es env := by
  cases e <;> first | rfl | cases h
theorem star_no {es : List Expr} {env : PySem.Env} {pos : Pos} (h : es.all noStar = true) : (backTo pos (starEach es env)).any (·.1) = false := by
  induction es with
  | nil => rfl
  | cons e es ih =>
    rw [List.all_cons, Bool.and_eq_true] at h
    rw [star_cons h.1]
    show (false || (backTo pos (starEach es env)).any (·.1)) = false
    rw [ih h.2]
    rfl
theorem star_all {es : List Expr} {env : PySem.Env} {pos : Pos} (h : es.all noStar = true) : (backTo pos (starEach es env)).all (fun x => !x.1) = true := by
  induction es with
  | nil => rfl
  | cons e es ih =>
    rw [List.all_cons, Bool.and_eq_true] at h
    rw [star_cons h.1]
    show (true && (backTo pos (starEach es env)).all (fun x => !x.1)) = true
    rw [ih h.2]
    rfl
theorem noComp_sw {e : Expr} {t : Option Expr} {l : Nat} {env : PySem.Env} (h : noComp e = true) : swapsWith e t l env = pure false := by
  cases e <;> first | rfl | cases h
theorem noComp_sole {e t : Expr} {l : Nat} {env : PySem.Env} (h : noComp e = true) : swapsWithSole [t] e l env = pure false := noComp_sw h
theorem noTup_st {e t : Expr} {env : PySem.Env} (h : noTup t = true ∨ noTup e = true) : swappedStores [t] e env = pure none := by
  cases t <;> first | rfl | (cases e <;> first | rfl | (rcases h with h | h <;> cases h))
theorem noCall_base {e : Expr} {a : Str} {env : PySem.Env} {wh : Sem Value} (h : noCall0 e = true) : attributeBase e a env wh = wh := by
  cases e <;> first | rfl | cases h
section
variable {Z : Zk} {N : List Str} {sc : Scope} {X : Cx} {W : WX} {pos : Pos} {e a b cc : Expr} {es : List Expr} {fa fb fc : FE} {fs : FL} {x : Str}
theorem InN.free (h : InN Z N sc X) (hx : x ∈ freeNames := by decide) : X.mg x = none := by rw [h.gl]; exact h.fr x hx
theorem InN.var (h : InN Z N sc X) {i : Nat} (hi : N[i]? = some x := by rfl) (hv : visB sc x = true := by decide +kernel) (hp : plainN x = true := by decide +kernel) : DE X W (.Name x pos) (fVar i) :=
  de_var (by rw [h.n]; exact hi) (by rw [h.sc]; exact vis_by hv) (plainN_1 hp) (plainN_2 hp)
theorem InN.glb (h : InN Z N sc X) (hg : glB sc x = true) : Gl X x := by
  unfold Gl Env.kindOf
  rw [h.sc]
  exact gl_by hg
theorem InN.add (h : InN Z N sc X) (ha : DE X W a fa) (hb : DE X W b fb) : DE X W (.BinOp a .Add b pos) (fBin dAdd fa fb) := de_bin op_addG dAdd_ok ha hb
theorem InN.sub (h : InN Z N sc X) (ha : DE X W a fa) (hb : DE X W b fb) : DE X W (.BinOp a .Sub b pos) (fBin dSub fa fb) := de_bin op_sub dInt0_ok ha hb
theorem InN.mul (h : InN Z N sc X) (ha : DE X W a fa) (hb : DE X W b fb) : DE X W (.BinOp a .Mult b pos) (fBin dMul fa fb) := de_bin op_mulA dMul_ok ha hb
theorem InN.div (h : InN Z N sc X) (ha : DE X W a fa) (hb : DE X W b fb) : DE X W (.BinOp a .FloorDiv b pos) (fBin dDiv fa fb) := de_bin op_fdivW dDiv_ok ha hb
theorem InN.mod (h : InN Z N sc X) (ha : DE X W a fa) (hb : DE X W b fb) : DE X W (.BinOp a .Mod b pos) (fBin dMod fa fb) := de_bin op_mod dMod_ok ha hb
theorem InN.pow (h : InN Z N sc X) (ha : DE X W a fa) (hb : DE X W b fb) : DE X W (.BinOp a .Pow b pos) (fBin dPow fa fb) := de_bin op_pow dPow_ok ha hb
def dLt := dOrd fun i j => decide (i < j)
def dLe := dOrd fun i j => decide (i ≤ j)
def dGt := dOrd fun i j => decide (j < i)
def dGe := dOrd fun i j => decide (j ≤ i)
inductive CmpD (c : Cc) (X : Cx) : CmpOp → (D → D → Sg → Res D) → Prop
  | mk {op : CmpOp} {o : D → D → Sg → Res D} (r : R2) (h1 : OpR X (compareOp op) r) (h2 : OpD c r o) : CmpD c X op o
theorem InN.lt (h : InN Z N sc X) : CmpD X.cc X .Lt dLt := .mk _ op_lt (dOrd_ok _)
theorem InN.le (h : InN Z N sc X) : CmpD X.cc X .LtE dLe := .mk _ op_le (dOrd_ok _)
theorem InN.gt (h : InN Z N sc X) : CmpD X.cc X .Gt dGt := .mk _ op_gt (dOrd_ok _)
theorem InN.ge (h : InN Z N sc X) : CmpD X.cc X .GtE dGe := .mk _ op_ge (dOrd_ok _)
theorem InN.eq (h : InN Z N sc X) : CmpD X.cc X .Eq dEq := .mk _ (op_eqP (by have := h.un; omega)) dEq_ok
theorem InN.ne (h : InN Z N sc X) : CmpD X.cc X .NotEq dNe := .mk _ (op_neP (by have := h.un; omega)) dNe_ok
theorem InN.is (h : InN Z N sc X) : CmpD X.cc X .Is dIs := .mk _ (OpR.or op_isN op_isBl) dIs_ok
theorem InN.in_ (h : InN Z N sc X) : CmpD X.cc X .In dIn := .mk _ (op_inG (by have := h.un; omega)) dIn_ok
theorem InN.notIn (h : InN Z N sc X) : CmpD X.cc X .NotIn dNotIn := .mk _ (op_notInG (by have := h.un; omega)) dNotIn_ok
variable {op op' : CmpOp} {o o' : D → D → Sg → Res D}
theorem CmpD.ev (h : CmpD X.cc X op o) (ha : DE X W a fa) (hb : DE X W b fb) (hm : behindInMarks op b = false := by with_unfolding_all rfl) : DE X W (.Compare a [op] [b] pos) (fBin o fa fb) := by
  obtain ⟨r, h1, h2⟩ := h
  exact de_cmp h1 h2 ha hb hm
theorem CmpD.tv (h : CmpD X.cc X op o) (ha : DE X W a fa) (hb : DE X W b fb) (hm : behindInMarks op b = false := by with_unfolding_all rfl) : DT X W (.Compare a [op] [b] pos) (fB (fBin o fa fb)) := by
  obtain ⟨r, h1, h2⟩ := h
  exact dt_cmp h1 h2 ha hb hm
theorem CmpD.ce (h : CmpD X.cc X op o) (h' : CmpD X.cc X op' o') (ha : DE X W a fa) (hb : DE X W b fb) (hc : DE X W cc fc) (hm : lastMarks [op, op'] [b, cc] = false := by with_unfolding_all rfl) : DE X W (.Compare a [op, op'] [b, cc] pos) (fChain o o' fa fb fc) := by
  obtain ⟨r, h1, h2⟩ := h
  obtain ⟨r', h1', h2'⟩ := h'
  exact de_chain h1 h1' h2 h2' ha hb hc hm
theorem CmpD.ct (h : CmpD X.cc X op o) (h' : CmpD X.cc X op' o') (ha : DE X W a fa) (hb : DE X W b fb) (hc : DE X W cc fc) (hm : lastMarks [op, op'] [b, cc] = false := by with_unfolding_all rfl) : DT X W (.Compare a [op, op'] [b, cc] pos) (fB (fChain o o' fa fb fc)) := by
  obtain ⟨r, h1, h2⟩ := h
  obtain ⟨r', h1', h2'⟩ := h'
  exact dt_chain h1 h1' h2 h2' ha hb hc hm
theorem InN.cons (h : InN Z N sc X) (he : DE X W e fa) (hr : DA X W es fs) (hs : noStar e = true := by rfl) : DA X W (e :: es) (fCons fa fs) := da_cons he hr (star_cons hs)
theorem InN.ix (h : InN Z N sc X) (ha : DE X W a fa) (hb : DE X W b fb) (hs : plainI b = true := by rfl) : DE X W (.Subscript a b pos) (fBin dIx fa fb) := de_ix (by have := h.un; omega) ha hb hs
variable {p : Pos}
theorem InN.blt (h : InN Z N sc X) {id : String} {r : List V → Hp → VK → Prop} {o : List D → Sg → Res D} (hc : CallR X (.builtin id) r) (ho : CallD X.cc r o) (hv : bootBuiltins x = some (.builtin id)) (ha : DA X W (e :: es) fs)
    (hg : glB sc x = true) (hx : x ∈ freeNames := by decide) (hp : plainN x = true := by decide) (hs : (e :: es).all noStar = true) : DE X W (.Call (.Name x p) (e :: es) [] pos) (fCall o fs) := by
  rw [List.all_cons, Bool.and_eq_true] at hs
  exact de_callB hc ho (h.glb hg) (h.free hx) hv ha (plainN_3 hp) (plainN_1 hp) (star_cons hs.1) (star_no hs.2)
theorem InN.ty (h : InN Z N sc X) {id : String} {r : List V → Hp → VK → Prop} {o : List D → Sg → Res D} (hc : CallR X (.type id) r) (ho : CallD X.cc r o) (hv : bootBuiltins x = some (.type id)) (ha : DA X W (e :: es) fs)
    (hg : glB sc x = true) (hx : x ∈ freeNames := by decide) (hp : plainN x = true := by decide) (hs : (e :: es).all noStar = true) : DE X W (.Call (.Name x p) (e :: es) [] pos) (fCall o fs) := by
  rw [List.all_cons, Bool.and_eq_true] at hs
  exact de_callTy hc ho (h.glb hg) (h.free hx) hv ha (plainN_3 hp) (plainN_1 hp) (star_cons hs.1) (star_no hs.2)
theorem InN.len_ (h : InN Z N sc X) (ha : DA X W (e :: es) fs) (hg : glB sc "len" = true := by decide +kernel) (hs : (e :: es).all noStar = true := by rfl) : DE X W (.Call (.Name "len" p) (e :: es) [] pos) (fCall oLen fs) :=
  h.blt call_lenG oLen_ok (by decide +kernel) ha hg (by decide +kernel) (by decide +kernel) hs
theorem InN.int_ (h : InN Z N sc X) (ha : DA X W (e :: es) fs) (hg : glB sc "int" = true := by decide +kernel) (hs : (e :: es).all noStar = true := by rfl) : DE X W (.Call (.Name "int" p) (e :: es) [] pos) (fCall oInt fs) :=
  h.ty call_intG oInt_ok (by decide +kernel) ha hg (by decide +kernel) (by decide +kernel) hs
theorem InE.all_ (h : InE Z N sc X W) (ha : DA X W (e :: es) fs) (hg : glB sc "all" = true := by decide +kernel) (hs : (e :: es).all noStar = true := by rfl) : DE X W (.Call (.Name "all" p) (e :: es) [] pos) (fCall oAll fs) :=
  h.toInN.blt (cr_all h.calm) oAll_ok (by decide +kernel) ha hg (by decide +kernel) (by decide +kernel) hs
theorem InE.any_ (h : InE Z N sc X W) (ha : DA X W (e :: es) fs) (hg : glB sc "any" = true := by decide +kernel) (hs : (e :: es).all noStar = true := by rfl) : DE X W (.Call (.Name "any" p) (e :: es) [] pos) (fCall oAny fs) :=
  h.toInN.blt (cr_any h.calm) oAny_ok (by decide +kernel) ha hg (by decide +kernel) (by decide +kernel) hs
theorem InN.tuple_ (h : InN Z N sc X) (ha : DA X W (e :: es) fs) (hg : glB sc "tuple" = true := by decide +kernel) (hs : (e :: es).all noStar = true := by rfl) : DE X W (.Call (.Name "tuple" p) (e :: es) [] pos) (fCall oTuple fs) :=
  h.ty call_tuple_of oTuple_ok (by decide +kernel) ha hg (by decide +kernel) (by decide +kernel) hs
theorem InN.isinstance_ (h : InN Z N sc X) (ha : DA X W (e :: es) fs) (hg : glB sc "isinstance" = true := by decide +kernel) (hs : (e :: es).all noStar = true := by rfl) : DE X W (.Call (.Name "isinstance" p) (e :: es) [] pos) (fCall oIsi fs) :=
  h.blt call_isi oIsi_ok (by decide +kernel) ha hg (by decide +kernel) (by decide +kernel) hs
theorem InN.tyv (h : InN Z N sc X) {T : String} (hv : bootBuiltins x = some (.type T) := by decide +kernel) (hg : glB sc x = true := by decide +kernel) (hx : x ∈ freeNames := by decide +kernel) (hp : plainN x = true := by decide +kernel) : DE X W (.Name x pos) (fC (.ty T)) :=
  PE.imp (pe_bltn (v := .ty T) (h.glb hg) (h.free hx) hv rfl (plainN_3 hp) (plainN_1 hp)) fun σ H Q ⟨ρ, env, S, E, R, q⟩ => q.done R (.ty T)
theorem InE.call (h : InE Z N sc X W) {F : Fn} {k n : Nat} (hG : FnK Z.P Z.w Z.K Z.mg Z.base k ⟨x, n, F⟩) (ha : DA X W (e :: es) fs) (hlen : ∀ env S ds S', fs env S = .ok ds S' → ds.length = n) (hk : k ≤ Z.k := by exact Nat.le_of_ble_eq_true rfl) (hg : glB sc x = true := by decide +kernel)
    (hp : plainN x = true := by decide +kernel) (hs : (e :: es).all noStar = true := by rfl) : DE X W (.Call (.Name x p) (e :: es) [] pos) (fCall F fs) := by
  rw [List.all_cons, Bool.and_eq_true] at hs
  refine de_call (k := k) (n := n) ?_ (h.room.mono hk) (h.toInN.glb hg) h.tk ha hlen (plainN_1 hp) (star_cons hs.1) (star_no hs.2)
  rw [h.prog, h.wd, h.kf, h.gl, h.bs]
  exact hG
inductive FsN : FL → Nat → Prop
  | nil : FsN fNil 0
  | cons {fa : FE} {fs : FL} {n : Nat} (t : FsN fs n) : FsN (fCons fa fs) (n + 1)
theorem FsN.len {fs : FL} {n : Nat} (h : FsN fs n) : ∀ env S ds S', fs env S = .ok ds S' → ds.length = n := by
  induction h with
  | nil =>
    intro env S ds S' q
    cases q
    rfl
  | @cons fa fs n t ih =>
    intro env S ds S' q
    unfold fCons at q
    cases r : fa env S with
    | ok d S1 =>
      rw [r, Res.bind_ok] at q
      cases r2 : fs env S1 with
      | ok es S2 =>
        rw [r2, Res.bind_ok] at q
        cases q
        rw [List.length_cons, ih _ _ _ _ r2]
      | er m S2 => rw [r2] at q; cases q
      | st => rw [r2] at q; cases q
    | er m S2 => rw [r] at q; cases q
    | st => rw [r] at q; cases q
theorem few_ok {es : List Expr} (hs : es.all noStar = true) (hl : decide (es.length < 29) = true) : ((backTo pos (starEach es X.env)).all (fun x => !x.1) && (backToKw pos (keywordEach [] X.env)).all (fun x => x.1.isSome)
      && decide (es.length + ([] : List Keyword).length + (if ([] : List Keyword).isEmpty then 0 else 1) < 30)) = true := by
  rw [star_all hs]
  have := of_decide_eq_true hl
  show (true && true && decide (es.length + 0 + 0 < 30)) = true
  simp
  omega
theorem InN.mth (h : InN Z N sc X) {T id : String} {name : Str} {apos : Pos} {r : V → List V → Hp → VK → Prop} {o : D → List D → Sg → Res D} (pa : PlainAttrs T) (slot : Slot T name id) (hty : typeOf (.builtin id) = pure (.type "method_descriptor")) (hm : MtR X id r) (ho : MthD X.cc r o) (ha : DE X W a fa) (hs : DA X W (e :: es) fs)
    (hb : noCall0 a = true) (hn : (e :: es).all noStar = true) (hl : decide ((e :: es).length < 29) = true) (hline : (apos.endLine == pos.line) = true) : DE X W (.Call (.Attribute a name apos) (e :: es) [] pos) (fMth T o fa fs) :=
  de_mth pa slot hty hm ho ha hs (noCall_base hb) (few_ok hn hl) hline (star_cons (by rw [List.all_cons, Bool.and_eq_true] at hn; exact hn.1)) (star_no (by rw [List.all_cons, Bool.and_eq_true] at hn; exact hn.2))
theorem InN.m_append (h : InN Z N sc X) {apos : Pos} (ha : DE X W a fa) (hs : DA X W (e :: es) fs) (hb : noCall0 a = true := by rfl) (hn : (e :: es).all noStar = true := by rfl) (hl : decide ((e :: es).length < 29) = true := by rfl) (hline : (apos.endLine == pos.line) = true := by rfl) :
    DE X W (.Call (.Attribute a "append" apos) (e :: es) [] pos) (fMth "list" oAppend fa fs) := h.mth PySem.F.plainAttrs_list PySem.F.slot_list_append PySem.F.type_list_append mt_append oAppend_ok ha hs hb hn hl hline
theorem InN.m_extend (h : InN Z N sc X) {apos : Pos} (ha : DE X W a fa) (hs : DA X W (e :: es) fs) (hb : noCall0 a = true := by rfl) (hn : (e :: es).all noStar = true := by rfl) (hl : decide ((e :: es).length < 29) = true := by rfl) (hline : (apos.endLine == pos.line) = true := by rfl) :
    DE X W (.Call (.Attribute a "extend" apos) (e :: es) [] pos) (fMth "list" oExtend fa fs) := h.mth PySem.F.plainAttrs_list PySem.F.slot_list_extend PySem.F.type_list_extend mt_extend oExtend_ok ha hs hb hn hl hline
theorem InN.m_insert (h : InN Z N sc X) {apos : Pos} (ha : DE X W a fa) (hs : DA X W (e :: es) fs) (hb : noCall0 a = true := by rfl) (hn : (e :: es).all noStar = true := by rfl) (hl : decide ((e :: es).length < 29) = true := by rfl) (hline : (apos.endLine == pos.line) = true := by rfl) :
    DE X W (.Call (.Attribute a "insert" apos) (e :: es) [] pos) (fMth "list" oInsert fa fs) := h.mth PySem.F.plainAttrs_list PySem.F.slot_list_insert PySem.F.type_list_insert mt_insert oInsert_ok ha hs hb hn hl hline
theorem InN.m_join (h : InN Z N sc X) {apos : Pos} (ha : DE X W a fa) (hs : DA X W (e :: es) fs) (hb : noCall0 a = true := by rfl) (hn : (e :: es).all noStar = true := by rfl) (hl : decide ((e :: es).length < 29) = true := by rfl) (hline : (apos.endLine == pos.line) = true := by rfl) :
    DE X W (.Call (.Attribute a "join" apos) (e :: es) [] pos) (fMth "str" oJoin fa fs) := h.mth PySem.F.plainAttrs_str PySem.F.slot_str_join PySem.F.type_str_join mt_join oJoin_ok ha hs hb hn hl hline
theorem InN.m_split (h : InN Z N sc X) {apos : Pos} (ha : DE X W a fa) (hs : DA X W (e :: es) fs) (hb : noCall0 a = true := by rfl) (hn : (e :: es).all noStar = true := by rfl) (hl : decide ((e :: es).length < 29) = true := by rfl) (hline : (apos.endLine == pos.line) = true := by rfl) :
    DE X W (.Call (.Attribute a "split" apos) (e :: es) [] pos) (fMth "str" oSplit fa fs) := h.mth PySem.F.plainAttrs_str PySem.F.slot_str_split PySem.F.type_str_split mt_split oSplit_ok ha hs hb hn hl hline
theorem InE.blk (h : InE Z N sc X W) {scope : Scope} (s : Shared) (H : Hp) (C : Addr) (cl : List (Str × Addr)) (fp : List Addr) : InE Z N (relS scope sc) (X.blk s H scope (compEnvC scope cl C X.env) fp) (fun _ _ _ _ => False) :=
  ⟨⟨h.prog, h.wd, h.kf, h.gl, h.bs, h.n, by rw [← h.sc]; rfl, h.nd, h.fr, h.un⟩, h.calm, takes0, h.room⟩
theorem InE.nmB (h : InE Z N sc X W) {i : Nat} (hi : N[i]? = some x := by rfl) (hx : sc.names.lookup x = some .local := by decide +kernel) : PG X (.Name x p) ((Tg.one i).t X.K) :=
  pg_name h.nd (by rw [h.n]; exact hi) (.inl (by rw [h.sc]; exact hx)) (.inr (by rw [h.sc]; exact hx))
def noSet : Expr → Bool
  | .Set _ _ _ => false
  | _ => true
theorem noSet_f {e : Expr} {env : PySem.Env} (h : noSet e = true) (x : Value) : foldedSetIterable e env x = pure x := by
  cases e <;> first | rfl | cases h
variable {elt tg iter : Expr} {scope : Scope} {ifs : List Expr} {own : List (Str × Nat)} {fi : FI} {T : Tg} {t : FT} {fe : FE} {use : Bool}
theorem InE.lc (h : InE Z N sc X W) (own : List (Str × Nat)) (hi : DI X W tg iter fi)
    (hg : ∀ (s : Shared) (H : Hp) (C : Addr) (cl : List (Str × Addr)) (fp : List Addr), PG (X.blk s H scope (compEnvC scope cl C X.env) fp) tg (T.t X.K))
    (ht : ∀ (s : Shared) (H : Hp) (C : Addr) (cl : List (Str × Addr)) (fp : List Addr), PTs (X.blk s H scope (compEnvC scope cl C X.env) fp) ifs (canT X.cc [] (fun _ _ _ _ => False) t))
    (he : ∀ (s : Shared) (H : Hp) (C : Addr) (cl : List (Str × Addr)) (fp : List Addr), DE (X.blk s H scope (compEnvC scope cl C X.env) fp) (fun _ _ _ _ => False) elt fe)
    (hb : blkC N sc scope own = true := by decide +kernel) (hown : ∀ i ∈ T.is, i ∈ own.map (·.2) := by decide) (hs : noSet iter = true := by rfl) : DE X W (.ListComp elt [⟨tg, iter, ifs, 0⟩] scope pos) (fLc use (own.map (·.2)) fi T t fe) :=
  de_lc h.calm h.nd hi (by rw [h.n, h.sc]; exact blkOk_by hb) hown hg ht he (noSet_f hs)
variable {g g2 : FS} {st : Stmt} {body : List Stmt} {px : Pos}
theorem InE.nm (h : InS Z N sc X W) {i : Nat} (hi : N[i]? = some x := by rfl) (hx : locB sc x = true := by decide +kernel) : DG X (.Name x p) (gNm i) :=
  dg_name h.nd (by rw [h.n]; exact hi) (by rw [h.sc]; exact loc_by hx) (.inl (h.fns x))
theorem InS.set (h : InS Z N sc X W) {i : Nat} (he : DE X W e fa) (hi : N[i]? = some x := by rfl) (hx : locB sc x = true := by decide +kernel) (hc : noComp e = true := by rfl) : DS X W (.Assign [.Name x px] e pos) (sAsg fa (gNm i)) :=
  ds_set h.nd (by rw [h.n]; exact hi) (by rw [h.sc]; exact loc_by hx) he (noComp_sw hc) (.inl (h.fns x))
theorem NmTs.mk (h : InS Z N sc X W) {i : Nat} {is : List Nat} (t : NmTs X es is) (hi : N[i]? = some x := by rfl) (hx : locB sc x = true := by decide +kernel) : NmTs X (.Name x px :: es) (i :: is) :=
  .cons (by rw [h.n]; exact hi) (by rw [h.sc]; exact loc_by hx) (.inl (h.fns x)) t
theorem InS.tup (h : InS Z N sc X W) {is : List Nat} {k : Nat} (t : NmTs X es is) : DG X (.Tuple es k px) (gTupN is) := dg_tup h.calm h.nd t
theorem InS.setIx (h : InS Z N sc X W) {o i : Expr} {fo fi fv : FE} (hv : DE X W e fv) (ho : DE X W o fo) (hi : DE X W i fi) (hc : noComp e = true := by rfl)
    (ha : ∀ v, assign (.Subscript o i px) X.env v = (do
      let ov ← holding [v] (eval o X.env)
      let iv ← holding [v, ov] (eval i X.env)
      standAt px
      holding [v, ov, iv] (setItem ov iv v)
      release [v, ov, iv] []) := by intro v; rfl) : DS X W (.Assign [.Subscript o i px] e pos) (sSetIx fo fi fv) :=
  ds_setIx (by have := h.un; omega) ho hi hv (noComp_sole hc) (noTup_st (.inl rfl)) ha
theorem InS.aug (h : InS Z N sc X W) {op : Operator} {r : R2} {o : D → D → Sg → Res D} {i : Nat} (hr : PIp X op r) (ho : OpD X.cc r o) (he : DE X W e fa) (hi : N[i]? = some x := by rfl) (hx : locB sc x = true := by decide +kernel) : DS X W (.AugAssign (.Name x px) op e pos) (sAug i o fa) :=
  ds_aug h.nd (by rw [h.n]; exact hi) (by rw [h.sc]; exact loc_by hx) he hr ho (.inl (h.fns x))
theorem InS.expr (h : InS Z N sc X W) (he : DE X W e fa) (hc : noComp e = true := by rfl) : DS X W (.Expr e pos) (sDrop fa) := ds_expr he (noComp_sw hc)
theorem InS.raise (h : InS Z N sc X W) {m : Str} {j : Nat} {p2 pos' : Pos} (hx : ExcK Z.K Z.mg x) (hg : glB sc x = true := by decide +kernel) (hp : plainN x = true := by decide +kernel) : DS X W (.Raise (some (.Call (.Name x p) [.Constant (.str m) j p2] [] pos')) none pos) (sRaise x) :=
  ds_raise h.calm h.tk (by rw [h.kf, h.gl]; exact hx) (h.toInN.glb hg) (plainN_1 hp)
theorem InS.whil (h : InS Z N sc X W) {t : FT} (hc : DT X W e t) (hb : DSs X W body g) : DS X W (.While e body [] pos) (sWhile t g) := ds_while h.pass hc hb
theorem InS.tr (h : InS Z N sc X W) {W' : WX} {pn : List (Addr × Obj)} {xe : Value → Shared → Prop} (tk : Takes (X.tr pn xe) W') (hp : PassesOwn (model X.prog X.w) X.A X.env xe) : InS Z N sc (X.tr pn xe) W' :=
  ⟨⟨⟨h.prog, h.wd, h.kf, h.gl, h.bs, h.n, h.sc, h.nd, h.fr, h.un⟩, h.calm, tk, h.room⟩, hp, h.stk, h.frm, h.fns⟩
theorem InS.suite (h : InS Z N sc X W) (a : Addr) (pn : List (Addr × Obj)) : InN Z N sc (X.suite a pn) := ⟨h.prog, h.wd, h.kf, h.gl, h.bs, h.n, h.sc, h.nd, h.fr, h.un⟩
theorem InS.suF (h : InS Z N sc X W) (a : Addr) (pn : List (Addr × Obj)) : ∀ x, (X.suite a pn).fn x = true := h.fns
theorem InN.setS (h : InN Z N sc X) (hf : ∀ x, X.fn x = true) {i : Nat} (he : DE X W e fa) (hi : N[i]? = some x := by rfl) (hx : locB sc x = true := by decide +kernel) (hc : noComp e = true := by rfl) : DS X W (.Assign [.Name x px] e pos) (sAsg fa (gNm i)) :=
  ds_set h.nd (by rw [h.n]; exact hi) (by rw [h.sc]; exact loc_by hx) he (noComp_sw hc) (.inl (hf x))
theorem InN.isE (h : InN Z N sc X) {names : List Str} (T : ExcT Z.K Z.mg names) {i : Nat} {y : Str} {p2 p3 : Pos} (hi : N[i]? = some x := by rfl) (hv : visB sc x = true := by decide +kernel) (hp : plainN x = true := by decide +kernel)
    (hg : glB sc "isinstance" = true := by decide +kernel) (hgy : glB sc y = true := by decide +kernel) (hpy : plainN y = true := by decide +kernel) (hy : y ∈ ("ValueError" : Str) :: names := by decide +kernel) :
    DE X W (.Call (.Name "isinstance" p) [.Name x p2, .Name y p3] [] pos) (fIsE names i [y]) :=
  de_isE (by rw [h.kf, h.gl]; exact T) (by rw [h.n]; exact hi) (by rw [h.sc]; exact vis_by hv) (plainN_1 hp) (plainN_2 hp) (h.glb hg) h.free (h.glb hgy) (plainN_1 hpy) hy (fun _ => by rename_i e; subst e; exact h.free)
theorem InN.isEs (h : InN Z N sc X) {names : List Str} (T : ExcT Z.K Z.mg names) {i kk : Nat} {ys : List (Str × Pos)} {p2 p3 : Pos} (hi : N[i]? = some x := by rfl) (hv : visB sc x = true := by decide +kernel) (hp : plainN x = true := by decide +kernel)
    (hg : glB sc "isinstance" = true := by decide +kernel) (hys : (ys.all fun y => glB sc y.1 && plainN y.1 && (("ValueError" : Str) :: names).elem y.1) = true := by decide +kernel) (hl : ys.length ≤ 1000 := by decide) :
    DE X W (.Call (.Name "isinstance" p) [.Name x p2, .Tuple (ys.map fun y => .Name y.1 y.2) kk p3] [] pos) (fIsE names i (ys.map (·.1))) :=
  de_isEs (by rw [h.kf, h.gl]; exact T) (by rw [h.n]; exact hi) (by rw [h.sc]; exact vis_by hv) (plainN_1 hp) (plainN_2 hp) (h.glb hg) h.free h.free (fun y hy => by
    have q := List.all_eq_true.mp hys y hy
    rw [Bool.and_eq_true, Bool.and_eq_true] at q
    exact ⟨h.glb q.1.1, plainN_1 q.1.2, List.elem_iff.mp q.2⟩) hl
theorem InN.range1 (h : InN Z N sc X) {q : Pos} (ha : DA X W [a] fs) (hg : glB sc "range" = true := by decide +kernel) (hs : noStar a = true := by rfl) : DI X W tg (.Call (.Name "range" p) [a] [] q) (fIt iRange1 fs) :=
  di_range1 (h.glb hg) h.free ha (star_cons hs)
theorem InN.enum (h : InN Z N sc X) {q tq : Pos} {elts : List Expr} {kk : Nat} (ha : DA X W [a] fs) (hg : glB sc "enumerate" = true := by decide +kernel) (hs : noStar a = true := by rfl) : DI X W (.Tuple elts kk tq) (.Call (.Name "enumerate" p) [a] [] q) (fIt iEnumD fs) :=
  di_enum (h.glb hg) h.free ha (star_cons hs)
theorem InS.for_ (h : InS Z N sc X W) {f : FG} (hi : DI X W tg iter fi) (hg : DG X tg f) (hb : DSs X W body g) (hs : noSet iter = true := by rfl) : DS X W (.For tg iter body [] pos) (sFor fi f g) := ds_for h.pass h.calm hi hg hb (noSet_f hs)
theorem InS.par (h : InS Z N sc X W) {i j : Nat} {x y : Str} {px py pt pt2 : Pos} {kt k2 : Nat} (ha : DA X W [a, b] fs) (hi : N[i]? = some x := by rfl) (hj : N[j]? = some y := by rfl) (hij : i ≠ j := by decide)
    (hx : sc.names.lookup x = some .local := by decide +kernel) (hy : sc.names.lookup y = some .local := by decide +kernel)
    (hw : swappedStores [.Tuple [.Name x px, .Name y py] kt pt] (.Tuple [a, b] k2 pt2) X.env = pure (some [x, y])) :
    DS X W (.Assign [.Tuple [.Name x px, .Name y py] kt pt] (.Tuple [a, b] k2 pt2) pos) (sPar [i, j] fs) :=
  ds_par h.calm h.nd (by rw [h.n]; exact hi) (by rw [h.n]; exact hj) hij (by rw [h.sc]; exact hx) (by rw [h.sc]; exact hy) ha hw rfl
theorem sw_two {env : PySem.Env} {x y : Str} {px py pt pt2 : Pos} {kt k2 : Nat} (hk : sc.kind = .function) (he : env.scope = sc) (hx : sc.names.lookup x = some .local) (hy : sc.names.lookup y = some .local) (hl : py.line = px.line) (hxy : x ≠ y) (h1 : noStar a = true) (h2 : noStar b = true)
    (hf : ([a, b].all (foldedForSure 8)) = false) (hc : ([a, b].all (constantsAlone 8)) = false) : swappedStores [.Tuple [.Name x px, .Name y py] kt pt] (.Tuple [a, b] k2 pt2) env = pure (some [x, y]) := by
  unfold swappedStores
  have hb : env.blockKind = .function := by
    unfold Env.blockKind
    rw [he, hk]
    rfl
  have s1 : ([a, b].any fun | .Starred .. => true | _ => false) = false := by
    cases a <;> first | (cases h1; done) | (cases b <;> first | rfl | cases h2)
  have kx : env.kindOf x = some .local := by unfold Env.kindOf; rw [he]; exact hx
  have ky : env.kindOf y = some .local := by unfold Env.kindOf; rw [he]; exact hy
  have exy : (x == y) = false := by simpa using hxy
  have eyx : (y == x) = false := by simpa using Ne.symm hxy
  have lx : ((Expr.Name x px).pos.line) = px.line := rfl
  have d2 : [x, y].eraseDups.length = 2 := by
    simp [List.eraseDups_cons, eyx, exy]
  simp [hb, s1, kx, ky, hl, hf, hc, lx, d2]
  rintro (q | q)
  · split at q
    · cases h1
    · cases q
  · split at q
    · cases h2
    · cases q
end
theorem fn_in {P : Program} {w : World} {K : PySem.W.Frag} {mg : Str → Option Value} {base : Heap} {x qual : Str} {st : Stmt} {f : Addr} {fd : FuncData} {N ps : List Str} {k : Nat} {g : FS} (fr : Free mg) (F : Fun K x qual st f fd) (S : FnScope N ps (defScope st)) (hm : mg x = some (.ref f)) (b : Binds K fd ps [])
    (hb : ∀ X W, InS ⟨P, w, K, mg, base, k⟩ N (defScope st) X W → DSs X W (defBody st) g) : FnK P w K mg base (k + 1) ⟨x, ps.length, runF N.length g⟩ :=
  fn_def F S hm b fun X W h _ => hb X W ⟨⟨⟨h.prog, h.wd, h.kf, h.gl, h.bs, h.n, h.sc, h.nd, fr, by have := h.room.un; omega⟩, h.calm, h.tk, h.room⟩, h.pass, h.stk, h.frm, h.fn⟩
theorem fn_inO {P : Program} {w : World} {K : PySem.W.Frag} {mg : Str → Option Value} {base : Heap} {x qual : Str} {st : Stmt} {f : Addr} {fd : FuncData} {N ps : List Str} {k : Nat} {g : FS} (fr : Free mg) (F : Fun K x qual st f fd) (S : FnScope N ps (defScope st))
    (hb : ∀ X W, InS ⟨P, w, K, mg, base, k⟩ N (defScope st) X W → DSs X W (defBody st) g) : FnOk P w K mg base (L2.CX P w) (k + 1) f fd ps (spD ⟨K, mg, w⟩ ps.length (runF N.length g)) :=
  fn_okD F S fun X W h _ => hb X W ⟨⟨⟨h.prog, h.wd, h.kf, h.gl, h.bs, h.n, h.sc, h.nd, fr, by have := h.room.un; omega⟩, h.calm, h.tk, h.room⟩, h.pass, h.stk, h.frm, h.fn⟩
section
variable {X : Cx} {W : WX} {pos : Pos} {keys : List (Option Expr)} {values : List Expr} {fs : List (FE × FE)}
theorem RP.length {κ : Type} {c : Cc} {ρ : List Addr} {H : Hp} {vs : List (κ × V)} {ds : List (κ × D)} (r : RP c ρ H vs ds) : vs.length = ds.length := by
  induction r with
  | nil => rfl
  | cons _ _ ih => simp [ih]
end
section
variable {Z : Zk} {N : List Str} {sc : Scope} {X : Cx} {W : WX} {pos p : Pos} {e : Expr} {es : List Expr} {fs : FL}
end
end G
namespace PySem
open Sem (wp)
open PySem.W
end PySem
namespace G
open PySem PySem.Spec L2 PyProof.Rows HT
section
variable {Z : Zk} {N : List Str} {sc : Scope} {X : Cx} {W : WX} {pos p : Pos} {e : Expr} {es : List Expr} {fs : FL}
end
end G
namespace G
open PySem PySem.Spec L2
section
variable {c : Cc} {ρ : List Addr} {H : Hp}
end
section
variable (P : Program) (w : World) (K : PySem.W.Frag) (mg : Str → Option Value) (base : Heap)
end
section
variable {P : Program} {w : World} {K : PySem.W.Frag} {mg : Str → Option Value} {base : Heap} {k n : Nat} {x y : Str} {F F' : Fn}
end
section
variable {X : Cx} {W : WX} {a b o e : Expr} {es : List Expr} {pos p apos pos' : Pos} {fa fo fv : FE} {fs : FL} {n f m x : Str} {k j : Nat} {F : Fn}
end
section
variable {Z : Zk} {N : List Str} {sc : Scope} {X : Cx} {W : WX} {a b o e : Expr} {es : List Expr} {pos p apos pos' : Pos} {fa fo fv : FE} {fs : FL} {n f m x : Str} {k j : Nat} {F : Fn}
end
theorem kd_find {K : PySem.W.Frag} {p : Addr} {w : World} {x : Str} : ∀ {es : List DictEntry} {ks : List Str}, es.map He.keyOf = He.keysIn w.params ks → (match es.find? (·.key.isStr x) with
    | some e => (some (some e.val) : Option (Option Value))
    | none => if es.any (·.refKey) then none else some none) = some (((ks.zip (es.map (·.val))).find? fun q => decide (q.1 = x)).map (·.2))
  | [], [], _ => rfl
  | [], _ :: _, h => by cases h
  | e :: es, [], h => by cases h
  | e :: es, k :: ks, h => by
    have h1 : He.keyOf e :: es.map He.keyOf = some (k, PyData.keyHash w.params k) :: He.keysIn w.params ks := h
    injection h1 with h2 h3
    have ih := kd_find (K := K) (p := p) (x := x) h3
    have hk : ∃ t, e.key = .str k t := by
      unfold He.keyOf at h2
      split at h2
      · rename_i y t q
        have e : y = k := congrArg Prod.fst (Option.some.inj h2)
        rw [e] at q
        exact ⟨t, q⟩
      · cases h2
    obtain ⟨t, hk⟩ := hk
    have hi : e.key.isStr x = decide (k = x) := by
      rw [hk]
      show (k == x) = decide (k = x)
      by_cases q : k = x <;> simp [q]
    have hr : e.refKey = false := by
      unfold DictEntry.refKey
      rw [hk]
    by_cases q : k = x
    · simp [List.find?_cons, hi, q]
    · simp only [List.find?_cons, hi, decide_eq_false q, List.any_cons, hr, Bool.false_or, List.zip_cons_cons, List.map_cons] at ih ⊢
      exact ih
theorem KdAt.ns {K : PySem.W.Frag} {w : World} {p : Addr} {ks : List Str} {vs : List V} (h : KdAt K w p ks vs) (x : Str) : ∃ us es n, KDict K w p es n ∧ Vals vs us ∧ PySem.W.nsIn K p x = some (((ks.zip us).find? fun q => decide (q.1 = x)).map (·.2)) := by
  obtain ⟨es, n, D, h1, h2⟩ := h
  refine ⟨_, es, n, D, h2, ?_⟩
  unfold PySem.W.nsIn
  rw [D.at_]
  exact kd_find (K := K) (p := p) h1
section
variable {X : Cx}
end
section
variable {X : Cx} {W : WX} {a b cc : Expr} {pos apos : Pos} {fa fb fc : FE}
end
section
variable {Z : Zk} {N : List Str} {sc : Scope} {X : Cx} {W : WX} {a b cc : Expr} {es : List Expr} {pos p apos : Pos} {fa fb fc : FE}
end
section
variable {X : Cx} {W : WX} {ef e : Expr} {es : List Expr} {pos p : Pos} {fe : FE} {fs : FL} {k n : Nat} {T : List (Str × Fn)} {x : Str}
end
section
variable {c : Cc} {ρ : List Addr} {H : Hp}
end
section
variable {X : Cx} {W : WX} {e : Expr} {es : List Expr} {kws : List Keyword} {pos p : Pos} {fs fks : FL} {k n np : Nat} {x : Str} {F : Fn} {ps ks : List Str} {is : List Nat} {st : Stmt} {dvs : List D}
end
section
variable {Z : Zk} {N : List Str} {sc : Scope} {X : Cx} {W : WX} {ef e : Expr} {es : List Expr} {kws : List Keyword} {pos p : Pos} {fe : FE} {fs fks : FL} {k n np : Nat} {x : Str} {F : Fn} {ps ks : List Str} {is : List Nat} {st : Stmt} {dvs : List D} {T : List (Str × Fn)}
end
section
variable {P : Program} {w : World} {K : PySem.W.Frag} {mg : Str → Option Value} {base : Heap} {x qual : Str} {st : Stmt} {f : Addr} {fd : FuncData} {N ps : List Str} {k : Nat} {g : FS}
end
structure InU (Z : Zk) (N : List Str) (sc : Scope) (X : Cx) : Prop extends InN Z N sc X where
  fns : ∀ x, X.fn x = true
  roomH : L2H.RoomH Z.k X.A
section
variable {P : Program} {w : World} {K : PySem.W.Frag} {mg : Str → Option Value} {base : Heap} {x qual : Str} {st : Stmt} {f : Addr} {fd : FuncData} {N ps : List Str} {k : Nat} {g : FS}
end
section
variable {X : Cx} {W : WX} {pos p p2 : Pos} {x y : Str} {k i : Nat} {F : FX}
end
section
variable {Z : Zk} {N : List Str} {sc : Scope} {X : Cx} {W : WX} {pos p p2 : Pos} {x y : Str} {k i : Nat} {F : FX} {body : List Stmt} {g : FS}
theorem InS.suU (h : InS Z N sc X W) (a : Addr) (pn : List (Addr × Obj)) : InU Z N sc (X.suite a pn) := ⟨h.suite a pn, h.suF a pn, ⟨h.room.dp, h.room.un⟩⟩
theorem InS.tryU (h : InS Z N sc X W) {names : List Str} (T : ExcT Z.K Z.mg names) {y n : Str} {np pos' : Pos} {b₀ : Stmt} {suite : List Stmt} {gs : FS} {i : Nat}
    (hb : ∀ X W, InS Z N sc X W → DSs X W body g) (hsu : ∀ X W, InU Z N sc X → DSs X W (b₀ :: suite) gs)
    (hi : N[i]? = some n := by rfl) (hn : sc.names.lookup n = some .local := by decide +kernel) (hy : y ∈ names := by decide +kernel) (hg : glB sc y = true := by decide +kernel) (hp : plainN y = true := by decide +kernel) :
    DS X W (.Try body [.ExceptHandler (some (.Name y np)) (some n) (b₀ :: suite) pos'] [] [] pos) (sTry names y i g gs) :=
  ds_try (by rw [h.kf, h.gl]; exact T) h.stk h.frm h.nd (by rw [h.n]; exact hi) (by unfold Env.kindOf; rw [h.sc]; exact hn) hy (h.toInN.glb hg) (plainN_1 hp) h.tk
    (fun W pn xe tk hp => hb _ _ (h.tr tk hp)) (fun a oe pn => hsu _ _ (h.suU a _))
end
section
variable {X : Cx}
end
section
variable {c : Cc}
end
section
variable {Z : Zk} {N : List Str} {sc : Scope} {X : Cx} {W : WX} {a e : Expr} {es : List Expr} {pos p apos : Pos} {fa : FE} {fs : FL}
end
end G
namespace L2
open PySem PySem.Spec PyProof.Rows
end L2
namespace G
open PySem PySem.Spec L2
section
variable {X : Cx} {W : WX} {e tg a : Expr} {pos p : Pos} {fs : FL} {elts : List Expr} {kk : Nat} {tpos : Pos}
end
end G
namespace G
open PySem PySem.Spec L2 PyProof.Rows
section
variable {X : Cx} {W : WX} {a b : Expr} {fa fb : FE} {pos : Pos}
theorem RL.rep {c : Cc} {ρ : List Addr} {H : Hp} {vs : List V} {ds : List D} (r : RL c ρ H vs ds) : ∀ k : Nat, RL c ρ H (List.replicate k vs).flatten (List.replicate k ds).flatten
  | 0 => .nil
  | k + 1 => by
    rw [List.replicate_succ, List.replicate_succ, List.flatten_cons, List.flatten_cons]
    exact r.append (RL.rep r k)
def dMulL (a b : D) (S : Sg) : Res D := match a, b with
  | .obj k, .int n => match S[k]? with
    | some (.lst xs) => if -(2 ^ 62) ≤ n ∧ n < 2 ^ 62 ∧ xs.length * n.toNat ≤ sizeLine then .ok (.obj S.length) (S ++ [.lst (List.replicate n.toNat xs).flatten]) else .st
    | _ => .st
  | _, _ => .st
theorem dMulL_ok {c : Cc} : OpD c rRep dMulL := by
  intro W σ ρ S H x y a b Q R r1 r2 q
  unfold dMulL at q
  split at q
  · rename_i k n
    cases r1 with
    | obj hk =>
      cases r2
      split at q
      · rename_i xs hx
        split at q
        · rename_i hz
          obtain ⟨a', ha', vs, e, l1⟩ := R.at_ k _ hx
          rw [hk] at ha'; cases ha'
          refine ⟨_, _, _, rfl, rfl, e, by omega, by omega, by rw [l1.len]; exact hz.2.2, fun p hp => ?_⟩
          refine q _ _ _ (Ext.put hp) (R.put hp ⟨_, upd_same, (l1.rep _).ext (Ext.put hp)⟩) (.obj ?_)
          rw [← R.len]
          simp
        · exact q.elim
      · exact q.elim
  · exact q.elim
theorem InN.mulL {Z : Zk} {N : List Str} {sc : Scope} (h : InN Z N sc X) (ha : DE X W a fa) (hb : DE X W b fb) : DE X W (.BinOp a .Mult b pos) (fBin dMulL fa fb) := de_bin op_rep dMulL_ok ha hb
end
end G
namespace G
open PySem PySem.Spec L2
section
variable {X : Cx} {W : WX} {o1 i1 o2 i2 a b : Expr} {pos p1 p2 pt pt2 : Pos} {kt k2 : Nat} {fo1 fi1 fo2 fi2 : FE} {fs : FL}
end
section
variable {Z : Zk} {N : List Str} {sc : Scope} {X : Cx} {W : WX} {o1 i1 o2 i2 a b e : Expr} {pos p1 p2 pt pt2 : Pos} {kt k2 : Nat} {fo1 fi1 fo2 fi2 fa : FE} {fs : FL}
end
section
variable {Z : Zk} {N : List Str} {sc : Scope} {X : Cx} {W : WX} {pos px : Pos} {es vs : List Expr} {k2 : Nat} {p2 : Pos} {fa : FE}
end
end G
namespace G
open PySem PySem.Spec L2 PyProof.Rows
section
variable {Z : Zk} {N : List Str} {sc : Scope} {X : Cx} {W : WX} {e : Expr} {es : List Expr} {fs : FL} {p pos : Pos} {k : Nat}
end
section
variable {X : Cx} {W : WX} {e v1 v2 : Expr} {rest es : List Expr} {pos : Pos} {fe : FE} {fs : List FE}
end
section
variable {Z : Zk} {N : List Str} {sc : Scope} {X : Cx} {W : WX} {e a : Expr} {es : List Expr} {fs : FL} {fa : FE} {p pos apos : Pos}
end
def repS (a : Str) (k : Int) : Str := ⟨(List.replicate k.toNat a.cps).foldl (· ++ ·) #[]⟩
def rMulS : R2 := fun x y H Q => ∃ (a : Str) (k : Int), x = .str a ∧ y = .int k ∧ 1 ≤ k ∧ k ≤ 100 ∧ 1 ≤ a.length ∧ a.length ≤ 100 ∧ Q (.str (repS a k)) H
theorem repS_one (a : Str) : repS a 1 = a := by
  unfold repS
  simp
theorem foldl_size : ∀ (l : List (Array Nat)) (acc : Array Nat) (m : Nat), (∀ x ∈ l, x.size = m) → (l.foldl (· ++ ·) acc).size = acc.size + l.length * m
  | [], acc, m, _ => by simp
  | x :: l, acc, m, h => by
    rw [List.foldl_cons, foldl_size l _ m fun y hy => h y (List.mem_cons_of_mem _ hy), Array.size_append, h x (by simp), List.length_cons, Nat.add_mul]
    omega
theorem repS_len (a : Str) (k : Int) : (repS a k).length = k.toNat * a.length := by
  show ((List.replicate k.toNat a.cps).foldl (· ++ ·) #[]).size = _
  rw [foldl_size _ _ a.length (fun x hx => by rw [(List.mem_replicate.mp hx).2]; rfl)]
  simp
theorem op_mulS {X : Cx} : OpR X (binaryOp .Mult) rMulS := by
  intro pins s σ H x y v u Q I rx ry h
  obtain ⟨a, k, rfl, rfl, k1, k2, a1, a2, q⟩ := h
  obtain ⟨t, rfl⟩ := rx
  obtain ⟨t2, rfl⟩ := ry
  have hlen : a.length * k.toNat ≤ 100 * 100 := Nat.mul_le_mul a2 (by omega)
  refine PySem.P.mul_str ?_ (fun _ _ => ?_) (fun _ _ => ?_) ?_
  · rw [decide_eq_false (by omega), decide_eq_false (by omega)]; rfl
  · have e : (100 : Int) ≤ (2 ^ 63 - 1) / k := Int.le_ediv_of_mul_le (by omega) (by omega)
    omega
  · show decide (a.length * k.toNat > sizeLine) = false
    rw [decide_eq_false_iff_not]
    unfold sizeLine
    omega
  · rw [if_neg (by omega)]
    have hl : (repS a k).length ≤ sizeLine := by
      rw [repS_len, Nat.mul_comm]
      unfold sizeLine
      omega
    by_cases h1 : (k == 1 || a.length == 0) = true
    · rw [if_pos h1]
      have h1 : k = 1 := by
        simp only [Bool.or_eq_true, beq_iff_eq] at h1
        omega
      subst h1
      rw [repS_one] at q
      exact ⟨.str a, H, I, ⟨t, rfl⟩, q⟩
    · rw [if_neg h1]
      exact ⟨hl, .str (repS a k), H, I.tok _, ⟨_, rfl⟩, q⟩
def dMulS (a b : D) (S : Sg) : Res D := match a, b with
  | .str x, .int k => if 1 ≤ k ∧ k ≤ 100 ∧ 1 ≤ x.length ∧ x.length ≤ 100 then .ok (.str (repS x k)) S else .st
  | _, _ => .st
theorem dMulS_ok {c : Cc} : OpD c rMulS dMulS := by
  intro W σ ρ S H x y a b Q R r1 r2 q
  unfold dMulS at q
  split at q
  · rename_i z k
    split at q
    · rename_i h
      cases r1
      cases r2
      exact ⟨_, _, rfl, rfl, h.1, h.2.1, h.2.2.1, h.2.2.2, q.done R (.str _)⟩
    · exact q.elim
  · exact q.elim
theorem InN.mulS {Z : Zk} {N : List Str} {sc : Scope} {X : Cx} {W : WX} {a b : Expr} {fa fb : FE} {pos : Pos} (h : InN Z N sc X) (ha : DE X W a fa) (hb : DE X W b fb) : DE X W (.BinOp a .Mult b pos) (fBin dMulS fa fb) := de_bin op_mulS dMulS_ok ha hb
end G
namespace G
open PySem PySem.Spec L2
section
variable {prog : Program} {w : World} {A : Around} {E : Value → Shared → Prop} {s : Shared}
set_option maxRecDepth 100000 in
end
section
variable {X : Cx} {o e : Expr} {lo hi : Option Expr} {pos p2 : Pos} {to : TE} {tl th : TO}
end
section
variable {X : Cx} {W : WX} {o e : Expr} {lo hi : Option Expr} {pos pos' p2 : Pos} {fo fv : FE} {fl fh : FO}
end
section
variable {Z : Zk} {N : List Str} {sc : Scope} {X : Cx} {W : WX} {o e : Expr} {lo hi : Option Expr} {pos px p2 : Pos} {fo fv : FE} {fl fh : FO}
end
section
variable {Z : Zk} {N : List Str} {sc : Scope} {X : Cx} {W : WX} {a e : Expr} {es : List Expr} {pos p apos : Pos} {fa : FE} {fs : FL}
end
end G
namespace G
open PySem PySem.Spec L2 PyProof.Rows
section
variable {Z : Zk} {N : List Str} {sc : Scope} {X : Cx} {W : WX} {a e : Expr} {es : List Expr} {pos p apos : Pos} {fa : FE} {fs : FL}
end
def sRaiseE (x : Str) (fe : FE) : FS := fun env S => (fe env S).s env fun _ S => .er x env S
@[simp] theorem sRaiseE_e (x : Str) (fe : FE) {env : Env} {S : Sg} : sRaiseE x fe env S = (fe env S).s env fun _ S => .er x env S := id rfl
section
variable {X : Cx} {W : WX} {x : Str} {e : Expr} {pos p pos' : Pos} {fe : FE}
theorem ds_raise1 (hc : X.calm = true) (tk : Takes X W) (hx : ExcK X.K X.mg x) (hg : Gl X x) (hdb : (x == ("__debug__" : Str)) = false) (he : DE X W e fe) (hs : starEach [e] X.env = (false, eval e X.env) :: starEach [] X.env) :
    DS X W (.Raise (some (.Call (.Name x p) [e] [] pos')) none pos) (sRaiseE x fe) := by
  obtain ⟨C, h1, h2, h3, h4, h5⟩ := hx.ex
  refine PS.imp (ps_raise hc tk (SkE.pmk_own1 PySem.F.excBase_ValueError h2 h1 h3 (raises_own h4 h5) hg he hs hdb)) fun D σ H ⟨ρ, env, S, E, R, h⟩ => ?_
  exact ⟨ρ, env, S, E, R, Fin.mono (h.bind E) fun y H1 ⟨ρ1, S1, d, e1, R1, r1, h1'⟩ => h1' ρ1 σ H1 C .refl R1 (E.ext e1) h1⟩
end
section
variable {Z : Zk} {N : List Str} {sc : Scope} {X : Cx} {W : WX} {x : Str} {e a : Expr} {es : List Expr} {pos p pos' apos : Pos} {fe fa : FE} {fs : FL}
theorem InS.raise1 (h : InS Z N sc X W) (hx : ExcK Z.K Z.mg x) (he : DE X W e fe) (hg : glB sc x = true := by decide +kernel) (hp : plainN x = true := by decide +kernel) (hn : noStar e = true := by rfl) : DS X W (.Raise (some (.Call (.Name x p) [e] [] pos')) none pos) (sRaiseE x fe) :=
  ds_raise1 h.calm h.tk (by rw [h.kf, h.gl]; exact hx) (h.toInN.glb hg) (plainN_1 hp) he (star_cons hn)
theorem InE.nmC (h : InE Z N sc X W) {scope : Scope} (s : Shared) (H : Hp) (C : Addr) (cl : List (Str × Addr)) (fp : List Addr) {i : Nat} (hi : N[i]? = some x := by rfl) (hx : scope.names.lookup x = some .cell := by decide +kernel) :
    PG (X.blk s H scope (compEnvC scope cl C X.env) fp) (.Name x p) ((Tg.one i).t X.K) :=
  pg_name h.nd (by rw [show (X.blk s H scope (compEnvC scope cl C X.env) fp).N = X.N from rfl, h.n]; exact hi) (.inr (lookup_relS_keep (by intro e; cases e) hx)) (.inl (by show (scope.names.lookup x == some .cell) = true; rw [hx]; rfl))
def oSIndex (d : D) (ds : List D) (S : Sg) : Res D := match d, ds with
  | .str a, [.str b] => match Builtin.Str.occurrences a b 0 a.length 1 with
    | i :: _ => .ok (.int (i : Nat)) S
    | [] => .st
  | _, _ => .st
theorem oSIndex_ok {c : Cc} : MthD c (fun x xs H Q => ∃ a b i rest, x = .str a ∧ xs = [.str b] ∧ Builtin.Str.occurrences a b 0 a.length 1 = i :: rest ∧ Q (.int (i : Nat)) H) oSIndex := by
  intro W σ ρ S H x d vs ds Q R r1 r2 h
  unfold oSIndex at h
  split at h
  · cases r1
    cases r2 with
    | cons ry r2 =>
      cases r2
      cases ry
      split at h
      · rename_i i rest ho
        exact ⟨_, _, i, rest, rfl, rfl, ho, h.done R (.int _)⟩
      · exact h.elim
  · exact h.elim
theorem InN.m_sindex (h : InN Z N sc X) (ha : DE X W a fa) (hs : DA X W (e :: es) fs) (hb : noCall0 a = true := by rfl) (hn : (e :: es).all noStar = true := by rfl) (hl : decide ((e :: es).length < 29) = true := by rfl) (hline : (apos.endLine == pos.line) = true := by rfl) :
    DE X W (.Call (.Attribute a "index" apos) (e :: es) [] pos) (fMth "str" oSIndex fa fs) := h.mth PySem.F.plainAttrs_str PySem.F.slot_str_index PySem.F.type_str_index mt_sindex oSIndex_ok ha hs hb hn hl hline
end
end G
namespace G
open PySem PySem.Spec L2
theorem walk_ofX {l : PySem.W.OpenLaw} {n k : Nat} {q : Program} {loose : List Str} {XP : (Str → Option Value) → Heap → Prop} {YP : World → Heap → Prop} {d : DefRec} {x : Str}
    (hn : l.most = some n) (hn2 : n ≤ sizeLine) (hdf : d.params.defaults = []) (hr : Room k callerA)
    (F : ∀ (w : World) (mg : Str → Option Value) (fa : Addr) (h : Heap), YP w h → h.Ns mainGlobals mg → mg d.name = some (.ref fa) →
      ∃ (K : PySem.W.Frag) (fd : FuncData) (sp : Sp), K.In h ∧ (∀ (s : Shared) (u : Value), BindsTo s fd ⟨[u], []⟩ [(x, u)]) ∧
        (∀ (H : Hp) (a : Addr) (ns : List Int), ns.length ≤ n → Only H → SqL K H a (ns.map V.int) → sp [.ref a] H (fun v _ => v = .bl true) fun _ _ _ => False) ∧
        ∀ base : Heap, K.In base → base.Ns mainGlobals mg → FnOk l.prog w K mg base (L2.CX l.prog w) k fa fd [x] sp) :
    PySem.W.WalkO q loose XP YP l.row.toRowW d [] (fun f vs => PySem.call f vs) := by
  refine Att.attach_call hn hdf fun w s₀ s₁ mg mb fa o pm cd doc a vs ns G Y ho hd hcd hmg hobj hints hlen hg => ?_
  obtain ⟨K, fd, sp, KX, hb, hsp, hF⟩ := F w mg fa _ Y G.T.g hmg
  exact law_call KX G.T.g G.T.b G.T.builtins G.T.nolimit hg hobj hints (Nat.le_trans hlen hn2) hr hF hb (fun H hO hS => hsp H a ns hlen hO hS) fun H e s' ⟨_, _, _, _, _, _, _, _, _, _, _, _, q⟩ => q
section
variable {K : PySem.W.Frag} {h : Heap} {mg : Str → Option Value} {defs names : List Str} {more : List He.Fa} {fn : List He.DefD}
theorem fact_mem {fa : List He.Fa} (c : He.SaysD fa fn K) {f : He.Fa} (h : f ∈ fa) : f.ok K = true := by
  obtain ⟨i, hi, e⟩ := List.mem_iff_getElem.mp h
  exact c.fact i (f := f) (by rw [List.getElem?_eq_getElem hi, e])
theorem def_mem {fa : List He.Fa} (c : He.SaysD fa fn K) {d : He.DefD} (h : d ∈ fn) : ∃ fd, FunD K d.name d.qual d.params d.body d.scope (d.dvs K) (d.kws K) (He.fAd K d.at_) fd := by
  obtain ⟨i, hi, e⟩ := List.mem_iff_getElem.mp h
  exact c.def_ i (d := d) (by rw [List.getElem?_eq_getElem hi, e])
theorem glo_mem (X : K.In h) (Gn : h.Ns mainGlobals mg) (c : He.SaysD (faOf defs names more) fn K) {x : Str} (hx : x ∈ defs ∨ x ∈ names) : mg x = some (.ref (He.ga K x)) :=
  He.glo_ok X Gn (fact_mem c (f := .glo x) (by
    unfold faOf
    rcases hx with hx | hx
    · exact List.mem_append_left _ (List.mem_map_of_mem hx)
    · exact List.mem_append_right _ (List.mem_append_left _ (List.mem_map_of_mem hx))))
theorem free_all (X : K.In h) (Gn : h.Ns mainGlobals mg) (c : He.SaysD (faOf defs names more) fn K) : Free mg := fun x hx =>
  He.free_ok X Gn (fact_mem c (f := .free x) (List.mem_append_right _ (List.mem_append_right _ (List.mem_append_right _ (List.mem_append_left _ (List.mem_map_of_mem hx))))))
theorem and_l {a b : Bool} (h : (a && b) = true) : a = true := (Bool.and_eq_true_iff.mp h).1
theorem and_r {a b : Bool} (h : (a && b) = true) : b = true := (Bool.and_eq_true_iff.mp h).2
theorem excT_of (X : K.In h) (Gn : h.Ns mainGlobals mg) (c : He.SaysD (faOf defs names more) fn K) (e : excB names K = true) (hv : ("ValueError" : Str) ∉ names) : ExcT K mg names := by
  have gl : ∀ x ∈ names, mg x = some (.ref (He.ga K x)) := fun x hx => glo_mem X Gn c (.inr hx)
  have ex : ∀ x ∈ names, _ := fun x hx => He.exc_ok (fact_mem c (f := .exc x) (List.mem_append_right _ (List.mem_append_right _ (List.mem_append_left _ (List.mem_map_of_mem hx)))))
  have on : ∀ x ∈ names, excOne K names x = true := fun x hx => List.all_eq_true.mp e x hx
  have cv : ∀ y u, y ∈ ("ValueError" : Str) :: names → clsX mg y u → u = clV K y := fun y u hy hu => by
    unfold clV
    rcases hu with ⟨C, h1, rfl⟩ | ⟨rfl, _, rfl⟩
    · have hne : y ∈ names := by
        rcases List.mem_cons.mp hy with q | q
        · subst q
          rw [free_all X Gn c _ (by decide)] at h1
          cases h1
        · exact q
      have : (y == ("ValueError" : Str)) = false := by
        apply beq_eq_false_iff_ne.mpr
        rintro rfl
        exact hv hne
      rw [this, gl y hne] at *
      cases h1
      rfl
    · rfl
  refine ⟨fun x hx => ⟨_, gl x hx, ex x hx⟩, fun x hx C hC => ?_, fun x hx C hC y hy u hu => ?_, fun x hx C hC y hy u hu => ?_⟩
  · rw [gl x hx] at hC
    cases hC
    have q := on x hx
    unfold excOne at q
    exact ⟨of_decide_eq_true (and_l q), of_decide_eq_true (and_l (and_r q)), (ex x hx).2.2.1, and_l (and_r (and_r q)), of_decide_eq_true (and_l (and_r (and_r (and_r q)))), of_decide_eq_true (and_l (and_r (and_r (and_r (and_r q))))),
      of_decide_eq_true (and_l (and_r (and_r (and_r (and_r (and_r q)))))), of_decide_eq_true (and_l (and_r (and_r (and_r (and_r (and_r (and_r q)))))))⟩
  · rw [gl x hx] at hC
    cases hC
    have q := on x hx
    unfold excOne at q
    rw [cv y u hy hu]
    exact of_decide_eq_true (List.all_eq_true.mp (and_l (and_r (and_r (and_r (and_r (and_r (and_r (and_r q)))))))) y hy)
  · rw [gl x hx] at hC
    cases hC
    have q := on x hx
    unfold excOne at q
    rw [cv y u (List.mem_cons_of_mem _ hy) hu]
    exact of_decide_eq_true (List.all_eq_true.mp (and_r (and_r (and_r (and_r (and_r (and_r (and_r (and_r q)))))))) y hy)
theorem fun_mem (X : K.In h) (Gn : h.Ns mainGlobals mg) (c : He.SaysD (faOf defs names more) fn K) {x : Str} {st : Stmt} (hx : x ∈ defs) (hd : defF x st ∈ fn) : ∃ f fd, mg x = some (.ref f) ∧ FunD K x x (defArgs st) (defBody st) (defScope st) [] [] f fd := by
  obtain ⟨fd, F⟩ := def_mem c hd
  exact ⟨_, fd, glo_mem X Gn c (.inl hx), F⟩
theorem law_spec {w : World} {F : Fn} (hF : ∀ ns : List Int, ∃ S, F [.il (ns.map .int)] [] = .ok (.bl true) S) (H : Hp) (a : Addr) (ns : List Int) (hO : Only H) (hS : SqL K H a (ns.map V.int)) : spD ⟨K, mg, w⟩ 1 F [.ref a] H (fun v _ => v = .bl true) fun _ _ _ => False := by
  obtain ⟨S, e⟩ := hF ns
  refine ⟨[], [], [.il (ns.map .int)], ⟨rfl, List.nodup_nil, fun k m h => by simp at h⟩, .cons (.il ?_ .ints) .nil, rfl, ?_⟩
  · rcases hS with (h | ⟨o, h⟩) | h
    · exact .inl ⟨h, by simp⟩
    · exact .inr (.inl ⟨o, h⟩)
    · exact .inr (.inr h)
  · show FinC ⟨K, mg, w⟩ [] H (F [.il (ns.map .int)] []) _ _
    rw [e]
    intro ρ' H' v _ _ r
    cases r
    rfl
end
end G
namespace G
end G
namespace G
open PySem PySem.Spec L2
def fD (n q : Str) (st : Stmt) (gl : Addr) (cl : List (Str × Addr)) (df kd dc pm : Value) (an : Option Addr) (cd ct : Value) (bt : Addr) : FuncData := ⟨n, q, defArgs st, .stmts (defBody st), defScope st, gl, cl, df, kd, dc, pm, an, cd, ct, bt⟩
def dO (n q : Str) (st : Stmt) : Obj := ⟨.none, .none, .func (fD n q st 0 [] .none .none .none .none .none .none .none 0), #[]⟩
section
variable {env env' : Env} {S S' : Sg} {f fa fb fc : FE} {fs : FL} {t u : FT} {g g2 : FS} {d : D} {i j : Int} {n k : Nat}
@[simp] theorem andThen_nx (k : FS) : (SR.nx env S).andThen k = k env S := id rfl
@[simp] theorem andThen_rt (k : FS) : (SR.rt d S).andThen k = .rt d S := id rfl
@[simp] theorem andThen_bk (k : FS) : (SR.bk env S).andThen k = .bk env S := id rfl
@[simp] theorem andThen_ct (k : FS) : (SR.ct env S).andThen k = .ct env S := id rfl
@[simp] theorem andThen_er (k : FS) (c : Str) : (SR.er c env S).andThen k = .er c env S := id rfl
@[simp] theorem andThen_st (k : FS) : SR.st.andThen k = .st := id rfl
@[simp] theorem fin_nx : (SR.nx env S).fin = .ok .non S := id rfl
@[simp] theorem fin_rt : (SR.rt d S).fin = .ok d S := id rfl
@[simp] theorem fin_er (c : Str) : (SR.er c env S).fin = .er c S := id rfl
@[simp] theorem fin_st : SR.st.fin = .st := id rfl
@[simp] theorem andThen_ite {c : Prop} [Decidable c] (a b : SR) (k : FS) : (if c then a else b).andThen k = if c then a.andThen k else b.andThen k := by split <;> rfl
@[simp] theorem fin_ite {c : Prop} [Decidable c] (a b : SR) : (if c then a else b).fin = if c then a.fin else b.fin := by split <;> rfl
@[simp] theorem bind_ite {α β : Type} {c : Prop} [Decidable c] (a b : Res α) (k : α → Sg → Res β) : (if c then a else b).bind k = if c then a.bind k else b.bind k := by split <;> rfl
@[simp] theorem s_ite {α : Type} {c : Prop} [Decidable c] (a b : Res α) (k : α → Sg → SR) : (if c then a else b).s env k = if c then a.s env k else b.s env k := by split <;> rfl
@[simp] theorem sSeq_e : sSeq g g2 env S = (g env S).andThen g2 := id rfl
@[simp] theorem sNil_e : sNil env S = .nx env S := id rfl
@[simp] theorem sRet_e : sRet fa env S = (fa env S).s env fun d S => .rt d S := id rfl
@[simp] theorem sDrop_e : sDrop fa env S = (fa env S).s env fun _ S => .nx env S := id rfl
@[simp] theorem sIf_e : sIf t g g2 env S = (t env S).s env fun b S => if b = true then g env S else g2 env S := id rfl
@[simp] theorem sRaise_e (x : Str) : sRaise x env S = .er x env S := id rfl
@[simp] theorem sAsg_e (k : Nat) : sAsg fa (gNm k) env S = (fa env S).s env fun d S => .nx (env.set k (some (.v d))) S := id rfl
@[simp] theorem sAsgT_e (is : List Nat) : sAsg fa (gTupN is) env S = (fa env S).s env fun d S => match gTupN is d env with
  | some env' => .nx env' S
  | none => .st := id rfl
@[simp] theorem gTupN_e (is : List Nat) (w : Bool) (ds : List D) : gTupN is (.tup w ds) env = gNms is ds env := id rfl
@[simp] theorem gNms_nil : gNms [] [] env = some env := id rfl
@[simp] theorem gNms_cons (k : Nat) (is : List Nat) (ds : List D) : gNms (k :: is) (d :: ds) env = gNms is ds (env.set k (some (.v d))) := id rfl
@[simp] theorem gNm_e : gNm k d env = some (env.set k (some (.v d))) := id rfl
@[simp] theorem fVar_e (h : env[k]? = some (some (.v d))) : fVar k env S = .ok d S := by unfold fVar; rw [h]
@[simp] theorem fC_e : fC d env S = .ok d S := id rfl
@[simp] theorem fBin_e (o : D → D → Sg → Res D) : fBin o fa fb env S = (fa env S).bind fun x S1 => (fb env S1).bind fun y S2 => o x y S2 := id rfl
@[simp] theorem fB_e : fB f env S = (f env S).bind fun d S => match d with
  | .bl b => .ok b S
  | _ => .st := id rfl
@[simp] theorem fTup_e : fTup fs env S = (fs env S).bind fun ds S => if ds.length ≤ sizeLine then .ok (.tup true ds) S else .st := id rfl
@[simp] theorem fLst_e : fLst fs env S = (fs env S).bind fun ds S => if ds.length ≤ sizeLine then .ok (.obj S.length) (S ++ [.lst ds]) else .st := id rfl
@[simp] theorem fNil_e : fNil env S = .ok [] S := id rfl
@[simp] theorem fCons_e : fCons fa fs env S = (fa env S).bind fun d S => (fs env S).bind fun ds S => .ok (d :: ds) S := id rfl
@[simp] theorem fCall_e (o : List D → Sg → Res D) : fCall o fs env S = (fs env S).bind o := id rfl
@[simp] theorem fMth_e (T : String) (o : D → List D → Sg → Res D) : fMth T o fa fs env S = (fa env S).bind fun d S => if tyM S d = some T then (fs env S).bind fun ds S => o d ds S else .st := id rfl
@[simp] theorem fAnd_e : fAnd t u env S = (t env S).bind fun b S => if b = true then u env S else .ok false S := id rfl
@[simp] theorem fOr_e : fOr t u env S = (t env S).bind fun b S => if b = true then .ok true S else u env S := id rfl
@[simp] theorem fNot_e : fNot t env S = (t env S).bind fun b S => .ok (!b) S := id rfl
def tK {α : Type} (o : Option Bool) (x y : Res α) : Res α := match o with
  | some true => x
  | some false => y
  | none => .st
@[simp] theorem tK_some {α : Type} (b : Bool) (x y : Res α) : tK (some b) x y = if b = true then x else y := by cases b <;> rfl
def oK {α : Type} (o : Option α) (S : Sg) : Res α := match o with
  | some d => .ok d S
  | none => .st
@[simp] theorem oK_some {α : Type} (d : α) (S : Sg) : oK (some d) S = .ok d S := id rfl
@[simp] theorem fTru_e : fTru f env S = (f env S).bind fun d S => oK (truD S d) S := by
  unfold fTru
  congr
  funext d S
  cases truD S d <;> rfl
@[simp] theorem fAndV_e : fAndV fa fb env S = (fa env S).bind fun d S => tK (truD S d) (fb env S) (.ok d S) := by
  unfold fAndV
  congr
@[simp] theorem fOrV_e : fOrV fa fb env S = (fa env S).bind fun d S => tK (truD S d) (.ok d S) (fb env S) := by
  unfold fOrV
  congr
@[simp] theorem fNotV_e : fNotV fa env S = (fa env S).bind fun d S => (oK (truD S d) S).bind fun b S => .ok (.bl (!b)) S := by
  unfold fNotV
  congr
  funext d S
  cases truD S d <;> rfl
@[simp] theorem truD_bl (b : Bool) : truD S (.bl b) = some b := id rfl
@[simp] theorem truD_int : truD S (.int i) = some (decide (i ≠ 0)) := id rfl
@[simp] theorem truD_non : truD S .non = some false := id rfl
@[simp] theorem truD_tup (w : Bool) (ds : List D) : truD S (.tup w ds) = some (!ds.isEmpty) := id rfl
@[simp] theorem dLt_e : dLt (.int i) (.int j) S = .ok (.bl (decide (i < j))) S := id rfl
@[simp] theorem dLe_e : dLe (.int i) (.int j) S = .ok (.bl (decide (i ≤ j))) S := id rfl
@[simp] theorem dGt_e : dGt (.int i) (.int j) S = .ok (.bl (decide (j < i))) S := id rfl
@[simp] theorem dGe_e : dGe (.int i) (.int j) S = .ok (.bl (decide (j ≤ i))) S := id rfl
@[simp] theorem dAdd_e : dAdd (.int i) (.int j) S = .ok (.int (i + j)) S := id rfl
@[simp] theorem dIAdd_e : dIAdd (.int i) (.int j) S = .ok (.int (i + j)) S := id rfl
@[simp] theorem dSub_e : dSub (.int i) (.int j) S = .ok (.int (i - j)) S := id rfl
theorem dMul_e : dMul (.int i) (.int j) S = if okMul i j = true then .ok (.int (i * j)) S else .st := rfl
theorem dDiv_e : dDiv (.int i) (.int j) S = if okDiv j = true then .ok (.int (i / j)) S else .st := rfl
theorem dMod_e : dMod (.int i) (.int j) S = if decide (0 < j) = true then .ok (.int (i % j)) S else .st := rfl
theorem dPow_e : dPow (.int i) (.int j) S = if okPow i j = true then .ok (.int (i ^ j.toNat)) S else .st := rfl
theorem mulL (h1 : -(2 ^ 64) < i) (h2 : i < 2 ^ 64) : dMul (.int i) (.int j) S = .ok (.int (i * j)) S := by
  rw [dMul_e, if_pos]
  unfold okMul
  rw [decide_eq_true h1, decide_eq_true h2]
  rfl
theorem mulR (h1 : -(2 ^ 64) < j) (h2 : j < 2 ^ 64) : dMul (.int i) (.int j) S = .ok (.int (i * j)) S := by
  rw [dMul_e, if_pos]
  unfold okMul
  rw [decide_eq_true h1, decide_eq_true h2]
  simp
theorem log_lt {a m : Nat} (h : a < 2 ^ m) (hm : 0 < m) : a.log2 < m := by
  by_cases h0 : a = 0
  · subst h0; exact hm
  · exact (Nat.log2_lt h0).mpr h
theorem divB {m : Nat} (hm : 0 < m) (hm2 : m ≤ 9000) (h0 : 0 < j) (h : j.natAbs < 2 ^ m) : dDiv (.int i) (.int j) S = .ok (.int (i / j)) S := by
  rw [dDiv_e, if_pos]
  unfold okDiv
  have a := log_lt h hm
  have : j.natAbs.log2 < 9000 := by omega
  simp [this, h0]
theorem modB (h0 : 0 < j) : dMod (.int i) (.int j) S = .ok (.int (i % j)) S := by
  rw [dMod_e, if_pos (by simpa using h0)]
@[simp] theorem tyM_str (z : Str) : tyM S (.str z) = some "str" := id rfl
@[simp] theorem seqD_tup (w : Bool) (ds : List D) : seqD S (.tup w ds) = some ds := id rfl
@[simp] theorem seqD_il (ds : List D) : seqD S (.il ds) = some ds := id rfl
theorem seqD_obj {ds : List D} (h : S[k]? = some (.lst ds)) : seqD S (.obj k) = some ds := by unfold seqD; simp only [h]
theorem lstD_obj {ds : List D} (h : S[k]? = some (.lst ds)) : lstD S (.obj k) = some ds := by unfold lstD; simp only [h]
theorem ix_seq {a : D} {ds : List D} (h : seqD S a = some ds) (hs : ∀ z, a ≠ .str z) : dIx a (.int i) S = oK (atI ds i) S := by
  unfold dIx
  split
  · rename_i z; exact absurd rfl (hs _)
  · simp only [h]
    cases atI ds i <;> rfl
@[simp] theorem ix_tup (w : Bool) (ds : List D) : dIx (.tup w ds) (.int i) S = oK (atI ds i) S := ix_seq (seqD_tup _ _) (fun _ h => nomatch h)
theorem ix_obj {ds : List D} (h : S[k]? = some (.lst ds)) : dIx (.obj k) (.int i) S = oK (atI ds i) S := ix_seq (seqD_obj h) (fun _ h => nomatch h)
theorem tyM_obj {ds : List D} (h : S[k]? = some (.lst ds)) : tyM S (.obj k) = some "list" := by unfold tyM; simp only [h]
theorem append_ok {ds : List D} (h : S[k]? = some (.lst ds)) (hl : ds.length < sizeLine) : oAppend (.obj k) [d] S = .ok .non (S.set k (.lst (ds ++ [d]))) := by
  unfold oAppend
  simp only [h, if_pos hl]
@[simp] theorem last_get (S : Sg) (m : MO) : (S ++ [m])[S.length]? = some m := by simp
@[simp] theorem last_set (S : Sg) (m m' : MO) : (S ++ [m]).set S.length m' = S ++ [m'] := by simp
@[simp] theorem sFor_e (fi : FI) (f : FG) : sFor fi f g env S = (fi env S).s env fun I S => forL I.ok f g I.ds env S := id rfl
@[simp] theorem fIt_e (o : List D → Sg → Res Items) : fIt o fs env S = (fs env S).bind o := id rfl
@[simp] theorem fSeq_e : fSeq fa env S = (fa env S).bind iSeq := id rfl
theorem range1 (h1 : -(2 ^ 62) ≤ j) (h2 : j < 2 ^ 62) : iRange1 [.int j] S = .ok ⟨rangeD 0 1 j.toNat, fun _ => True⟩ S := by
  unfold iRange1
  exact if_pos ⟨h1, h2⟩
theorem forL_run {f : FG} : ∀ (ds : List D) (P : Nat → Env → Sg → Prop) (env : Env) (S : Sg), P 0 env S →
    (∀ k d env S, ds[k]? = some d → P k env S → ∃ env1, f d env = some env1 ∧ ∃ env' S', (g env1 S = .nx env' S' ∨ g env1 S = .ct env' S') ∧ P (k + 1) env' S') →
    ∃ env' S', forL (fun _ => True) f g ds env S = .nx env' S' ∧ P ds.length env' S'
  | [], P, env, S, h0, _ => ⟨env, S, if_pos trivial, h0⟩
  | d :: ds, P, env, S, h0, hs => by
    obtain ⟨env1, e1, env', S', e2, p⟩ := hs 0 d env S rfl h0
    obtain ⟨env2, S2, e3, q⟩ := forL_run ds (fun k => P (k + 1)) env' S' p fun k d env S hk h => hs (k + 1) d env S hk h
    refine ⟨env2, S2, ?_, q⟩
    unfold forL
    rw [if_pos trivial, e1]
    rcases e2 with e2 | e2 <;> (dsimp only; rw [e2]; exact e3)
theorem forL_nx {g : FS} {f : FG} (ds : List D) (P : Nat → Env → Sg → Prop) {env : Env} {S : Sg} (h0 : P 0 env S)
    (hs : ∀ k d env S, ds[k]? = some d → P k env S → ∃ env1, f d env = some env1 ∧ ∃ env' S', g env1 S = .nx env' S' ∧ P (k + 1) env' S') :
    ∃ env' S', forL (fun _ => True) f g ds env S = .nx env' S' ∧ P ds.length env' S' :=
  forL_run ds P env S h0 fun k d env S hk hp => by
    obtain ⟨env1, e, env', S', e2, p⟩ := hs k d env S hk hp
    exact ⟨env1, e, env', S', .inl e2, p⟩
theorem range_get {lo st : Int} {n k : Nat} {d : D} (h : (rangeD lo st n)[k]? = some d) : k < n ∧ d = .int (lo + k * st) := by
  unfold rangeD at h
  rw [List.getElem?_map] at h
  obtain ⟨a, ha, e⟩ := Option.map_eq_some_iff.mp h
  obtain ⟨hk, e2⟩ := List.getElem?_eq_some_iff.mp ha
  simp at hk e2
  exact ⟨hk, by rw [← e, ← e2]⟩
theorem range_len {lo st : Int} {n : Nat} : (rangeD lo st n).length = n := by unfold rangeD; simp
theorem for_range {ix : Nat} {lo st : Int} {n : Nat} (P : Nat → Env → Sg → Prop) (h0 : P 0 env S)
    (hs : ∀ k env S, k < n → P k env S → ∃ env' S', g (env.set ix (some (.v (.int (lo + k * st))))) S = .nx env' S' ∧ P (k + 1) env' S') :
    ∃ env' S', forL (fun _ => True) (gNm ix) g (rangeD lo st n) env S = .nx env' S' ∧ P n env' S' := by
  obtain ⟨env', S', e, p⟩ := forL_run (f := gNm ix) (rangeD lo st n) P env S h0 fun k d env S hd hP => by
    obtain ⟨hk, rfl⟩ := range_get hd
    obtain ⟨env', S', e, p⟩ := hs k env S hk hP
    exact ⟨_, rfl, env', S', .inl e, p⟩
  rw [range_len] at p
  exact ⟨env', S', e, p⟩
@[simp] theorem sWhile_e : sWhile t g env S = sLoop t g mostTurns env S := id rfl
theorem while_run {t : FT} (P : Env → Sg → Prop) (m : Env → Sg → Nat) (Q : Env → Sg → Prop)
    (hs : ∀ env S, P env S → (t env S = .ok false S ∧ Q env S) ∨ (t env S = .ok true S ∧ ∃ env' S', g env S = .nx env' S' ∧ P env' S' ∧ m env' S' < m env S)) :
    ∀ (k : Nat) (env : Env) (S : Sg), P env S → m env S < k → ∃ env' S', sLoop t g k env S = .nx env' S' ∧ Q env' S'
  | 0, env, S, _, hk => absurd hk (Nat.not_lt_zero _)
  | k + 1, env, S, hp, hk => by
    rcases hs env S hp with ⟨e, q⟩ | ⟨e, env', S', e2, p, hm⟩
    · refine ⟨env, S, ?_, q⟩
      unfold sLoop
      rw [e]
      simp
    · obtain ⟨env2, S2, e3, q⟩ := while_run P m Q hs k env' S' p (by omega)
      refine ⟨env2, S2, ?_, q⟩
      unfold sLoop
      rw [e]
      simp [e2, e3]
end
theorem runF_e {m : Nat} {g : FS} {ds : List D} {S : Sg} : runF m g ds S = (g (startE m ds) S).fin := rfl
theorem weak_st {S : Sg} {r : Res D} : Weak S r .st := .inl rfl
theorem weak_ok {S : Sg} {r : Res D} {d : D} (G : Sg) (h : r = .ok d (S ++ G)) (hd : d.free = true) : Weak S r (.ok d S) := .inr (.inr (.inl ⟨d, G, h, hd, rfl⟩))
theorem weak_er {S : Sg} {r : Res D} {x : Str} (G : Sg) (h : r = .er x (S ++ G)) : Weak S r (.er x S) := .inr (.inr (.inr (.inl ⟨x, G, h, rfl⟩)))
@[simp] theorem free_ints (w : Bool) (ns : List Int) : (D.tup w (ns.map .int)).free = true := by
  unfold D.free
  induction ns with
  | nil => rfl
  | cons n ns ih => simpa [D.frees, D.free] using ih
theorem pow2_pos (a : Nat) : (0 : Int) < 2 ^ a := by
  have := Nat.pow_pos (n := a) (show 0 < 2 by omega)
  exact_mod_cast this
theorem dbl_run {env : Env} {S : Sg} (a ix : Nat) (x : Int) (n : Nat) {lo st : Int} (ha : env[a]? = some (some (.v (.int x)))) (hi : ix < env.length) (hne : a ≠ ix) :
    ∃ y, forL (fun _ => True) (gNm ix) (sSeq (sAsg (fBin dMul (fC (.int 2)) (fVar a)) (gNm a)) sNil) (rangeD lo st n) env S = .nx ((env.set a (some (.v (.int (x * 2 ^ n))))).set ix y) S := by
  have hla : a < env.length := (List.getElem?_eq_some_iff.mp ha).1
  obtain ⟨env', S', e, y, rfl, rfl⟩ := for_range (env := env) (S := S) (ix := ix) (lo := lo) (st := st) (n := n) (g := sSeq (sAsg (fBin dMul (fC (.int 2)) (fVar a)) (gNm a)) sNil)
    (fun j env' S' => ∃ y, env' = (env.set a (some (.v (.int (x * 2 ^ j))))).set ix y ∧ S' = S) ⟨env[ix]?.getD none, by
      rw [List.getElem?_eq_getElem hi]
      apply List.ext_getElem (by simp)
      intro j h1 h2
      simp only [Option.getD_some, List.getElem_set, Int.pow_zero, Int.mul_one]
      split
      · rename_i q; subst q; rfl
      · split
        · rename_i q; subst q
          exact (List.getElem?_eq_some_iff.mp ha).2
        · rfl, rfl⟩ fun j env' S' hj ⟨y, hy, hS⟩ => by
        subst hy hS
        refine ⟨_, _, by
          have hg : ((((env.set a (some (.v (.int (x * 2 ^ j))))).set ix y).set ix (some (.v (.int (lo + ↑j * st)))))[a]?) = some (some (.v (.int (x * 2 ^ j)))) := by
            rw [List.getElem?_set_ne (Ne.symm hne), List.getElem?_set_ne (Ne.symm hne), List.getElem?_set_self hla]
          rw [sSeq_e, sAsg_e, fBin_e, fC_e, Res.bind_ok, fVar_e hg, Res.bind_ok, mulL (i := 2) (by omega) (by omega), Res.s_ok, andThen_nx, sNil_e], some (.v (.int (lo + ↑j * st))), ?_, rfl⟩
        apply List.ext_getElem (by simp)
        intro i h1 h2
        simp only [List.getElem_set]
        split
        · rename_i q; subst q
          rw [if_neg (Ne.symm hne)]
          congr 3
          rw [Int.pow_succ]
          rw [Int.mul_left_comm, Int.mul_comm 2]
        · by_cases q : ix = i <;> simp [q]
  exact ⟨y, e⟩
theorem dbl_run' {env : Env} {S : Sg} {g : FS} (a ix : Nat) (x : Int) (n : Nat) {lo st : Int} (ha : env[a]? = some (some (.v (.int x)))) (hi : ix < env.length) (hne : a ≠ ix) (hg : g = sSeq (sAsg (fBin dMul (fC (.int 2)) (fVar a)) (gNm a)) sNil) :
    ∃ y, forL (fun _ => True) (gNm ix) g (rangeD lo st n) env S = .nx ((env.set a (some (.v (.int (x * 2 ^ n))))).set ix y) S := by
  subst hg
  exact dbl_run a ix x n ha hi hne
theorem enum_get {ds : List D} {k : Nat} {d : D} (h : (enumD ds)[k]? = some d) : k < ds.length ∧ d = .tup true [.int k, ds.getD k .non] := by
  unfold enumD at h
  rw [List.getElem?_map] at h
  obtain ⟨a, ha, e⟩ := Option.map_eq_some_iff.mp h
  obtain ⟨hk, e2⟩ := List.getElem?_eq_some_iff.mp ha
  simp at hk e2
  subst e2
  exact ⟨hk, e.symm⟩
structure StC where
  cells : List Int
  a : Nat
  n : Int
  b : Bool
  hl : cells.length ≤ 63
def SX (cells : List D) (x y z : D) (G : Sg) : Sg := .lst cells :: .lst [.obj 0, x, y, z] :: G
@[simp] theorem SX_0 (cells : List D) (x y z : D) (G : Sg) : (SX cells x y z G)[0]? = some (.lst cells) := id rfl
@[simp] theorem SX_1 (cells : List D) (x y z : D) (G : Sg) : (SX cells x y z G)[1]? = some (.lst [.obj 0, x, y, z]) := id rfl
@[simp] theorem SX_len (cells : List D) (x y z : D) (G : Sg) : oLen [.obj 0] (SX cells x y z G) = .ok (.int cells.length) (SX cells x y z G) := id rfl
@[simp] theorem SX_ix (cells : List D) (x y z : D) (G : Sg) (i : Int) : dIx (.obj 0) (.int i) (SX cells x y z G) = oK (atI cells i) (SX cells x y z G) := ix_obj rfl
@[simp] theorem SX_i0 (cells : List D) (x y z : D) (G : Sg) : dIx (.obj 1) (.int 0) (SX cells x y z G) = .ok (.obj 0) (SX cells x y z G) := id rfl
@[simp] theorem SX_i1 (cells : List D) (x y z : D) (G : Sg) : dIx (.obj 1) (.int 1) (SX cells x y z G) = .ok x (SX cells x y z G) := id rfl
@[simp] theorem SX_i2 (cells : List D) (x y z : D) (G : Sg) : dIx (.obj 1) (.int 2) (SX cells x y z G) = .ok y (SX cells x y z G) := id rfl
@[simp] theorem SX_i3 (cells : List D) (x y z : D) (G : Sg) : dIx (.obj 1) (.int 3) (SX cells x y z G) = .ok z (SX cells x y z G) := id rfl
@[simp] theorem SX_s1 (cells : List D) (x y z d : D) (G : Sg) : setIx (.obj 1) (.int 1) d (SX cells x y z G) = some (SX cells d y z G) := id rfl
@[simp] theorem SX_s2 (cells : List D) (x y z d : D) (G : Sg) : setIx (.obj 1) (.int 2) d (SX cells x y z G) = some (SX cells x d z G) := id rfl
@[simp] theorem SX_s3 (cells : List D) (x y z d : D) (G : Sg) : setIx (.obj 1) (.int 3) d (SX cells x y z G) = some (SX cells x y d G) := id rfl
@[simp] theorem sSetIx_e {env : Env} {S : Sg} (fo fi fv : FE) : sSetIx fo fi fv env S = (fv env S).s env fun d S => (fo env S).s env fun o S => (fi env S).s env fun i S => match setIx o i d S with
  | some S' => .nx env S'
  | none => .st := id rfl
@[simp] theorem sPar_e {env : Env} {S : Sg} (is : List Nat) (fs : FL) : sPar is fs env S = (fs env S).s env fun ds S => match gNms is ds env with
  | some env' => .nx env' S
  | none => .st := id rfl
theorem sAug_e {env : Env} {S : Sg} {i : Nat} {x : D} {o : D → D → Sg → Res D} {fa : FE} (h : env[i]? = some (some (.v x))) : sAug i o fa env S = (fa env S).s env fun y S => (o x y S).s env fun z S => .nx (env.set i (some (.v z))) S := by
  unfold sAug
  simp only [h]
@[simp] theorem p1018 {S : Sg} : dPow (.int 10) (.int 18) S = .ok (.int 1000000000000000000) S := by
  rw [dPow_e, if_pos (by decide)]
  simp
def St (c : StC) (G : Sg) : Sg := SX (c.cells.map .int) (.int c.a) (.int c.n) (.bl c.b) G
@[simp] theorem St_0 (c : StC) (G : Sg) : (St c G)[0]? = some (.lst (c.cells.map .int)) := id rfl
@[simp] theorem St_1 (c : StC) (G : Sg) : (St c G)[1]? = some (.lst [.obj 0, .int c.a, .int c.n, .bl c.b]) := id rfl
@[simp] theorem St_k (c : StC) (G : Sg) (k : Nat) : (St c G)[k + 2]? = G[k]? := id rfl
@[simp] theorem St_len (c : StC) (G : Sg) : (St c G).length = G.length + 2 := id rfl
@[simp] theorem St_app (c : StC) (G T : Sg) : St c G ++ T = St c (G ++ T) := id rfl
@[simp] theorem St_set (c : StC) (G : Sg) (k : Nat) (m : MO) : (St c G).set (k + 2) m = St c (G.set k m) := id rfl
section
variable {S : Sg} {i j : Int}
theorem eqO_int : eqO S (.int i) (.int j) = some (decide (i = j)) := by
  simp [eqO, toPS, toP, PyData.eqv, PyData.depth]
  by_cases h : i = j <;> simp [h]
theorem toPs_int : ∀ ns : List Int, toPs (ns.map .int) = some (ns.map .int)
  | [] => rfl
  | n :: ns => by
    rw [List.map_cons, List.map_cons]
    unfold toPs
    rw [toPs_int ns]
    rfl
theorem depth_ints : ∀ ns : List Int, PyData.depthAll (ns.map .int) ≤ 1
  | [] => by simp [PyData.depthAll]
  | n :: ns => by
    have := depth_ints ns
    simp [PyData.depthAll, PyData.depth]
    omega
theorem eqv_ints : ∀ ns ms : List Int, PyData.eqvAll (ns.map .int) (ms.map .int) = decide (ns = ms)
  | [], [] => by simp [PyData.eqvAll]
  | [], m :: ms => by simp [PyData.eqvAll]
  | n :: ns, [] => by simp [PyData.eqvAll]
  | n :: ns, m :: ms => by
    rw [List.map_cons, List.map_cons, PyData.eqvAll, eqv_ints ns ms]
    simp [PyData.eqv]
    by_cases h : n = m <;> simp [h]
theorem eqO_ints {w w' : Bool} {ns ms : List Int} : eqO S (.tup w (ns.map .int)) (.tup w' (ms.map .int)) = some (decide (ns = ms)) := by
  have d := depth_ints ns
  have e : toPS S (.tup w (ns.map .int)) = some (.tuple (ns.map .int)) := by simp [toPS, toP, toPs_int]
  have e' : toPS S (.tup w' (ms.map .int)) = some (.tuple (ms.map .int)) := by simp [toPS, toP, toPs_int]
  simp only [eqO, e, e']
  rw [if_pos (by simp only [PyData.depth]; omega)]
  rw [PyData.eqv, eqv_ints]
@[simp] theorem dEq_int : dEq (.int i) (.int j) S = .ok (.bl (decide (i = j))) S := by simp only [dEq, eqO_int]
@[simp] theorem dNe_int : dNe (.int i) (.int j) S = .ok (.bl (decide (i ≠ j))) S := by
  simp only [dNe, eqO_int]
  simp
@[simp] theorem dEq_ints {w w' : Bool} {ns ms : List Int} : dEq (.tup w (ns.map .int)) (.tup w' (ms.map .int)) S = .ok (.bl (decide (ns = ms))) S := by simp only [dEq, eqO_ints]
@[simp] theorem dNe_ints {w w' : Bool} {ns ms : List Int} : dNe (.tup w (ns.map .int)) (.tup w' (ms.map .int)) S = .ok (.bl (decide (ns ≠ ms))) S := by
  simp only [dNe, eqO_ints]
  simp
theorem eqO_str {a b : Str} : eqO S (.str a) (.str b) = some (decide (a = b)) := by
  simp [eqO, toPS, toP, PyData.eqv, PyData.depth]
  by_cases h : a = b <;> simp [h]
@[simp] theorem dEq_str {a b : Str} : dEq (.str a) (.str b) S = .ok (.bl (decide (a = b))) S := by simp only [dEq, eqO_str]
@[simp] theorem dNe_str {a b : Str} : dNe (.str a) (.str b) S = .ok (.bl (decide (a ≠ b))) S := by
  simp only [dNe, eqO_str]
  simp
end
def turnsLeft (ix : Nat) (top : Int) (env : Env) : Nat := match env[ix]? with
  | some (some (EV.v (D.int y))) => (top - y).toNat
  | _ => 0
theorem at_ints {cells : List Int} {i : Int} (h0 : 0 ≤ i) (h1 : i < cells.length) : ∃ x : Int, atI (cells.map D.int) i = some (.int x) := by
  have hl : i.toNat < cells.length := by omega
  refine ⟨cells[i.toNat], ?_⟩
  unfold atI ixN
  rw [List.length_map, if_pos h0, if_pos h1]
  simp [hl]
def digs (B : Int) : Nat → Int → List Int
  | 0, _ => []
  | n + 1, x => x % B :: digs B n (x / B)
def val (B : Int) : List Int → Int
  | [] => 0
  | d :: ds => d + B * val B ds
theorem oTuple_obj {S : Sg} {k : Nat} {ds : List D} (h : S[k]? = some (.lst ds)) : oTuple [.obj k] S = .ok (.tup true ds) S := by
  unfold oTuple
  simp only [lstD_obj h]
@[simp] theorem oTuple_tup {S : Sg} {w : Bool} {ds : List D} : oTuple [.tup w ds] S = .ok (.tup w ds) S := id rfl
@[simp] theorem oTuple_il {S : Sg} {ds : List D} : oTuple [.il ds] S = .ok (.tup true ds) S := id rfl
@[simp] theorem oLen_tup {S : Sg} {w : Bool} {ds : List D} : oLen [.tup w ds] S = .ok (.int ds.length) S := id rfl
@[simp] theorem oLen_il {S : Sg} {ds : List D} : oLen [.il ds] S = .ok (.int ds.length) S := id rfl
theorem oLen_obj {S : Sg} {k : Nat} {ds : List D} (h : S[k]? = some (.lst ds)) : oLen [.obj k] S = .ok (.int ds.length) S := by
  unfold oLen lenD
  simp only [seqD_obj h]
@[simp] theorem iSeq_tup {S : Sg} {w : Bool} {ds : List D} : iSeq (.tup w ds) S = .ok ⟨ds, fun _ => True⟩ S := id rfl
@[simp] theorem iSeq_il {S : Sg} {ds : List D} : iSeq (.il ds) S = .ok ⟨ds, fun _ => True⟩ S := id rfl
theorem blsD_map (bs : List Bool) : blsD (bs.map .bl) = some bs := by
  induction bs with
  | nil => rfl
  | cons b bs ih => simp [blsD, ih]
@[simp] theorem isi_int_bool (x : Int) (S : Sg) : oIsi [(.int x), .ty "bool"] S = .ok (.bl false) S := id rfl
@[simp] theorem isi_int_int (x : Int) (S : Sg) : oIsi [(.int x), .ty "int"] S = .ok (.bl true) S := id rfl
@[simp] theorem isi_int_str (x : Int) (S : Sg) : oIsi [(.int x), .ty "str"] S = .ok (.bl false) S := id rfl
@[simp] theorem isi_int_tuple (x : Int) (S : Sg) : oIsi [(.int x), .ty "tuple"] S = .ok (.bl false) S := id rfl
@[simp] theorem isi_int_list (x : Int) (S : Sg) : oIsi [(.int x), .ty "list"] S = .ok (.bl false) S := id rfl
@[simp] theorem isi_int_dict (x : Int) (S : Sg) : oIsi [(.int x), .ty "dict"] S = .ok (.bl false) S := id rfl
@[simp] theorem isi_bl_bool (x : Bool) (S : Sg) : oIsi [(.bl x), .ty "bool"] S = .ok (.bl true) S := id rfl
@[simp] theorem isi_bl_int (x : Bool) (S : Sg) : oIsi [(.bl x), .ty "int"] S = .ok (.bl true) S := id rfl
@[simp] theorem isi_bl_str (x : Bool) (S : Sg) : oIsi [(.bl x), .ty "str"] S = .ok (.bl false) S := id rfl
@[simp] theorem isi_bl_tuple (x : Bool) (S : Sg) : oIsi [(.bl x), .ty "tuple"] S = .ok (.bl false) S := id rfl
@[simp] theorem isi_bl_list (x : Bool) (S : Sg) : oIsi [(.bl x), .ty "list"] S = .ok (.bl false) S := id rfl
@[simp] theorem isi_bl_dict (x : Bool) (S : Sg) : oIsi [(.bl x), .ty "dict"] S = .ok (.bl false) S := id rfl
@[simp] theorem isi_str_bool (x : Str) (S : Sg) : oIsi [(.str x), .ty "bool"] S = .ok (.bl false) S := id rfl
@[simp] theorem isi_str_int (x : Str) (S : Sg) : oIsi [(.str x), .ty "int"] S = .ok (.bl false) S := id rfl
@[simp] theorem isi_str_str (x : Str) (S : Sg) : oIsi [(.str x), .ty "str"] S = .ok (.bl true) S := id rfl
@[simp] theorem isi_str_tuple (x : Str) (S : Sg) : oIsi [(.str x), .ty "tuple"] S = .ok (.bl false) S := id rfl
@[simp] theorem isi_str_list (x : Str) (S : Sg) : oIsi [(.str x), .ty "list"] S = .ok (.bl false) S := id rfl
@[simp] theorem isi_str_dict (x : Str) (S : Sg) : oIsi [(.str x), .ty "dict"] S = .ok (.bl false) S := id rfl
@[simp] theorem isi_tup_bool (w : Bool) (x : List D) (S : Sg) : oIsi [(.tup w x), .ty "bool"] S = .ok (.bl false) S := id rfl
@[simp] theorem isi_tup_int (w : Bool) (x : List D) (S : Sg) : oIsi [(.tup w x), .ty "int"] S = .ok (.bl false) S := id rfl
@[simp] theorem isi_tup_str (w : Bool) (x : List D) (S : Sg) : oIsi [(.tup w x), .ty "str"] S = .ok (.bl false) S := id rfl
@[simp] theorem isi_tup_tuple (w : Bool) (x : List D) (S : Sg) : oIsi [(.tup w x), .ty "tuple"] S = .ok (.bl true) S := id rfl
@[simp] theorem isi_tup_list (w : Bool) (x : List D) (S : Sg) : oIsi [(.tup w x), .ty "list"] S = .ok (.bl false) S := id rfl
@[simp] theorem isi_tup_dict (w : Bool) (x : List D) (S : Sg) : oIsi [(.tup w x), .ty "dict"] S = .ok (.bl false) S := id rfl
@[simp] theorem isi_il_bool (x : List D) (S : Sg) : oIsi [(.il x), .ty "bool"] S = .ok (.bl false) S := id rfl
@[simp] theorem isi_il_int (x : List D) (S : Sg) : oIsi [(.il x), .ty "int"] S = .ok (.bl false) S := id rfl
@[simp] theorem isi_il_str (x : List D) (S : Sg) : oIsi [(.il x), .ty "str"] S = .ok (.bl false) S := id rfl
@[simp] theorem isi_il_tuple (x : List D) (S : Sg) : oIsi [(.il x), .ty "tuple"] S = .ok (.bl false) S := id rfl
@[simp] theorem isi_il_list (x : List D) (S : Sg) : oIsi [(.il x), .ty "list"] S = .ok (.bl true) S := id rfl
@[simp] theorem isi_il_dict (x : List D) (S : Sg) : oIsi [(.il x), .ty "dict"] S = .ok (.bl false) S := id rfl
@[simp] theorem isi_non_bool  (S : Sg) : oIsi [.non, .ty "bool"] S = .ok (.bl false) S := id rfl
@[simp] theorem isi_non_int  (S : Sg) : oIsi [.non, .ty "int"] S = .ok (.bl false) S := id rfl
@[simp] theorem isi_non_str  (S : Sg) : oIsi [.non, .ty "str"] S = .ok (.bl false) S := id rfl
@[simp] theorem isi_non_tuple  (S : Sg) : oIsi [.non, .ty "tuple"] S = .ok (.bl false) S := id rfl
@[simp] theorem isi_non_list  (S : Sg) : oIsi [.non, .ty "list"] S = .ok (.bl false) S := id rfl
@[simp] theorem isi_non_dict  (S : Sg) : oIsi [.non, .ty "dict"] S = .ok (.bl false) S := id rfl
def revD (d : D) (S : Sg) : Res D := match d with
  | .tup _ ds => .ok (.tup true ds.reverse) S
  | d => match lstD S d with
    | some ds => .ok (.obj S.length) (S ++ [.lst ds.reverse])
    | none => .st
@[simp] theorem fRev_e {f : FE} {env : Env} {S : Sg} : fRev f env S = (f env S).bind revD := id rfl
@[simp] theorem revD_tup {w : Bool} {ds : List D} {S : Sg} : revD (.tup w ds) S = .ok (.tup true ds.reverse) S := id rfl
@[simp] theorem at_last {α : Type} (l : List α) (x : α) : atI (l ++ [x]) (-1) = some x := by
  unfold atI ixN
  rw [if_neg (by omega), if_pos (by simp; omega)]
  show (l ++ [x])[((-1 : Int) + ((l ++ [x]).length : Nat)).toNat]? = some x
  have : ((-1 : Int) + ((l ++ [x]).length : Nat)).toNat = l.length := by simp; omega
  rw [this]
  simp
theorem at_nat {α : Type} (l : List α) (k : Nat) : atI l (k : Int) = l[k]? := by
  unfold atI ixN
  by_cases h : k < l.length
  · simp [h]
  · rw [if_pos (by omega), if_neg (by omega), List.getElem?_eq_none (by omega)]
    rfl
theorem forL_fold {α β : Type} {h : α → D} {f : FG} {g : FS} {step : β → α → β} (E : β → Option EV → Env) (T : β → Sg) : ∀ (xs : List α) (b : β) (y : Option EV),
    (∀ x ∈ xs, ∀ b y, ∃ env1, f (h x) (E b y) = some env1 ∧ ∃ y', g env1 (T b) = .nx (E (step b x) y') (T (step b x))) →
    ∃ y', forL (fun _ => True) f g (xs.map h) (E b y) (T b) = .nx (E (xs.foldl step b) y') (T (xs.foldl step b))
  | [], b, y, _ => ⟨y, if_pos trivial⟩
  | x :: xs, b, y, hs => by
    obtain ⟨env1, e1, y', e2⟩ := hs x List.mem_cons_self b y
    obtain ⟨y2, e3⟩ := forL_fold E T xs (step b x) y' fun z hz => hs z (List.mem_cons_of_mem _ hz)
    refine ⟨y2, ?_⟩
    rw [List.map_cons]
    unfold forL
    rw [if_pos trivial, e1]
    simp only [e2]
    exact e3
theorem frees_map {α : Type} {f : α → D} : ∀ xs : List α, (∀ x ∈ xs, (f x).free = true) → D.frees (xs.map f) = true
  | [], _ => rfl
  | x :: xs, h => by
    rw [List.map_cons, D.frees, h x List.mem_cons_self, frees_map xs fun y hy => h y (List.mem_cons_of_mem _ hy)]
    rfl
theorem blsD_mapf {α : Type} (f : α → Bool) (xs : List α) : blsD (xs.map fun x => .bl (f x)) = some (xs.map f) := by
  have := blsD_map (xs.map f)
  rwa [List.map_map] at this
theorem oAll_map {α : Type} (f : α → Bool) (xs : List α) (S : Sg) : oAll [.il (xs.map fun x => .bl (f x))] S = .ok (.bl (xs.all f)) S := by
  unfold oAll
  simp only [lstD, Option.bind_some, blsD_mapf]
  simp
theorem oAny_map {α : Type} (f : α → Bool) (xs : List α) (S : Sg) : oAny [.il (xs.map fun x => .bl (f x))] S = .ok (.bl (xs.any f)) S := by
  unfold oAny
  simp only [lstD, Option.bind_some, blsD_mapf]
  simp
@[simp] theorem fChain_e {o o' : D → D → Sg → Res D} {fa fb fc : FE} {env : Env} {S : Sg} : fChain o o' fa fb fc env S = (fa env S).bind fun x S1 => (fb env S1).bind fun y S2 => (o x y S2).bind fun k S3 => match k with
  | .bl true => (fc env S3).bind fun z S4 => o' y z S4
  | .bl false => .ok (.bl false) S3
  | _ => .st := id rfl
theorem fLc_mapf {α : Type} {own : List Nat} {fi : FI} {T : Tg} {fe : FE} {env : Env} {S S1 : Sg} {k : α → D} {xs : List α} (h : α → D) (hi : fi env S = .ok ⟨xs.map k, fun _ => True⟩ S1) (hx : noExc env = true)
    (hd : ∀ x ∈ xs, ∃ env1, T.f (k x) (wipeE env own) = some env1 ∧ ∀ T, fe env1 (S1 ++ T) = .ok (h x) (S1 ++ T)) (hl : xs.length ≤ sizeLine) (hf : ∀ x ∈ xs, (h x).free = true) :
    fLc true own fi T fYes fe env S = .ok (.il (xs.map h)) S1 := by
  unfold fLc
  rw [hi]
  simp only [Res.bind_ok, hx, if_true]
  have key : ∀ (xs : List α) (acc : List D), (∀ x ∈ xs, ∃ env1, T.f (k x) (wipeE env own) = some env1 ∧ ∀ T, fe env1 (S1 ++ T) = .ok (h x) (S1 ++ T)) → acc.length + xs.length ≤ sizeLine →
      lcL (fun _ => True) T.f fYes fe (wipeE env own) S1.length (xs.map k) (S1 ++ [.lst acc]) = .ok () (S1 ++ [.lst (acc ++ xs.map h)]) := by
    intro xs
    induction xs with
    | nil => intro acc _ _; simp [lcL]
    | cons x xs ih =>
      intro acc hd hl
      obtain ⟨env1, e1, e2⟩ := hd x List.mem_cons_self
      rw [List.length_cons] at hl
      have ih := ih (acc ++ [h x]) (fun y hy => hd y (List.mem_cons_of_mem _ hy)) (by simp; omega)
      rw [List.append_assoc] at ih
      rw [List.map_cons]
      unfold lcL
      rw [if_pos trivial, e1]
      simp only [fYes, Res.quiet, Res.bind_ok, if_true, e2, last_get, last_set]
      rw [if_pos (by omega)]
      exact ih
  rw [key xs [] hd (by simpa using hl)]
  simp [lcEnd, frees_map xs hf]
@[simp] theorem unbind_nx (env : Env) (S : Sg) (i : Nat) : (SR.nx env S).unbind i = if noExc (env.set i none) = true then .nx (env.set i none) S else .st := id rfl
theorem fIsE_e {names : List Str} {i : Nat} {cs : List Str} {env : Env} {S : Sg} {n : Str} (h : env[i]? = some (some (.exc n))) : fIsE names i cs env S = if n ∈ names then .ok (.bl (cs.any fun c => subX n c)) S else .st := by
  unfold fIsE
  simp only [h]
theorem sTry_er {names : List Str} {h : Str} {i : Nat} {g gs : FS} {env env1 : Env} {S S1 : Sg} {n : Str} (hx : noExc env = true) (hg : g env S = .er n env1 S1) (hn : n ∈ names) (h1 : noExc env1 = true) (hs : subX n h = true) : sTry names h i g gs env S = (gs (env1.set i (some (.exc n))) S1).unbind i := by
  unfold sTry
  rw [if_pos hx]
  simp only [hg, hn, h1, hs, and_self, if_true]
theorem sTry_nx {names : List Str} {h : Str} {i : Nat} {g gs : FS} {env env1 : Env} {S S1 : Sg} (hx : noExc env = true) (hg : g env S = .nx env1 S1) (h1 : noExc env1 = true) : sTry names h i g gs env S = .nx env1 S1 := by
  unfold sTry
  rw [if_pos hx]
  simp only [hg, h1, if_true]
@[simp] theorem oInt_bl (b : Bool) (S : Sg) : oInt [.bl b] S = .ok (.int (if b = true then 1 else 0)) S := id rfl
@[simp] theorem oInt_int (i : Int) (S : Sg) : oInt [.int i] S = .ok (.int i) S := id rfl
theorem fIsE_v {names : List Str} {i : Nat} {cs : List Str} {env : Env} {S : Sg} {n : Str} {b : Bool} (h : env[i]? = some (some (.exc n))) (hn : n ∈ names) (hb : (cs.any fun c => subX n c) = b) : fIsE names i cs env S = .ok (.bl b) S := by
  rw [fIsE_e h, if_pos hn, hb]
def okV : Option EV → Bool
  | some (.exc _) => false
  | _ => true
theorem noExc_cons (x : Option EV) (env : Env) : noExc (x :: env) = (okV x && noExc env) := by
  unfold noExc
  rw [List.all_cons]
  congr 1
@[simp] theorem noExc_nil : noExc [] = true := rfl
@[simp] theorem okV_none : okV none = true := rfl
@[simp] theorem okV_v (d : D) : okV (some (.v d)) = true := rfl
@[simp] theorem okV_map (x : Option D) : okV (x.map .v) = true := by cases x <;> rfl
def sl (x : Option D) : Option EV := x.map .v
@[simp] theorem okV_sl (x : Option D) : okV (sl x) = true := by cases x <;> rfl
@[simp] theorem dNe_tups {w w' : Bool} {a b c d e f : Int} {S : Sg} : dNe (.tup w [.int a, .int b, .int c]) (.tup w' [.int d, .int e, .int f]) S = .ok (.bl (decide ([a, b, c] ≠ [d, e, f]))) S := dNe_ints (ns := [a, b, c]) (ms := [d, e, f])
@[simp] theorem iRange_2 {S : Sg} : iRange1 [.int 2] S = .ok ⟨rangeD 0 1 2, fun _ => True⟩ S := range1 (j := 2) (by omega) (by omega)
theorem range_nat {S : Sg} {n : Int} (h1 : -(2 ^ 62) ≤ n) (h2 : n < 2 ^ 62) : iRange1 [.int n] S = .ok ⟨rangeD 0 1 n.toNat, fun _ => True⟩ S := range1 h1 h2
theorem sl_of (y : Option EV) : ∃ x, (if okV y = true then y else none) = sl x := by
  cases y with
  | none => exact ⟨none, rfl⟩
  | some e => cases e with
    | v d => exact ⟨some d, rfl⟩
    | exc c => exact ⟨none, rfl⟩
@[simp] theorem sl_some (d : D) : sl (some d) = some (.v d) := rfl
@[simp] theorem sl_none : sl none = none := rfl
@[simp] theorem at_0 {α : Type} (x0 : α) (l : List α) : atI (x0 :: l) 0 = some x0 := at_nat _ 0
@[simp] theorem at_1 {α : Type} (x0 x1 : α) (l : List α) : atI (x0 :: x1 :: l) 1 = some x1 := at_nat _ 1
@[simp] theorem at_2 {α : Type} (x0 x1 x2 : α) (l : List α) : atI (x0 :: x1 :: x2 :: l) 2 = some x2 := at_nat _ 2
@[simp] theorem at_3 {α : Type} (x0 x1 x2 x3 : α) (l : List α) : atI (x0 :: x1 :: x2 :: x3 :: l) 3 = some x3 := at_nat _ 3
@[simp] theorem at_4 {α : Type} (x0 x1 x2 x3 x4 : α) (l : List α) : atI (x0 :: x1 :: x2 :: x3 :: x4 :: l) 4 = some x4 := at_nat _ 4
@[simp] theorem at_5 {α : Type} (x0 x1 x2 x3 x4 x5 : α) (l : List α) : atI (x0 :: x1 :: x2 :: x3 :: x4 :: x5 :: l) 5 = some x5 := at_nat _ 5
@[simp] theorem at_6 {α : Type} (x0 x1 x2 x3 x4 x5 x6 : α) (l : List α) : atI (x0 :: x1 :: x2 :: x3 :: x4 :: x5 :: x6 :: l) 6 = some x6 := at_nat _ 6
@[simp] theorem at_7 {α : Type} (x0 x1 x2 x3 x4 x5 x6 x7 : α) (l : List α) : atI (x0 :: x1 :: x2 :: x3 :: x4 :: x5 :: x6 :: x7 :: l) 7 = some x7 := at_nat _ 7
@[simp] theorem at_8 {α : Type} (x0 x1 x2 x3 x4 x5 x6 x7 x8 : α) (l : List α) : atI (x0 :: x1 :: x2 :: x3 :: x4 :: x5 :: x6 :: x7 :: x8 :: l) 8 = some x8 := at_nat _ 8
@[simp] theorem at_9 {α : Type} (x0 x1 x2 x3 x4 x5 x6 x7 x8 x9 : α) (l : List α) : atI (x0 :: x1 :: x2 :: x3 :: x4 :: x5 :: x6 :: x7 :: x8 :: x9 :: l) 9 = some x9 := at_nat _ 9
@[simp] theorem at_10 {α : Type} (x0 x1 x2 x3 x4 x5 x6 x7 x8 x9 x10 : α) (l : List α) : atI (x0 :: x1 :: x2 :: x3 :: x4 :: x5 :: x6 :: x7 :: x8 :: x9 :: x10 :: l) 10 = some x10 := at_nat _ 10
@[simp] theorem at_11 {α : Type} (x0 x1 x2 x3 x4 x5 x6 x7 x8 x9 x10 x11 : α) (l : List α) : atI (x0 :: x1 :: x2 :: x3 :: x4 :: x5 :: x6 :: x7 :: x8 :: x9 :: x10 :: x11 :: l) 11 = some x11 := at_nat _ 11
def tb (x y : Int) (j : Nat) : Int := x / 2 ^ j % 2 + y / 2 ^ j % 2
def nx (t : Nat → Int) : Nat → Nat → Nat
  | 0, q => q
  | r + 1, q => if t q = 1 then nx t r (q + 1) else q
@[simp] theorem is_int (i : Int) (S : Sg) : dIs (.int i) .non S = .ok (.bl false) S := id rfl
@[simp] theorem is_non (S : Sg) : dIs .non .non S = .ok (.bl true) S := id rfl
theorem fLc_obj {α : Type} {own : List Nat} {fi : FI} {T : Tg} {fe : FE} {env : Env} {S S1 : Sg} {k : α → D} {xs : List α} (h : α → D) (hi : fi env S = .ok ⟨xs.map k, fun _ => True⟩ S1) (hx : noExc env = true)
    (hd : ∀ x ∈ xs, ∃ env1, T.f (k x) (wipeE env own) = some env1 ∧ ∀ T, fe env1 (S1 ++ T) = .ok (h x) (S1 ++ T)) (hl : xs.length ≤ sizeLine) :
    fLc false own fi T fYes fe env S = .ok (.obj S1.length) (S1 ++ [.lst (xs.map h)]) := by
  unfold fLc
  rw [hi]
  simp only [Res.bind_ok, hx, if_true]
  have key : ∀ (xs : List α) (acc : List D), (∀ x ∈ xs, ∃ env1, T.f (k x) (wipeE env own) = some env1 ∧ ∀ T, fe env1 (S1 ++ T) = .ok (h x) (S1 ++ T)) → acc.length + xs.length ≤ sizeLine →
      lcL (fun _ => True) T.f fYes fe (wipeE env own) S1.length (xs.map k) (S1 ++ [.lst acc]) = .ok () (S1 ++ [.lst (acc ++ xs.map h)]) := by
    intro xs
    induction xs with
    | nil => intro acc _ _; simp [lcL]
    | cons x xs ih =>
      intro acc hd hl
      obtain ⟨env1, e1, e2⟩ := hd x List.mem_cons_self
      rw [List.length_cons] at hl
      have ih := ih (acc ++ [h x]) (fun y hy => hd y (List.mem_cons_of_mem _ hy)) (by simp; omega)
      rw [List.append_assoc] at ih
      rw [List.map_cons]
      unfold lcL
      rw [if_pos trivial, e1]
      simp only [fYes, Res.quiet, Res.bind_ok, if_true, e2, last_get, last_set]
      rw [if_pos (by omega)]
      exact ih
  rw [key xs [] hd (by simpa using hl)]
  simp [lcEnd]
theorem fLc_mapG {α : Type} {own : List Nat} {fi : FI} {T : Tg} {fe : FE} {env : Env} {S S1 : Sg} {k : α → D} {xs : List α} {P : Sg → Prop} (h : α → D) (hi : fi env S = .ok ⟨xs.map k, P⟩ S1) (hP : ∀ T, P (S1 ++ T)) (hx : noExc env = true)
    (hd : ∀ x ∈ xs, ∃ env1, T.f (k x) (wipeE env own) = some env1 ∧ ∀ T, fe env1 (S1 ++ T) = .ok (h x) (S1 ++ T)) (hl : xs.length ≤ sizeLine) (hf : ∀ x ∈ xs, (h x).free = true) :
    fLc true own fi T fYes fe env S = .ok (.il (xs.map h)) S1 := by
  unfold fLc
  rw [hi]
  simp only [Res.bind_ok, hx, if_true]
  have key : ∀ (xs : List α) (acc : List D), (∀ x ∈ xs, ∃ env1, T.f (k x) (wipeE env own) = some env1 ∧ ∀ T, fe env1 (S1 ++ T) = .ok (h x) (S1 ++ T)) → acc.length + xs.length ≤ sizeLine →
      lcL P T.f fYes fe (wipeE env own) S1.length (xs.map k) (S1 ++ [.lst acc]) = .ok () (S1 ++ [.lst (acc ++ xs.map h)]) := by
    intro xs
    induction xs with
    | nil => intro acc _ _; simp [lcL, hP]
    | cons x xs ih =>
      intro acc hd hl
      obtain ⟨env1, e1, e2⟩ := hd x List.mem_cons_self
      rw [List.length_cons] at hl
      have ih := ih (acc ++ [h x]) (fun y hy => hd y (List.mem_cons_of_mem _ hy)) (by simp; omega)
      rw [List.append_assoc] at ih
      rw [List.map_cons]
      unfold lcL
      rw [if_pos (hP _), e1]
      simp only [fYes, Res.quiet, Res.bind_ok, if_true, e2, last_get, last_set]
      rw [if_pos (by omega)]
      exact ih
  rw [key xs [] hd (by simpa using hl)]
  simp [lcEnd, frees_map xs hf]
theorem iSeq_obj {S : Sg} {k : Nat} {ds : List D} (h : S[k]? = some (.lst ds)) : iSeq (.obj k) S = .ok ⟨ds, fun S => S[k]? = some (.lst ds)⟩ S := by
  unfold iSeq
  simp only [lstD_obj h]
  rfl
theorem revD_obj {S : Sg} {k : Nat} {ds : List D} (h : S[k]? = some (.lst ds)) : revD (.obj k) S = .ok (.obj S.length) (S ++ [.lst ds.reverse]) := by
  unfold revD
  simp only [lstD_obj h]
theorem sum_le (ys : List Str) (k : Nat) (h : ∀ y ∈ ys, y.length ≤ k) : (ys.map (·.length)).sum ≤ ys.length * k := by
  induction ys with
  | nil => simp
  | cons y ys ih =>
    have h1 := h y List.mem_cons_self
    have h2 := ih fun z hz => h z (List.mem_cons_of_mem _ hz)
    rw [List.map_cons, List.sum_cons, List.length_cons, Nat.succ_mul]
    omega
theorem join_ok {d : D} {S : Sg} (a : Str) (ys : List Str) (k : Nat) (hs : (seqD S d).bind strsD = some ys) (h : ∀ y ∈ ys, y.length ≤ k) (hk : k + a.length ≤ 100) (hl : ys.length ≤ 1000) : oJoin (.str a) [d] S = .ok (.str (Txt.join a ys)) S := by
  unfold oJoin
  simp only [hs]
  rw [if_pos]
  have h1 := sum_le ys k h
  have h2 : ys.length * k ≤ ys.length * 100 := Nat.mul_le_mul_left _ (by omega)
  have h3 : ys.length * a.length ≤ ys.length * 100 := Nat.mul_le_mul_left _ (by omega)
  omega
@[simp] theorem app_get {α : Type} (S l : List α) (k : Nat) : (S ++ l)[S.length + k]? = l[k]? := by
  rw [List.getElem?_append_right (by omega)]
  congr 1
  omega
@[simp] theorem app_get0 {α : Type} (S : List α) (a : α) (l : List α) : (S ++ a :: l)[S.length]? = some a := by
  have := app_get S (a :: l) 0
  simpa using this
@[simp] theorem app_set {α : Type} (S l : List α) (k : Nat) (x : α) : (S ++ l).set (S.length + k) x = S ++ l.set k x := by
  rw [List.set_append_right _ _ (by omega)]
  congr 2
  omega
@[simp] theorem app_set0 {α : Type} (S : List α) (a : α) (l : List α) (x : α) : (S ++ a :: l).set S.length x = S ++ x :: l := by
  have := app_set S (a :: l) 0 x
  simpa using this
@[simp] theorem unbind_rt (d : D) (S : Sg) (i : Nat) : (SR.rt d S).unbind i = .rt d S := id rfl
@[simp] theorem add_tups {S : Sg} {w u : Bool} {xs ys : List D} : dAdd (.tup w xs) (.tup u ys) S = if xs.length + ys.length ≤ sizeLine then .ok (.tup (w && u) (xs ++ ys)) S else .st := id rfl
@[simp] theorem add_strs {S : Sg} {x y : Str} : dAdd (.str x) (.str y) S = if x.length + y.length ≤ sizeLine then .ok (.str (x ++ y)) S else .st := id rfl
end G
namespace G
@[simp] theorem low_tup (w : Bool) (ds : List D) : (D.tup w ds).low = .tup false (D.lows ds) := id rfl
@[simp] theorem low_int (i : Int) : (D.int i).low = .int i := id rfl
@[simp] theorem low_str (i : PySem.Str) : (D.str i).low = .str i := id rfl
@[simp] theorem low_bl (i : Bool) : (D.bl i).low = .bl i := id rfl
@[simp] theorem low_non : D.non.low = .non := id rfl
@[simp] theorem low_obj (k : Nat) : (D.obj k).low = .obj k := id rfl
@[simp] theorem lows_nil : D.lows [] = [] := id rfl
@[simp] theorem lows_cons (d : D) (ds : List D) : D.lows (d :: ds) = d.low :: D.lows ds := id rfl
end G
namespace G
open PySem PySem.Spec L2
@[simp] theorem p1040 {S : Sg} : dPow (.int 10) (.int 40) S = .ok (.int (10 ^ 40)) S := by rw [dPow_e, if_pos (by decide)]; rfl
@[simp] theorem fCut_e {f : FE} {l h : FO} {env : Env} {S : Sg} : fCut f l h env S = (f env S).bind fun d S => (l env S).bind fun lo S => (h env S).bind fun hi S => dCut d lo hi S := id rfl
@[simp] theorem fO0_e {env : Env} {S : Sg} : fO0 env S = .ok none S := id rfl
@[simp] theorem fO1_e {f : FE} {env : Env} {S : Sg} : fO1 f env S = (f env S).bind fun d S => match d with
  | .int i => .ok (some i) S
  | _ => .st := id rfl
section
variable {S : Sg} {k l : Nat} {y z i d : D} {xs ys : List D} {n m : Str} {fs : List (Str × D)} {kv : List (Key × D)} {kt : List (List Key × D)}
end
structure Ix where
  c : Int
  i : Int
  j : Int
  m : Int
inductive UnOp where
  | move | bare | twice | half
inductive BiOp where
  | sum | less | both | any | odd
inductive Row (κ : Type) where
  | set (to : κ) (d : Int) | mark (d : Int) | ask (x : κ) | un (o : UnOp) (to x : κ) | bi (o : BiOp) (to x y : κ) | times (lo hi x y : κ)
abbrev TC := Str × Ix
abbrev PC := Str × Int
def UnOp.t : UnOp → Str
  | .move => "move"
  | .bare => "bare"
  | .twice => "twice"
  | .half => "half"
def BiOp.t : BiOp → Str
  | .sum => "sum"
  | .less => "less"
  | .both => "both"
  | .any => "any"
  | .odd => "odd"
inductive Thing where
  | slice (l : Str) (a b : Ix) | mark
structure Term where
  f : Int
  e0 : Int
  e1 : Int
  e2 : Int
  e3 : Int
  e4 : Int
  e5 : Int
  th : List Thing
def Ix.at (a : Ix) (n i j : Int) : Int := a.c + a.i * i + a.j * j + a.m * n
def TC.at (a : TC) (n i j : Int) : PC := (a.1, a.2.at n i j)
def Row.map {κ μ : Type} (f : κ → μ) : Row κ → Row μ
  | .set to d => .set (f to) d
  | .mark d => .mark d
  | .ask x => .ask (f x)
  | .un o to x => .un o (f to) (f x)
  | .bi o to x y => .bi o (f to) (f x) (f y)
  | .times lo hi x y => .times (f lo) (f hi) (f x) (f y)
structure Mc where
  f : PC → Int
  m : Int
def Mc.put (s : Mc) (c : PC) (v : Int) : Mc := ⟨fun a => if a = c then v else s.f a, s.m⟩
def stepU (W : Int) (o : UnOp) (to x : PC) (s : Mc) : Mc := match o with
  | .move => s.put to (s.f x)
  | .bare => s.put to (W - 1 - s.f x)
  | .twice => ⟨(s.put to ((2 * s.f x + s.m) % W)).f, (2 * s.f x + s.m) / W⟩
  | .half => ⟨(s.put to (s.f x / 2 + s.m * (W / 2))).f, s.f x % 2⟩
def stepB (W : Int) (o : BiOp) (to x y : PC) (s : Mc) : Mc := match o with
  | .sum => ⟨(s.put to ((s.f x + s.f y + s.m) % W)).f, (s.f x + s.f y + s.m) / W⟩
  | .less => ⟨(s.put to ((s.f x - s.f y - s.m) % W)).f, if s.f x - s.f y - s.m < 0 then 1 else 0⟩
  | .both => s.put to (Builtin.bitAnd (s.f x) (s.f y))
  | .any => s.put to (Builtin.bitOr (s.f x) (s.f y))
  | .odd => s.put to (Builtin.bitXor (s.f x) (s.f y))
def step (W : Int) (s : Mc) : Row PC → Mc
  | .set to d => s.put to d
  | .mark d => ⟨s.f, d⟩
  | .ask x => ⟨s.f, if s.f x ≠ 0 then 1 else 0⟩
  | .un o to x => stepU W o to x s
  | .bi o to x y => stepB W o to x y s
  | .times lo hi x y => (s.put lo (s.f x * s.f y % W)).put hi (s.f x * s.f y / W)
def keyC (c : PC) : List Key := [.inr c.1, .inl c.2]
@[simp] theorem keysC (c : PC) : keysD [.str c.1, .int c.2] = some (keyC c) := id rfl
def cl (l : Str) (c i j m : Int) : TC := (l, ⟨c, i, j, m⟩)
def tC : TC := cl "t" 0 0 0 0
@[simp] theorem ofString_inj {a b : String} : Str.ofString a = Str.ofString b ↔ a = b := by
  constructor
  · intro h
    rw [Str.ofString_eq_toList, Str.ofString_eq_toList] at h
    have h2 : a.toList.map Char.toNat = b.toList.map Char.toNat := by
      have := congrArg (fun s : Str => s.cps.toList) h
      simpa using this
    have h4 : ∀ x y : List Char, x.map Char.toNat = y.map Char.toNat → x = y := by
      intro x
      induction x with
      | nil => intro y q; cases y with
        | nil => rfl
        | cons _ _ => simp at q
      | cons c x ih => intro y q; cases y with
        | nil => simp at q
        | cons d y =>
          simp only [List.map_cons, List.cons.injEq] at q
          rw [ih y q.2, Char.ext (UInt32.toNat_inj.mp q.1)]
    have h3 : a.toList = b.toList := h4 _ _ h2
    exact String.toList_inj.mp h3
  · intro h; rw [h]
example : Str.ofString "sum" = Str.ofString "difference" ↔ False := by simp
def Row.nm {κ : Type} : Row κ → Str
  | .set _ _ => "set"
  | .mark _ => "mark"
  | .ask _ => "ask"
  | .un o _ _ => o.t
  | .bi o _ _ _ => o.t
  | .times _ _ _ _ => "times"
def beg (l : Str) : Nat → List Int → Mc → Mc
  | _, [], s => s
  | k, d :: ds, s => beg l (k + 1) ds (s.put (l, (k : Int)) d)
theorem beg_m (l : Str) : ∀ (k : Nat) (ds : List Int) (s : Mc), (beg l k ds s).m = s.m
  | _, [], _ => rfl
  | k, d :: ds, s => by rw [beg, beg_m l]; rfl
def begun (w n : Nat) (x y : Int) : Mc := beg "b" 0 (digs (2 ^ w) n y) (beg "a" 0 (digs (2 ^ w) n x) ⟨fun _ => 0, 0⟩)
@[simp] theorem put_f (s : Mc) (c : PC) (v : Int) (a : PC) : (s.put c v).f a = if a = c then v else s.f a := rfl
@[simp] theorem put_m (s : Mc) (c : PC) (v : Int) : (s.put c v).m = s.m := rfl
@[simp] theorem begun_m (w n : Nat) (x y : Int) : (begun w n x y).m = 0 := by
  unfold begun
  rw [beg_m, beg_m]
@[simp] theorem ofString_beq {a b : String} : ((Str.ofString a : Str) == Str.ofString b) = (a == b) := by
  rw [Bool.eq_iff_iff, beq_iff_eq, beq_iff_eq, ofString_inj]
theorem St_last (c : StC) (G : Sg) (m : MO) : (St c (G ++ [m]))[(St c G).length]? = some m := last_get (St c G) m
theorem St_lset (c : StC) (G : Sg) (m m' : MO) : (St c (G ++ [m])).set (St c G).length m' = St c (G ++ [m']) := last_set (St c G) m m'
end G
set_option maxHeartbeats 4000000
namespace G
open PySem PySem.Spec L2
def hC : TC := cl "h" 0 0 0 0
theorem eqO_bl {S : Sg} {a b : Bool} : eqO S (.bl a) (.bl b) = some (decide (a = b)) := by
  cases a <;> cases b <;> rfl
@[simp] theorem dEq_bl {S : Sg} {a b : Bool} : dEq (.bl a) (.bl b) S = .ok (.bl (decide (a = b))) S := by simp only [dEq, eqO_bl]
@[simp] theorem dNe_bl {S : Sg} {a b : Bool} : dNe (.bl a) (.bl b) S = .ok (.bl (decide (a ≠ b))) S := by
  simp only [dNe, eqO_bl]
  simp
section
variable {S : Sg} {k h : Nat} {W m : Int} {kvs : List (List Key × D)} {f : PC → Int}
end
section
variable {S : Sg} {k l : Nat} {w n : Int} {rows : List (Row PC)} {g : Nat} {gi : Int}
end
def nm (W : Int) (M : Nat) (T : Int) : D := .tup true ((digs W M (T % W ^ M)).map .int)
mutual
theorem toP_plain : ∀ {d : D} {p : PyData}, toP d = some p → p.plain = true
  | .non, _, h => by cases h; rfl
  | .bl _, _, h => by cases h; rfl
  | .int _, _, h => by cases h; rfl
  | .str _, _, h => by cases h; rfl
  | .tup _ ds, _, h => by
    obtain ⟨xs, h1, rfl⟩ := Option.map_eq_some_iff.mp (show (toPs ds).map PyData.tuple = some _ from h)
    exact toPs_plain h1
  | .il ds, _, h => by
    obtain ⟨xs, h1, rfl⟩ := Option.map_eq_some_iff.mp (show (toPs ds).map PyData.list = some _ from h)
    exact toPs_plain h1
  | .obj _, _, h => by cases h
  | .fn _, _, h => by cases h
  | .ty _, _, h => by cases h
  | .kd _ _, _, h => by cases h
theorem toPs_plain : ∀ {ds : List D} {ps : List PyData}, toPs ds = some ps → PyData.plainAll ps = true
  | [], _, h => by cases h; rfl
  | d :: ds, _, h => by
    unfold toPs at h
    obtain ⟨x, h1, h2⟩ := Option.bind_eq_some_iff.mp h
    obtain ⟨xs, h3, h4⟩ := Option.bind_eq_some_iff.mp h2
    cases h4
    show (x.plain && PyData.plainAll xs) = true
    rw [toP_plain h1, toPs_plain h3]
    rfl
end
def Deep (k : Nat) (d : D) : Prop := ∃ p, toP d = some p ∧ p.depth ≤ k
theorem Deep.mono {k l : Nat} {d : D} (h : Deep k d) (hk : k ≤ l) : Deep l d := by
  obtain ⟨p, h1, h2⟩ := h
  exact ⟨p, h1, by omega⟩
theorem Deep.non {k : Nat} : Deep k .non := ⟨_, rfl, Nat.zero_le _⟩
theorem Deep.int {k : Nat} (i : Int) : Deep k (.int i) := ⟨_, rfl, Nat.zero_le _⟩
theorem Deep.str {k : Nat} (i : Str) : Deep k (.str i) := ⟨_, rfl, Nat.zero_le _⟩
theorem Deep.bl {k : Nat} (i : Bool) : Deep k (.bl i) := ⟨_, rfl, Nat.zero_le _⟩
theorem Deep.tup {k : Nat} {w : Bool} : ∀ {ds : List D}, (∀ d ∈ ds, Deep k d) → Deep (k + 1) (.tup w ds)
  | ds, h => by
    have : ∀ ds : List D, (∀ d ∈ ds, Deep k d) → ∃ ps, toPs ds = some ps ∧ PyData.depthAll ps ≤ k := fun ds => by
      induction ds with
      | nil => exact fun _ => ⟨[], rfl, Nat.zero_le _⟩
      | cons d ds ih =>
        intro h
        obtain ⟨p, h1, h2⟩ := h d List.mem_cons_self
        obtain ⟨ps, h3, h4⟩ := ih fun x hx => h x (List.mem_cons_of_mem _ hx)
        refine ⟨p :: ps, by simp [toPs, h1, h3], ?_⟩
        show max p.depth (PyData.depthAll ps) ≤ k
        omega
    obtain ⟨ps, h1, h2⟩ := this ds h
    refine ⟨.tuple ps, by simp [toP, h1], ?_⟩
    show PyData.depthAll ps + 1 ≤ k + 1
    omega
theorem eqO_self {S : Sg} {d : D} {k : Nat} (h : Deep k d) (hk : k ≤ 64) : eqO S d d = some true := by
  obtain ⟨p, h1, h2⟩ := h
  have e : toPS S d = some p := by
    cases d <;> first | exact h1 | cases h1
  unfold eqO
  rw [e]
  dsimp only
  rw [if_pos (by omega), PySem.SeqAt.eqv_refl_plain p (toP_plain h1)]
end G
set_option maxHeartbeats 0
namespace G
open PySem PySem.Spec L2
theorem lc_drawG {α : Type} {h : α → D} {f : FG} {fe : FE} {env : Env} (P : α → Prop) (G : Sg) : ∀ (ds : List D) (c : StC) (acc : List α), (∀ d ∈ ds, ∃ env1, f d env = some env1 ∧ ∀ c G, ∃ c' x, fe env1 (St c G) = .ok (h x) (St c' G) ∧ P x) → acc.length + ds.length ≤ 1000 →
    ∃ (c' : StC) (xs : List α), lcL (fun _ => True) f fYes fe env (St c G).length ds (St c (G ++ [.lst (acc.map h)])) = .ok () (St c' (G ++ [.lst ((acc ++ xs).map h)])) ∧ (∀ x ∈ xs, P x) ∧ xs.length = ds.length
  | [], c, acc, _, _ => ⟨c, [], by simp [lcL], by simp, rfl⟩
  | d :: ds, c, acc, hh, hl => by
    rw [List.length_cons] at hl
    obtain ⟨env1, e1, hf⟩ := hh d List.mem_cons_self
    obtain ⟨c1, x, e2, px⟩ := hf c (G ++ [.lst (acc.map h)])
    obtain ⟨c2, xs, e3, pxs, hn⟩ := lc_drawG P G ds c1 (acc ++ [x]) (fun z hz => hh z (List.mem_cons_of_mem _ hz)) (by simp; omega)
    refine ⟨c2, x :: xs, ?_, ?_, by simp [hn]⟩
    · unfold lcL
      rw [if_pos trivial, e1]
      have hL : (St c G).length = (St c1 G).length := rfl
      simp only [fYes, Res.quiet, Res.bind_ok, if_true, e2]
      rw [hL, St_last]
      dsimp only
      rw [if_pos (by simp [sizeLine]; omega), St_lset]
      have : acc.map h ++ [h x] = (acc ++ [x]).map h := by simp
      rw [this, e3]
      simp
    · intro z hz
      rcases List.mem_cons.mp hz with rfl | hz
      · exact px
      · exact pxs z hz
theorem eqO_lst {S : Sg} {k l n : Nat} {ds : List D} (h1 : S[k]? = some (.lst ds)) (h2 : S[l]? = some (.lst ds)) (hd : ∀ d ∈ ds, Deep n d) (hn : n ≤ 60) : eqO S (.obj k) (.obj l) = some true := by
  obtain ⟨p, e, hp⟩ := Deep.tup (w := true) hd
  obtain ⟨ps, e1, rfl⟩ := Option.map_eq_some_iff.mp (show (toPs ds).map PyData.tuple = some p from e)
  have a1 : toPS S (.obj k) = some (.list ps) := by unfold toPS; simp only [h1, e1, Option.map_some]
  have a2 : toPS S (.obj l) = some (.list ps) := by unfold toPS; simp only [h2, e1, Option.map_some]
  have hq : (PyData.list ps).depth ≤ n + 1 := hp
  unfold eqO
  rw [a1, a2]
  dsimp only
  rw [if_pos (by omega), PySem.SeqAt.eqv_refl_plain _ (show (PyData.list ps).plain = true from toPs_plain e1)]
theorem fLc_drawT {α : Type} {h : α → D} {own : List Nat} {fi : FI} {T : Tg} {fe : FE} {env : Env} (P : α → Prop) (c c1 : StC) (G : Sg) (ds : List D) (hi : fi env (St c G) = .ok ⟨ds, fun _ => True⟩ (St c1 G)) (hx : noExc env = true)
    (hf : ∀ d ∈ ds, ∃ env1, T.f d (wipeE env own) = some env1 ∧ ∀ c G, ∃ c' x, fe env1 (St c G) = .ok (h x) (St c' G) ∧ P x) (hl : ds.length ≤ 1000) :
    ∃ (c' : StC) (U : Sg) (y : D) (xs : List α), fLc true own fi T fYes fe env (St c G) = .ok y (St c' (G ++ U)) ∧ seqD (St c' (G ++ U)) y = some (xs.map h) ∧ (∀ x ∈ xs, P x) ∧ xs.length = ds.length := by
  obtain ⟨c', xs, e, p, hn⟩ := lc_drawG P G ds c1 [] hf (by simpa using hl)
  have e' : lcL (fun _ => True) T.f fYes fe (wipeE env own) (St c1 G).length ds (St c1 G ++ [.lst []]) = .ok () (St c' (G ++ [.lst (xs.map h)])) := by simpa using e
  have hk : (St c' (G ++ [MO.lst (xs.map h)]))[(St c1 G).length]? = some (.lst (xs.map h)) := app_get0 G _ _
  have key : fLc true own fi T fYes fe env (St c G) = lcEnd true (St c1 G).length (St c1 G) (St c' (G ++ [.lst (xs.map h)])) := by
    unfold fLc
    rw [hi]
    simp only [Res.bind_ok, hx, if_true]
    rw [e']
    rfl
  unfold lcEnd at key
  rw [if_pos rfl] at key
  simp only [hk] at key
  split at key
  · exact ⟨c1, [], .il (xs.map h), xs, by rw [key, List.append_nil], rfl, p, hn⟩
  · exact ⟨c', [.lst (xs.map h)], .obj (St c1 G).length, xs, key, seqD_obj hk, p, hn⟩
theorem at_app {S T : Sg} {k : Nat} {m : MO} (h : S[k]? = some m) : (S ++ T)[k]? = some m := by
  rw [List.getElem?_append_left (List.getElem?_eq_some_iff.mp h).1]; exact h
@[simp] theorem at_12 {α : Type} (x0 x1 x2 x3 x4 x5 x6 x7 x8 x9 x10 x11 x12 : α) (l : List α) : atI (x0 :: x1 :: x2 :: x3 :: x4 :: x5 :: x6 :: x7 :: x8 :: x9 :: x10 :: x11 :: x12 :: l) 12 = some x12 := at_nat _ 12
@[simp] theorem at_13 {α : Type} (x0 x1 x2 x3 x4 x5 x6 x7 x8 x9 x10 x11 x12 x13 : α) (l : List α) : atI (x0 :: x1 :: x2 :: x3 :: x4 :: x5 :: x6 :: x7 :: x8 :: x9 :: x10 :: x11 :: x12 :: x13 :: l) 13 = some x13 := at_nat _ 13
@[simp] theorem at_14 {α : Type} (x0 x1 x2 x3 x4 x5 x6 x7 x8 x9 x10 x11 x12 x13 x14 : α) (l : List α) : atI (x0 :: x1 :: x2 :: x3 :: x4 :: x5 :: x6 :: x7 :: x8 :: x9 :: x10 :: x11 :: x12 :: x13 :: x14 :: l) 14 = some x14 := at_nat _ 14
@[simp] theorem at_15 {α : Type} (x0 x1 x2 x3 x4 x5 x6 x7 x8 x9 x10 x11 x12 x13 x14 x15 : α) (l : List α) : atI (x0 :: x1 :: x2 :: x3 :: x4 :: x5 :: x6 :: x7 :: x8 :: x9 :: x10 :: x11 :: x12 :: x13 :: x14 :: x15 :: l) 15 = some x15 := at_nat _ 15
@[simp] theorem at_16 {α : Type} (x0 x1 x2 x3 x4 x5 x6 x7 x8 x9 x10 x11 x12 x13 x14 x15 x16 : α) (l : List α) : atI (x0 :: x1 :: x2 :: x3 :: x4 :: x5 :: x6 :: x7 :: x8 :: x9 :: x10 :: x11 :: x12 :: x13 :: x14 :: x15 :: x16 :: l) 16 = some x16 := at_nat _ 16
@[simp] theorem at_17 {α : Type} (x0 x1 x2 x3 x4 x5 x6 x7 x8 x9 x10 x11 x12 x13 x14 x15 x16 x17 : α) (l : List α) : atI (x0 :: x1 :: x2 :: x3 :: x4 :: x5 :: x6 :: x7 :: x8 :: x9 :: x10 :: x11 :: x12 :: x13 :: x14 :: x15 :: x16 :: x17 :: l) 17 = some x17 := at_nat _ 17
@[simp] theorem at_18 {α : Type} (x0 x1 x2 x3 x4 x5 x6 x7 x8 x9 x10 x11 x12 x13 x14 x15 x16 x17 x18 : α) (l : List α) : atI (x0 :: x1 :: x2 :: x3 :: x4 :: x5 :: x6 :: x7 :: x8 :: x9 :: x10 :: x11 :: x12 :: x13 :: x14 :: x15 :: x16 :: x17 :: x18 :: l) 18 = some x18 := at_nat _ 18
@[simp] theorem at_19 {α : Type} (x0 x1 x2 x3 x4 x5 x6 x7 x8 x9 x10 x11 x12 x13 x14 x15 x16 x17 x18 x19 : α) (l : List α) : atI (x0 :: x1 :: x2 :: x3 :: x4 :: x5 :: x6 :: x7 :: x8 :: x9 :: x10 :: x11 :: x12 :: x13 :: x14 :: x15 :: x16 :: x17 :: x18 :: x19 :: l) 19 = some x19 := at_nat _ 19
@[simp] theorem at_20 {α : Type} (x0 x1 x2 x3 x4 x5 x6 x7 x8 x9 x10 x11 x12 x13 x14 x15 x16 x17 x18 x19 x20 : α) (l : List α) : atI (x0 :: x1 :: x2 :: x3 :: x4 :: x5 :: x6 :: x7 :: x8 :: x9 :: x10 :: x11 :: x12 :: x13 :: x14 :: x15 :: x16 :: x17 :: x18 :: x19 :: x20 :: l) 20 = some x20 := at_nat _ 20
@[simp] theorem at_21 {α : Type} (x0 x1 x2 x3 x4 x5 x6 x7 x8 x9 x10 x11 x12 x13 x14 x15 x16 x17 x18 x19 x20 x21 : α) (l : List α) : atI (x0 :: x1 :: x2 :: x3 :: x4 :: x5 :: x6 :: x7 :: x8 :: x9 :: x10 :: x11 :: x12 :: x13 :: x14 :: x15 :: x16 :: x17 :: x18 :: x19 :: x20 :: x21 :: l) 21 = some x21 := at_nat _ 21
@[simp] theorem at_22 {α : Type} (x0 x1 x2 x3 x4 x5 x6 x7 x8 x9 x10 x11 x12 x13 x14 x15 x16 x17 x18 x19 x20 x21 x22 : α) (l : List α) : atI (x0 :: x1 :: x2 :: x3 :: x4 :: x5 :: x6 :: x7 :: x8 :: x9 :: x10 :: x11 :: x12 :: x13 :: x14 :: x15 :: x16 :: x17 :: x18 :: x19 :: x20 :: x21 :: x22 :: l) 22 = some x22 := at_nat _ 22
@[simp] theorem at_23 {α : Type} (x0 x1 x2 x3 x4 x5 x6 x7 x8 x9 x10 x11 x12 x13 x14 x15 x16 x17 x18 x19 x20 x21 x22 x23 : α) (l : List α) : atI (x0 :: x1 :: x2 :: x3 :: x4 :: x5 :: x6 :: x7 :: x8 :: x9 :: x10 :: x11 :: x12 :: x13 :: x14 :: x15 :: x16 :: x17 :: x18 :: x19 :: x20 :: x21 :: x22 :: x23 :: l) 23 = some x23 := at_nat _ 23
@[simp] theorem at_24 {α : Type} (x0 x1 x2 x3 x4 x5 x6 x7 x8 x9 x10 x11 x12 x13 x14 x15 x16 x17 x18 x19 x20 x21 x22 x23 x24 : α) (l : List α) : atI (x0 :: x1 :: x2 :: x3 :: x4 :: x5 :: x6 :: x7 :: x8 :: x9 :: x10 :: x11 :: x12 :: x13 :: x14 :: x15 :: x16 :: x17 :: x18 :: x19 :: x20 :: x21 :: x22 :: x23 :: x24 :: l) 24 = some x24 := at_nat _ 24
@[simp] theorem at_25 {α : Type} (x0 x1 x2 x3 x4 x5 x6 x7 x8 x9 x10 x11 x12 x13 x14 x15 x16 x17 x18 x19 x20 x21 x22 x23 x24 x25 : α) (l : List α) : atI (x0 :: x1 :: x2 :: x3 :: x4 :: x5 :: x6 :: x7 :: x8 :: x9 :: x10 :: x11 :: x12 :: x13 :: x14 :: x15 :: x16 :: x17 :: x18 :: x19 :: x20 :: x21 :: x22 :: x23 :: x24 :: x25 :: l) 25 = some x25 := at_nat _ 25
@[simp] theorem at_26 {α : Type} (x0 x1 x2 x3 x4 x5 x6 x7 x8 x9 x10 x11 x12 x13 x14 x15 x16 x17 x18 x19 x20 x21 x22 x23 x24 x25 x26 : α) (l : List α) : atI (x0 :: x1 :: x2 :: x3 :: x4 :: x5 :: x6 :: x7 :: x8 :: x9 :: x10 :: x11 :: x12 :: x13 :: x14 :: x15 :: x16 :: x17 :: x18 :: x19 :: x20 :: x21 :: x22 :: x23 :: x24 :: x25 :: x26 :: l) 26 = some x26 := at_nat _ 26
@[simp] theorem at_27 {α : Type} (x0 x1 x2 x3 x4 x5 x6 x7 x8 x9 x10 x11 x12 x13 x14 x15 x16 x17 x18 x19 x20 x21 x22 x23 x24 x25 x26 x27 : α) (l : List α) : atI (x0 :: x1 :: x2 :: x3 :: x4 :: x5 :: x6 :: x7 :: x8 :: x9 :: x10 :: x11 :: x12 :: x13 :: x14 :: x15 :: x16 :: x17 :: x18 :: x19 :: x20 :: x21 :: x22 :: x23 :: x24 :: x25 :: x26 :: x27 :: l) 27 = some x27 := at_nat _ 27
@[simp] theorem at_28 {α : Type} (x0 x1 x2 x3 x4 x5 x6 x7 x8 x9 x10 x11 x12 x13 x14 x15 x16 x17 x18 x19 x20 x21 x22 x23 x24 x25 x26 x27 x28 : α) (l : List α) : atI (x0 :: x1 :: x2 :: x3 :: x4 :: x5 :: x6 :: x7 :: x8 :: x9 :: x10 :: x11 :: x12 :: x13 :: x14 :: x15 :: x16 :: x17 :: x18 :: x19 :: x20 :: x21 :: x22 :: x23 :: x24 :: x25 :: x26 :: x27 :: x28 :: l) 28 = some x28 := at_nat _ 28
@[simp] theorem at_29 {α : Type} (x0 x1 x2 x3 x4 x5 x6 x7 x8 x9 x10 x11 x12 x13 x14 x15 x16 x17 x18 x19 x20 x21 x22 x23 x24 x25 x26 x27 x28 x29 : α) (l : List α) : atI (x0 :: x1 :: x2 :: x3 :: x4 :: x5 :: x6 :: x7 :: x8 :: x9 :: x10 :: x11 :: x12 :: x13 :: x14 :: x15 :: x16 :: x17 :: x18 :: x19 :: x20 :: x21 :: x22 :: x23 :: x24 :: x25 :: x26 :: x27 :: x28 :: x29 :: l) 29 = some x29 := at_nat _ 29
@[simp] theorem at_30 {α : Type} (x0 x1 x2 x3 x4 x5 x6 x7 x8 x9 x10 x11 x12 x13 x14 x15 x16 x17 x18 x19 x20 x21 x22 x23 x24 x25 x26 x27 x28 x29 x30 : α) (l : List α) : atI (x0 :: x1 :: x2 :: x3 :: x4 :: x5 :: x6 :: x7 :: x8 :: x9 :: x10 :: x11 :: x12 :: x13 :: x14 :: x15 :: x16 :: x17 :: x18 :: x19 :: x20 :: x21 :: x22 :: x23 :: x24 :: x25 :: x26 :: x27 :: x28 :: x29 :: x30 :: l) 30 = some x30 := at_nat _ 30
@[simp] theorem at_31 {α : Type} (x0 x1 x2 x3 x4 x5 x6 x7 x8 x9 x10 x11 x12 x13 x14 x15 x16 x17 x18 x19 x20 x21 x22 x23 x24 x25 x26 x27 x28 x29 x30 x31 : α) (l : List α) : atI (x0 :: x1 :: x2 :: x3 :: x4 :: x5 :: x6 :: x7 :: x8 :: x9 :: x10 :: x11 :: x12 :: x13 :: x14 :: x15 :: x16 :: x17 :: x18 :: x19 :: x20 :: x21 :: x22 :: x23 :: x24 :: x25 :: x26 :: x27 :: x28 :: x29 :: x30 :: x31 :: l) 31 = some x31 := at_nat _ 31
@[simp] theorem at_32 {α : Type} (x0 x1 x2 x3 x4 x5 x6 x7 x8 x9 x10 x11 x12 x13 x14 x15 x16 x17 x18 x19 x20 x21 x22 x23 x24 x25 x26 x27 x28 x29 x30 x31 x32 : α) (l : List α) : atI (x0 :: x1 :: x2 :: x3 :: x4 :: x5 :: x6 :: x7 :: x8 :: x9 :: x10 :: x11 :: x12 :: x13 :: x14 :: x15 :: x16 :: x17 :: x18 :: x19 :: x20 :: x21 :: x22 :: x23 :: x24 :: x25 :: x26 :: x27 :: x28 :: x29 :: x30 :: x31 :: x32 :: l) 32 = some x32 := at_nat _ 32
section
variable {S : Sg} {k : Nat} {kvs : List (List Key × D)} {f : PC → Int}
end
def Row.all {κ : Type} : Row κ → List κ
  | .set a _ => [a]
  | .mark _ => []
  | .ask x => [x]
  | .un _ a x => [a, x]
  | .bi _ a x y => [a, x, y]
  | .times a b x y => [a, b, x, y]
theorem lc_drawI {α : Type} {h : α → D} {ok : Sg → Prop} {f : FG} {fe : FE} {env : Env} (P : α → Prop) (G : Sg) (hok : ∀ c T, ok (St c (G ++ T))) : ∀ (ds : List D) (c : StC) (acc : List α) (T : Sg), (∀ d ∈ ds, ∃ env1, f d env = some env1 ∧ ∀ c T, ∃ c' T' x, fe env1 (St c (G ++ T)) = .ok (h x) (St c' (G ++ (T ++ T'))) ∧ P x) → acc.length + ds.length ≤ 10000 →
    ∃ (c' : StC) (T' : Sg) (xs : List α), lcL ok f fYes fe env (G.length + 2) ds (St c (G ++ MO.lst (acc.map h) :: T)) = .ok () (St c' (G ++ MO.lst ((acc ++ xs).map h) :: (T ++ T'))) ∧ (∀ x ∈ xs, P x) ∧ xs.length = ds.length
  | [], c, acc, T, _, _ => ⟨c, [], [], by simp [lcL, hok], by simp, rfl⟩
  | d :: ds, c, acc, T, hh, hl => by
    rw [List.length_cons] at hl
    obtain ⟨env1, e1, hf⟩ := hh d List.mem_cons_self
    obtain ⟨c1, T1, x, e2, px⟩ := hf c (MO.lst (acc.map h) :: T)
    obtain ⟨c2, T2, xs, e3, pxs, hn⟩ := lc_drawI P G hok ds c1 (acc ++ [x]) (T ++ T1) (fun z hz => hh z (List.mem_cons_of_mem _ hz)) (by simp; omega)
    refine ⟨c2, T1 ++ T2, x :: xs, ?_, ?_, by simp [hn]⟩
    · unfold lcL
      rw [if_pos (hok _ _), e1]
      simp only [fYes, Res.quiet, Res.bind_ok, if_true, e2]
      have hg : (St c1 (G ++ (MO.lst (acc.map h) :: T ++ T1)))[G.length + 2]? = some (.lst (acc.map h)) := by
        rw [St_k]; exact app_get0 G _ _
      rw [hg]
      dsimp only
      rw [if_pos (by simp [sizeLine]; omega)]
      have hs : (St c1 (G ++ (MO.lst (acc.map h) :: T ++ T1))).set (G.length + 2) (.lst (acc.map h ++ [h x])) = St c1 (G ++ MO.lst ((acc ++ [x]).map h) :: (T ++ T1)) := by
        show SX _ _ _ _ _ = _
        simp [St, SX]
      rw [hs, e3]
      simp
    · intro z hz
      rcases List.mem_cons.mp hz with rfl | hz
      · exact px
      · exact pxs z hz
theorem fLc_drawJ {α : Type} {h : α → D} {own : List Nat} {fi : FI} {T : Tg} {fe : FE} {env : Env} (P : α → Prop) (c c1 : StC) (G0 G : Sg) (ds : List D) {ok : Sg → Prop} (hi : fi env (St c G0) = .ok ⟨ds, ok⟩ (St c1 G)) (hok : ∀ c T, ok (St c (G ++ T))) (hx : noExc env = true)
    (hf : ∀ d ∈ ds, ∃ env1, T.f d (wipeE env own) = some env1 ∧ ∀ c T, ∃ c' T' x, fe env1 (St c (G ++ T)) = .ok (h x) (St c' (G ++ (T ++ T'))) ∧ P x) (hl : ds.length ≤ 10000) :
    ∃ (c' : StC) (U : Sg) (y : D) (xs : List α), fLc true own fi T fYes fe env (St c G0) = .ok y (St c' (G ++ U)) ∧ lstD (St c' (G ++ U)) y = some (xs.map h) ∧ (∀ x ∈ xs, P x) ∧ xs.length = ds.length := by
  obtain ⟨c', T', xs, e, p, hn⟩ := lc_drawI P G hok ds c1 [] [] hf (by simpa using hl)
  have e' : lcL ok T.f fYes fe (wipeE env own) (St c1 G).length ds (St c1 G ++ [.lst []]) = .ok () (St c' (G ++ MO.lst (xs.map h) :: T')) := by simpa using e
  have hk : (St c' (G ++ MO.lst (xs.map h) :: T'))[(St c1 G).length]? = some (.lst (xs.map h)) := by
    rw [St_len, St_k]; exact app_get0 G _ _
  have key : fLc true own fi T fYes fe env (St c G0) = lcEnd true (St c1 G).length (St c1 G) (St c' (G ++ MO.lst (xs.map h) :: T')) := by
    unfold fLc
    rw [hi]
    simp only [Res.bind_ok, hx, if_true]
    rw [e']
    rfl
  unfold lcEnd at key
  rw [if_pos rfl] at key
  simp only [hk] at key
  split at key
  · exact ⟨c1, [], .il (xs.map h), xs, by rw [key, List.append_nil], rfl, p, hn⟩
  · exact ⟨c', MO.lst (xs.map h) :: T', .obj (St c1 G).length, xs, key, lstD_obj hk, p, hn⟩
theorem cutS_ok {z : Str} (hz : z.length ≤ sizeLine) (lo hi : Option Int) (S : Sg) : dCut (.str z) lo hi S = .ok (.str (cutS z lo hi)) S := by
  show (if z.length ≤ sizeLine then Res.ok (D.str (cutS z lo hi)) S else .st) = _
  rw [if_pos hz]
theorem QL.of {S : Sg} : ∀ {ds : List D}, (∀ d ∈ ds, ∃ p, QR S d p) → ∃ ps, QL S ds ps
  | [], _ => ⟨[], .nil⟩
  | d :: ds, h => by
    obtain ⟨p, hp⟩ := h d List.mem_cons_self
    obtain ⟨ps, hps⟩ := QL.of (ds := ds) fun d hd => h d (List.mem_cons_of_mem _ hd)
    exact ⟨p :: ps, .cons hp hps⟩
section
variable {S : Sg} {k h : Nat} {w n m : Int}
end
def Term.ex (t : Term) (w n i j : Int) : Int := t.e0 + t.e1 * i + t.e2 * j + w * (t.e3 * i + t.e4 * j + t.e5 * n)
def sliceF (f : PC → Int) (W : Int) (l : Str) (hi : Int) : Nat → Int
  | 0 => 0
  | k + 1 => sliceF f W l hi k * W + f (l, hi - 1 - k)
def Thing.val (W n i j : Int) (s : Mc) : Thing → Int
  | .slice l a b => sliceF s.f W l (b.at n i j) (b.at n i j - a.at n i j).toNat
  | .mark => s.m
def thVal (W n i j : Int) (s : Mc) (acc : Int) (ths : List Thing) : Int := ths.foldl (fun a th => a * th.val W n i j s) acc
def Term.val (w : Nat) (n i j : Int) (s : Mc) (t : Term) : Int := thVal (2 ^ w) n i j s (t.f * 2 ^ (t.ex w n i j).toNat) t.th
section
variable {S : Sg} {q k h w : Nat} {n : Int} {r : Nat} {p : Mc × Bool} {b : Bool} {W : Int}
end
def t0 (f : Int) (ths : List Thing) : Term := ⟨f, 0, 0, 0, 0, 0, 0, ths⟩
theorem joinL_nil : ∀ ps : List (List Nat), TL.joinL [] ps = ps.flatten
  | [] => rfl
  | [p] => by simp [TL.joinL]
  | p :: q :: r => by
    show p ++ ([] ++ TL.joinL [] (q :: r)) = _
    rw [joinL_nil (q :: r)]
    simp
end G
namespace G
open PySem PySem.Spec L2 TL NumText
def lineT (ws : List Str) : Str := Txt.join " " ws
theorem lineT_cons (w : Str) {ws : List Str} (h : ws ≠ []) : lineT (w :: ws) = w ++ (" " : Str) ++ lineT ws := by
  cases ws with
  | nil => exact absurd rfl h
  | cons q r =>
    apply TL.ext_tl
    rw [TL.tl_append, TL.tl_append]
    unfold lineT
    rw [TL.join_eq, TL.join_eq, TL.tl_join, TL.tl_join]
    show TL.joinL _ (TL.tl w :: TL.tl q :: r.map TL.tl) = _
    show TL.tl w ++ (TL.tl " " ++ TL.joinL _ (TL.tl q :: r.map TL.tl)) = _
    rw [List.append_assoc]
    rfl
theorem lineT_one (w : Str) : lineT [w] = w := by
  apply TL.ext_tl
  unfold lineT
  rw [TL.join_eq, TL.tl_join]
  rfl
end G
namespace G
open PySem PySem.Spec L2
structure Num where
  w : Nat
  n : Nat
  x : Int
structure Num.ok (z : Num) : Prop where
  w1 : 4 ≤ z.w
  w2 : z.w ≤ 16
  n1 : 1 ≤ z.n
  n2 : z.n ≤ 8
  x1 : 0 ≤ z.x
  x2 : z.x < (2 ^ z.w) ^ z.n
def Num.words (z : Num) : D := nm (2 ^ z.w) z.n z.x
def Num.d (z : Num) : D := .tup true [.int z.w, z.words]
abbrev Kept := List (Str × Num)
section
variable {S S' : Sg} {d k p u : Nat} {kv : Kept} {past und : List D}
end
theorem strsD_strs : ∀ ys : List Str, strsD (ys.map D.str) = some ys
  | [] => rfl
  | y :: ys => by simp [strsD, strsD_strs ys]
def wordsOf (t : Str) : List Str := Txt.split t " "
theorem spl_len (S : List Nat) : ∀ (l : List Nat) (k : Nat) (acc : List Nat) (p : List Nat), p ∈ TL.spl S k acc l → p.length ≤ acc.length + l.length
  | [], k, acc, p, h => by
    rw [TL.spl_nil] at h
    rw [List.mem_singleton.mp h]
    omega
  | c :: r, 0, acc, p, h => by
    cases hp : TL.pre S (c :: r) with
    | true =>
      rw [TL.spl_hit hp] at h
      rcases List.mem_cons.mp h with h | h
      · rw [h]; omega
      · have := spl_len S r _ _ p h
        simp only [List.length_cons, List.length_nil] at *
        omega
    | false =>
      rw [TL.spl_miss hp] at h
      have := spl_len S r _ _ p h
      simp only [List.length_cons, List.length_append, List.length_nil] at *
      omega
  | c :: r, k + 1, acc, p, h => by
    have := spl_len S r k acc p h
    simp only [List.length_cons] at *
    omega
theorem spl_num (S : List Nat) : ∀ (l : List Nat) (k : Nat) (acc : List Nat), (TL.spl S k acc l).length ≤ l.length + 1 ∧ TL.spl S k acc l ≠ []
  | [], k, acc => by
    rw [TL.spl_nil]
    exact ⟨by simp, by simp⟩
  | c :: r, 0, acc => by
    cases hp : TL.pre S (c :: r) with
    | true =>
      rw [TL.spl_hit hp]
      have := (spl_num S r (S.length - 1) []).1
      exact ⟨by simp only [List.length_cons]; omega, by simp⟩
    | false =>
      rw [TL.spl_miss hp]
      have := spl_num S r 0 (acc ++ [c])
      exact ⟨by simp only [List.length_cons]; omega, this.2⟩
  | c :: r, k + 1, acc => by
    have := spl_num S r k acc
    exact ⟨by show (TL.spl S k acc r).length ≤ _; simp only [List.length_cons]; omega, this.2⟩
theorem tl_len (x : Str) : (TL.tl x).length = x.length := by show x.cps.toList.length = x.cps.size; simp
theorem words_spl (t : Str) : (wordsOf t).map TL.tl = TL.spl [32] 0 [] (TL.tl t) := by
  have e : TL.tl (" " : Str) = [32] := by decide +kernel
  have := TL.split_spl t " " (by rw [e]; simp) (TL.kind_ok (by decide +kernel))
  rw [e] at this
  exact this
theorem words_le (t : Str) : ∀ a ∈ wordsOf t, a.length ≤ t.length := fun a ha => by
  have h : TL.tl a ∈ (wordsOf t).map TL.tl := List.mem_map.mpr ⟨a, ha, rfl⟩
  rw [words_spl] at h
  have := spl_len _ _ _ _ _ h
  rw [tl_len, tl_len] at this
  simpa using this
theorem words_num (t : Str) : (wordsOf t).length ≤ t.length + 1 := by
  have := (spl_num [32] (TL.tl t) 0 []).1
  rw [← words_spl, List.length_map, tl_len] at this
  exact this
theorem words_ne (t : Str) : wordsOf t ≠ [] := fun e => by
  have := (spl_num [32] (TL.tl t) 0 []).2
  rw [← words_spl, e] at this
  exact this rfl
end G
namespace G
open PySem PySem.Spec L2 TL NumText
theorem tl_line_cons (w v : Str) (ws : List Str) : TL.tl (lineT (w :: v :: ws)) = TL.tl w ++ 32 :: TL.tl (lineT (v :: ws)) := by
  rw [lineT_cons w (by simp), TL.tl_append, TL.tl_append, List.append_assoc]
  rfl
end G
namespace G
open PySem PySem.Spec L2
structure All (w : World) (K : PySem.W.Frag) (mg : Str → Option Value) : Prop where
  fr : Free mg
  T : ExcT K mg excNames
  f__law_two_to : ∃ f fd, mg "_law_two_to" = some (.ref f) ∧ FnP K "_law_two_to" (top 24) f fd
  f__law_whole : ∃ f fd, mg "_law_whole" = some (.ref f) ∧ FnP K "_law_whole" (top 25) f fd
  f__law_number : ∃ f fd, mg "_law_number" = some (.ref f) ∧ FnP K "_law_number" (top 26) f fd
  f__law_raised : ∃ f fd, mg "_law_raised" = some (.ref f) ∧ FnP K "_law_raised" (top 30) f fd
  f__law_met : ∃ f fd, mg "_law_met" = some (.ref f) ∧ FnP K "_law_met" (top 31) f fd
  f_word_by : ∃ f fd, mg "word_by" = some (.ref f) ∧ FnP K "word_by" (top 17) f fd
  f_read : ∃ f fd, mg "read" = some (.ref f) ∧ FnP K "read" (top 18) f fd
  f__law_due : ∃ f fd, mg "_law_due" = some (.ref f) ∧ FnP K "_law_due" (top 27) f fd
  f__law_mixed : ∃ f fd, mg "_law_mixed" = some (.ref f) ∧ FnP K "_law_mixed" (top 21) f fd
  f__law_fill : ∃ f fd, mg "_law_fill" = some (.ref f) ∧ FnP K "_law_fill" (top 22) f fd
  f__law_take : ∃ f fd, mg "_law_take" = some (.ref f) ∧ FnP K "_law_take" (top 23) f fd
  f__law_sign : ∃ f fd, mg "_law_sign" = some (.ref f) ∧ FnP K "_law_sign" (top 28) f fd
  f__law_spoilt : ∃ f fd, mg "_law_spoilt" = some (.ref f) ∧ FnP K "_law_spoilt" (top 29) f fd
  f__law_fresh : ∃ f fd, mg "_law_fresh" = some (.ref f) ∧ FnP K "_law_fresh" (top 20) f fd
  f_law : ∃ f fd, mg "law" = some (.ref f) ∧ FnP K "law" (top 32) f fd
section
variable {P : Program} {w : World} {K : PySem.W.Frag} {mg : Str → Option Value} {base : Heap}
noncomputable def b__law_two_to_1 : FS := (sSeq (sAsg (fBin dMul (fC (.int 2)) (fVar 1)) (gNm 1))
  sNil)
noncomputable def g__law_two_to : FS := (sSeq (sAsg (fC (.int 1)) (gNm 1))
  (sSeq (sFor (fIt iRange1 (fCons (fVar 0) fNil)) (gNm 2) b__law_two_to_1)
  (sSeq (sRet (fVar 1))
  sNil)))
noncomputable def F__law_two_to : Fn := runF 3 g__law_two_to
theorem s__law_two_to : FnScope ["_law_many", "_law_found", "_law_k"] ["_law_many"] (defScope (top 24)) := ⟨rfl, rfl, rfl, by decide +kernel, rfl, by decide +kernel, by decide +kernel⟩
theorem k__law_two_to (A : All w K mg) : FnK P w K mg base 1 ⟨"_law_two_to", 1, F__law_two_to⟩ := by
  obtain ⟨f, fd, hm, F⟩ := A.f__law_two_to
  exact fn_in A.fr (He5.fun_of F) s__law_two_to hm (FunD.bindsN (ps := ["_law_many"]) F fun _ _ _ _ _ _ us hl => match us, hl with | [_], _ => rfl) fun X W h =>
  (dss_cons (h.set de_int)
  (dss_cons (h.for_ (h.range1 (h.cons h.var da_nil)) (InE.nm h) (dss_cons (h.set (h.mul de_int h.var))
  dss_nil))
  (dss_cons (ds_ret h.var)
  dss_nil)))
theorem _law_two_to_ok {k : Int} {S : Sg} (h0 : 0 ≤ k) (h1 : k ≤ 1000000) : F__law_two_to [.int k] S = .ok (.int (2 ^ k.toNat)) S := by
  obtain ⟨y, e⟩ := dbl_run' (env := [some (.v (.int k)), some (.v (.int 1)), none]) (S := S) (g := b__law_two_to_1) (lo := 0) (st := 1) 1 2 1 k.toNat rfl (by simp) (by simp) rfl
  simp [F__law_two_to, g__law_two_to, runF_e, startE, range1 (j := k) (by omega) (by omega), List.replicate, e]
noncomputable def g__law_whole : FS := (sSeq (sRet (fAndV (fCall oIsi (fCons (fVar 0) (fCons (fC (.ty "int")) fNil))) (fNotV (fCall oIsi (fCons (fVar 0) (fCons (fC (.ty "bool")) fNil))))))
  sNil)
noncomputable def F__law_whole : Fn := runF 1 g__law_whole
theorem s__law_whole : FnScope ["_law_thing"] ["_law_thing"] (defScope (top 25)) := ⟨rfl, rfl, rfl, by decide +kernel, rfl, by decide +kernel, by decide +kernel⟩
theorem k__law_whole (A : All w K mg) : FnK P w K mg base 1 ⟨"_law_whole", 1, F__law_whole⟩ := by
  obtain ⟨f, fd, hm, F⟩ := A.f__law_whole
  exact fn_in A.fr (He5.fun_of F) s__law_whole hm (FunD.bindsN (ps := ["_law_thing"]) F fun _ _ _ _ _ _ us hl => match us, hl with | [_], _ => rfl) fun X W h =>
  (dss_cons (ds_ret (de_and (h.isinstance_ (h.cons h.var (h.cons h.tyv da_nil))) (de_one (de_not (h.isinstance_ (h.cons h.var (h.cons h.tyv da_nil)))))))
  dss_nil)
theorem _law_whole_int (x : Int) (S : Sg) : F__law_whole [.int x] S = .ok (.bl true) S := by
  simp [F__law_whole, g__law_whole, runF_e, startE]
noncomputable def c__law_number_1 : FE := (fChain dLe dLt (fC (.int 0)) (fVar 3) (fCall F__law_two_to (fCons (fVar 1) fNil)))
noncomputable def c__law_number_2 : FE := (fCall F__law_whole (fCons (fVar 3) fNil))
noncomputable def g__law_number : FS := (sSeq (sIf (fOr (fNot (fTru (fCall oIsi (fCons (fVar 0) (fCons (fC (.ty "tuple")) fNil))))) (fOr (fB (fBin dNe (fCall oLen (fCons (fVar 0) fNil)) (fVar 2))) (fNot (fTru (fCall oAll (fCons (fLc true [3] (fSeq (fVar 0)) (.one 3) fYes c__law_number_2) fNil)))))) (sSeq (sRet (fC (.bl false)))
  sNil) sNil)
  (sSeq (sRet (fCall oAll (fCons (fLc true [3] (fSeq (fVar 0)) (.one 3) fYes c__law_number_1) fNil)))
  sNil))
noncomputable def F__law_number : Fn := runF 4 g__law_number
theorem s__law_number : FnScope ["_law_thing", "_law_w", "_law_n", "_law_word"] ["_law_thing", "_law_w", "_law_n"] (defScope (top 26)) := ⟨rfl, rfl, rfl, by decide +kernel, rfl, by decide +kernel, by decide +kernel⟩
theorem k__law_number (A : All w K mg) : FnK P w K mg base 2 ⟨"_law_number", 3, F__law_number⟩ := by
  obtain ⟨f, fd, hm, F⟩ := A.f__law_number
  exact fn_in A.fr (He5.fun_of F) s__law_number hm (FunD.bindsN (ps := ["_law_thing", "_law_w", "_law_n"]) F fun _ _ _ _ _ _ us hl => match us, hl with | [_, _, _], _ => rfl) fun X W h =>
  (dss_cons (ds_if (DW.dt (dw_or (dt_not (dt_tru (h.isinstance_ (h.cons h.var (h.cons h.tyv da_nil))) rfl)) (dw_or (h.ne.tv (h.len_ (h.cons h.var da_nil)) h.var) (dw_or1 (dt_not (dt_tru (h.all_ (h.cons (h.lc [("_law_word", 3)] (di_seq h.var) (fun s H C cl fp => have b := h.blk s H C cl fp; b.nmB) (fun _ _ _ _ _ => pts_yes) (fun s H C cl fp => have b := h.blk s H C cl fp; (b.call (k__law_whole A) (b.cons b.var da_nil) (FsN.cons FsN.nil).len))) da_nil)) rfl)))))) (dss_cons (ds_ret de_bl)
  dss_nil) dss_nil)
  (dss_cons (ds_ret (h.all_ (h.cons (h.lc [("_law_word", 3)] (di_seq h.var) (fun s H C cl fp => have b := h.blk s H C cl fp; b.nmB) (fun _ _ _ _ _ => pts_yes) (fun s H C cl fp => have b := h.blk s H C cl fp; (b.le.ce b.lt de_int b.var (b.call (k__law_two_to A) (b.cons b.var da_nil) (FsN.cons FsN.nil).len)))) da_nil)))
  dss_nil))
theorem _law_number_ok (ns : List Int) (w n : Int) (S : Sg) (hn : (ns.length : Int) = n) (hw0 : 0 ≤ w) (hw : w ≤ 60) (hl : ns.length ≤ sizeLine) (hd : ∀ d ∈ ns, 0 ≤ d ∧ d < 2 ^ w.toNat) : F__law_number [.tup true (ns.map .int), .int w, .int n] S = .ok (.bl true) S := by
  have hT : ∀ S, F__law_two_to [.int w] S = .ok (.int (2 ^ w.toNat)) S := fun S => _law_two_to_ok hw0 (by omega)
  have e1 : fLc true [3] (fSeq (fVar 0)) (.one 3) fYes c__law_number_2 [some (.v (.tup true (ns.map .int))), some (.v (.int w)), some (.v (.int n)), none] S = .ok (.il (ns.map fun _ => D.bl true)) S :=
    fLc_mapf (k := D.int) (fun _ => D.bl true) (by simp) rfl (fun d hd => ⟨_, rfl, fun T => by simp [c__law_number_2, wipeE, _law_whole_int]⟩) hl fun _ _ => rfl
  have e2 : fLc true [3] (fSeq (fVar 0)) (.one 3) fYes c__law_number_1 [some (.v (.tup true (ns.map .int))), some (.v (.int w)), some (.v (.int n)), none] S = .ok (.il (ns.map fun _ => D.bl true)) S :=
    fLc_mapf (k := D.int) (fun _ => D.bl true) (by simp) rfl (fun x hx => by
      have := hd x hx
      exact ⟨_, rfl, fun T => by simp [c__law_number_1, wipeE, this.1, this.2, hT]⟩) hl fun _ _ => rfl
  have e3 := oAll_map (fun _ => true) ns S
  simp [F__law_number, g__law_number, runF_e, startE, List.replicate, hn, e1, e2, e3]
noncomputable def g__law_raised : FS := (sSeq (sIf (fB (fBin dEq (fVar 0) (fC (.int 0)))) (sSeq (sRaiseE "NoFit" (fVar 1))
  sNil) sNil)
  (sSeq (sIf (fB (fBin dEq (fVar 0) (fC (.int 1)))) (sSeq (sRaiseE "NoText" (fVar 1))
  sNil) sNil)
  (sSeq (sIf (fB (fBin dEq (fVar 0) (fC (.int 2)))) (sSeq (sRaiseE "NoCell" (fVar 1))
  sNil) sNil)
  (sSeq (sIf (fB (fBin dEq (fVar 0) (fC (.int 3)))) (sSeq (sRaiseE "NoWord" (fVar 1))
  sNil) sNil)
  (sSeq (sIf (fB (fBin dEq (fVar 0) (fC (.int 4)))) (sSeq (sRaiseE "NoRow" (fVar 1))
  sNil) sNil)
  (sSeq (sIf (fB (fBin dEq (fVar 0) (fC (.int 5)))) (sSeq (sRaiseE "NoTelling" (fVar 1))
  sNil) sNil)
  (sSeq (sIf (fB (fBin dEq (fVar 0) (fC (.int 6)))) (sSeq (sRaiseE "NoDeed" (fVar 1))
  sNil) sNil)
  (sSeq (sIf (fB (fBin dEq (fVar 0) (fC (.int 7)))) (sSeq (sRaiseE "NoQuotient" (fVar 1))
  sNil) sNil)
  (sSeq (sIf (fB (fBin dEq (fVar 0) (fC (.int 8)))) (sSeq (sRaiseE "TooMany" (fVar 1))
  sNil) sNil)
  (sSeq (sIf (fB (fBin dEq (fVar 0) (fC (.int 9)))) (sSeq (sRaiseE "NoLine" (fVar 1))
  sNil) sNil)
  (sSeq (sIf (fB (fBin dEq (fVar 0) (fC (.int 10)))) (sSeq (sRaiseE "NoName" (fVar 1))
  sNil) sNil)
  (sSeq (sIf (fB (fBin dEq (fVar 0) (fC (.int 11)))) (sSeq (sRaiseE "NoWidth" (fVar 1))
  sNil) sNil)
  (sSeq (sIf (fB (fBin dEq (fVar 0) (fC (.int 12)))) (sSeq (sRaiseE "NoPair" (fVar 1))
  sNil) sNil)
  (sSeq (sRaiseE "NoUndo" (fVar 1))
  sNil))))))))))))))
noncomputable def F__law_raised : Fn := runF 2 g__law_raised
theorem s__law_raised : FnScope ["_law_which", "_law_text"] ["_law_which", "_law_text"] (defScope (top 30)) := ⟨rfl, rfl, rfl, by decide +kernel, rfl, by decide +kernel, by decide +kernel⟩
theorem k__law_raised (A : All w K mg) : FnK P w K mg base 1 ⟨"_law_raised", 2, F__law_raised⟩ := by
  obtain ⟨f, fd, hm, F⟩ := A.f__law_raised
  exact fn_in A.fr (He5.fun_of F) s__law_raised hm (FunD.bindsN (ps := ["_law_which", "_law_text"]) F fun _ _ _ _ _ _ us hl => match us, hl with | [_, _], _ => rfl) fun X W h =>
  (dss_cons (ds_if (h.eq.tv h.var de_int) (dss_cons (h.raise1 (A.T.own "NoFit" (by decide +kernel)) h.var)
  dss_nil) dss_nil)
  (dss_cons (ds_if (h.eq.tv h.var de_int) (dss_cons (h.raise1 (A.T.own "NoText" (by decide +kernel)) h.var)
  dss_nil) dss_nil)
  (dss_cons (ds_if (h.eq.tv h.var de_int) (dss_cons (h.raise1 (A.T.own "NoCell" (by decide +kernel)) h.var)
  dss_nil) dss_nil)
  (dss_cons (ds_if (h.eq.tv h.var de_int) (dss_cons (h.raise1 (A.T.own "NoWord" (by decide +kernel)) h.var)
  dss_nil) dss_nil)
  (dss_cons (ds_if (h.eq.tv h.var de_int) (dss_cons (h.raise1 (A.T.own "NoRow" (by decide +kernel)) h.var)
  dss_nil) dss_nil)
  (dss_cons (ds_if (h.eq.tv h.var de_int) (dss_cons (h.raise1 (A.T.own "NoTelling" (by decide +kernel)) h.var)
  dss_nil) dss_nil)
  (dss_cons (ds_if (h.eq.tv h.var de_int) (dss_cons (h.raise1 (A.T.own "NoDeed" (by decide +kernel)) h.var)
  dss_nil) dss_nil)
  (dss_cons (ds_if (h.eq.tv h.var de_int) (dss_cons (h.raise1 (A.T.own "NoQuotient" (by decide +kernel)) h.var)
  dss_nil) dss_nil)
  (dss_cons (ds_if (h.eq.tv h.var de_int) (dss_cons (h.raise1 (A.T.own "TooMany" (by decide +kernel)) h.var)
  dss_nil) dss_nil)
  (dss_cons (ds_if (h.eq.tv h.var de_int) (dss_cons (h.raise1 (A.T.own "NoLine" (by decide +kernel)) h.var)
  dss_nil) dss_nil)
  (dss_cons (ds_if (h.eq.tv h.var de_int) (dss_cons (h.raise1 (A.T.own "NoName" (by decide +kernel)) h.var)
  dss_nil) dss_nil)
  (dss_cons (ds_if (h.eq.tv h.var de_int) (dss_cons (h.raise1 (A.T.own "NoWidth" (by decide +kernel)) h.var)
  dss_nil) dss_nil)
  (dss_cons (ds_if (h.eq.tv h.var de_int) (dss_cons (h.raise1 (A.T.own "NoPair" (by decide +kernel)) h.var)
  dss_nil) dss_nil)
  (dss_cons (h.raise1 (A.T.own "NoUndo" (by decide +kernel)) h.var)
  dss_nil))))))))))))))
def xs14 : List Str := ["NoFit", "NoText", "NoCell", "NoWord", "NoRow", "NoTelling", "NoDeed", "NoQuotient", "TooMany", "NoLine", "NoName", "NoWidth", "NoPair", "NoUndo"]
theorem upto14 {k : Nat} (hk : k < 14) : k = 0 ∨ k = 1 ∨ k = 2 ∨ k = 3 ∨ k = 4 ∨ k = 5 ∨ k = 6 ∨ k = 7 ∨ k = 8 ∨ k = 9 ∨ k = 10 ∨ k = 11 ∨ k = 12 ∨ k = 13 := by omega
theorem raised_er {k : Nat} (hk : k < 14) (t : Str) (S : Sg) : F__law_raised [.int k, .str t] S = .er (xs14.getD k "") S := by
  rcases upto14 hk with rfl | rfl | rfl | rfl | rfl | rfl | rfl | rfl | rfl | rfl | rfl | rfl | rfl | rfl <;> simp [F__law_raised, g__law_raised, runF_e, startE, List.replicate, xs14]
noncomputable def g__law_met : FS := (sSeq (sAsg (fLst fNil) (gNm 2))
  (sSeq (sTry excNames "WordError" 3 (sSeq (sDrop (fCall F__law_raised (fCons (fVar 0) (fCons (fVar 1) fNil))))
  sNil) (sSeq (sAsg (fLst (fCons (fIsE excNames 3 ["NoFit"]) (fCons (fIsE excNames 3 ["NoText"]) (fCons (fIsE excNames 3 ["NoCell"]) (fCons (fIsE excNames 3 ["NoWord"]) fNil))))) (gNm 2))
  (sSeq (sDrop (fMth "list" oExtend (fVar 2) (fCons (fLst (fCons (fIsE excNames 3 ["NoRow"]) (fCons (fIsE excNames 3 ["NoTelling"]) (fCons (fIsE excNames 3 ["NoDeed"]) fNil)))) fNil)))
  (sSeq (sDrop (fMth "list" oExtend (fVar 2) (fCons (fLst (fCons (fIsE excNames 3 ["NoQuotient"]) (fCons (fIsE excNames 3 ["TooMany"]) (fCons (fIsE excNames 3 ["NoLine"]) fNil)))) fNil)))
  (sSeq (sDrop (fMth "list" oExtend (fVar 2) (fCons (fLst (fCons (fIsE excNames 3 ["NoName"]) (fCons (fIsE excNames 3 ["NoWidth"]) (fCons (fIsE excNames 3 ["NoPair"]) (fCons (fIsE excNames 3 ["NoUndo"]) fNil))))) fNil)))
  sNil)))))
  (sSeq (sRet (fVar 2))
  sNil)))
noncomputable def F__law_met : Fn := runF 4 g__law_met
theorem s__law_met : FnScope ["_law_which", "_law_text", "_law_found", "e"] ["_law_which", "_law_text"] (defScope (top 31)) := ⟨rfl, rfl, rfl, by decide +kernel, rfl, by decide +kernel, by decide +kernel⟩
theorem k__law_met (A : All w K mg) : FnK P w K mg base 2 ⟨"_law_met", 2, F__law_met⟩ := by
  obtain ⟨f, fd, hm, F⟩ := A.f__law_met
  exact fn_in A.fr (He5.fun_of F) s__law_met hm (FunD.bindsN (ps := ["_law_which", "_law_text"]) F fun _ _ _ _ _ _ us hl => match us, hl with | [_, _], _ => rfl) fun X W h =>
  (dss_cons (h.set (de_lst da_nil))
  (dss_cons (h.tryU A.T (fun X W h => (dss_cons (h.expr (h.call (k__law_raised A) (h.cons h.var (h.cons h.var da_nil)) (FsN.cons (FsN.cons FsN.nil)).len))
  dss_nil)) (fun X W u => (dss_cons (u.setS u.fns (de_lst (u.cons (u.isE A.T) (u.cons (u.isE A.T) (u.cons (u.isE A.T) (u.cons (u.isE A.T) da_nil))))))
  (dss_cons (ds_expr (u.m_extend u.var (u.cons (de_lst (u.cons (u.isE A.T) (u.cons (u.isE A.T) (u.cons (u.isE A.T) da_nil)))) da_nil)) (noComp_sw rfl))
  (dss_cons (ds_expr (u.m_extend u.var (u.cons (de_lst (u.cons (u.isE A.T) (u.cons (u.isE A.T) (u.cons (u.isE A.T) da_nil)))) da_nil)) (noComp_sw rfl))
  (dss_cons (ds_expr (u.m_extend u.var (u.cons (de_lst (u.cons (u.isE A.T) (u.cons (u.isE A.T) (u.cons (u.isE A.T) (u.cons (u.isE A.T) da_nil))))) da_nil)) (noComp_sw rfl))
  dss_nil))))))
  (dss_cons (ds_ret h.var)
  dss_nil)))
theorem met_one {k : Nat} {t n : Str} (hn : n ∈ excNames) (hs : subX n "WordError" = true) (S : Sg) (hr : ∀ S, F__law_raised [.int k, .str t] S = .er n S) :
    ∃ T, F__law_met [.int k, .str t] S = .ok (.obj (S.length + 1)) (S ++ (.lst [] :: .lst ((xs14.map (subX n)).map .bl) :: T)) := by
  have m1 : ∀ (c : Str) env S, env[3]? = some (some (.exc n)) → fIsE excNames 3 [c] env S = .ok (.bl (subX n c)) S := fun c env S hh => fIsE_v hh hn (by simp)
  have x1 : ∀ (a : MO) (u v : List D), u.length ≤ 20 → v.length ≤ 20 → oExtend (.obj (S.length + 1)) [.obj (S.length + 2)] (S ++ [a, .lst u, .lst v]) = .ok .non (S ++ [a, .lst (u ++ v), .lst v]) := fun a u v hu hv => by
    have g1 : (S ++ [a, .lst u, .lst v])[S.length + 1]? = some (.lst u) := by simp
    have g2 : (S ++ [a, .lst u, .lst v])[S.length + 2]? = some (.lst v) := by simp
    unfold oExtend
    simp only [g1, g2]
    rw [if_pos (by unfold sizeLine; omega)]
    simp
  have x2 : ∀ (a b : MO) (u v : List D), u.length ≤ 20 → v.length ≤ 20 → oExtend (.obj (S.length + 1)) [.obj (S.length + 3)] (S ++ [a, .lst u, b, .lst v]) = .ok .non (S ++ [a, .lst (u ++ v), b, .lst v]) := fun a b u v hu hv => by
    have g1 : (S ++ [a, .lst u, b, .lst v])[S.length + 1]? = some (.lst u) := by simp
    have g2 : (S ++ [a, .lst u, b, .lst v])[S.length + 3]? = some (.lst v) := by simp
    unfold oExtend
    simp only [g1, g2]
    rw [if_pos (by unfold sizeLine; omega)]
    simp
  have x3 : ∀ (a b c : MO) (u v : List D), u.length ≤ 20 → v.length ≤ 20 → oExtend (.obj (S.length + 1)) [.obj (S.length + 4)] (S ++ [a, .lst u, b, c, .lst v]) = .ok .non (S ++ [a, .lst (u ++ v), b, c, .lst v]) := fun a b c u v hu hv => by
    have g1 : (S ++ [a, .lst u, b, c, .lst v])[S.length + 1]? = some (.lst u) := by simp
    have g2 : (S ++ [a, .lst u, b, c, .lst v])[S.length + 4]? = some (.lst v) := by simp
    unfold oExtend
    simp only [g1, g2]
    rw [if_pos (by unfold sizeLine; omega)]
    simp
  have ty1 : ∀ (a : MO) (u : List D) (T : Sg), tyM (S ++ (a :: .lst u :: T)) (.obj (S.length + 1)) = some "list" := fun a u T => by
    have g1 : (S ++ (a :: .lst u :: T))[S.length + 1]? = some (.lst u) := by simp
    unfold tyM
    simp only [g1]
  refine ⟨[.lst [.bl (subX n "NoRow"), .bl (subX n "NoTelling"), .bl (subX n "NoDeed")], .lst [.bl (subX n "NoQuotient"), .bl (subX n "TooMany"), .bl (subX n "NoLine")], .lst [.bl (subX n "NoName"), .bl (subX n "NoWidth"), .bl (subX n "NoPair"), .bl (subX n "NoUndo")]], ?_⟩
  simp only [F__law_met, g__law_met, runF_e, startE, sSeq_e, sAsg_e]
  simp [List.replicate, sizeLine]
  rw [sTry_er (env1 := [some (.v (.int k)), some (.v (.str t)), some (.v (.obj S.length)), none]) (S1 := S ++ [MO.lst []]) (n := n) (by rfl) (by simp [hr]) hn (by rfl) hs]
  simp [m1, sizeLine, x1, x2, x3, ty1, xs14, noExc_cons]
theorem met_bools : ∀ k < 14, xs14.map (subX (xs14.getD k "")) = (List.range 14).map fun j => decide (k = j) := by decide +kernel
theorem met_names : ∀ k < 14, xs14.getD k "" ∈ excNames ∧ subX (xs14.getD k "") "WordError" = true := by decide +kernel
theorem met_ok {k : Nat} (hk : k < 14) (t : Str) (S : Sg) : ∃ T, F__law_met [.int k, .str t] S = .ok (.obj (S.length + 1)) (S ++ (.lst [] :: .lst ((List.range 14).map fun j => .bl (decide (k = j))) :: T)) := by
  obtain ⟨h1, h2⟩ := met_names k hk
  obtain ⟨T, e⟩ := met_one h1 h2 S (fun S => raised_er hk t S)
  rw [met_bools k hk, List.map_map] at e
  exact ⟨T, e⟩
noncomputable def b_word_by_1 : FS := (sSeq (sAsg (fBin dAdd (fBin dMul (fC (.int 2)) (fVar 1)) (fCall oInt (fCons (fVar 2) fNil))) (gNm 1))
  sNil)
noncomputable def g_word_by : FS := (sSeq (sAsg (fC (.int 0)) (gNm 1))
  (sSeq (sFor (fSeq (fVar 0)) (gNm 2) b_word_by_1)
  (sSeq (sRet (fVar 1))
  sNil)))
noncomputable def F_word_by : Fn := runF 3 g_word_by
theorem s_word_by : FnScope ["text", "word", "sign"] ["text"] (defScope (top 17)) := ⟨rfl, rfl, rfl, by decide +kernel, rfl, by decide +kernel, by decide +kernel⟩
theorem k_word_by (A : All w K mg) : FnK P w K mg base 1 ⟨"word_by", 1, F_word_by⟩ := by
  obtain ⟨f, fd, hm, F⟩ := A.f_word_by
  exact fn_in A.fr (He5.fun_of F) s_word_by hm (FunD.bindsN (ps := ["text"]) F fun _ _ _ _ _ _ us hl => match us, hl with | [_], _ => rfl) fun X W h =>
  (dss_cons (h.set de_int)
  (dss_cons (h.for_ (di_seq h.var) (InE.nm h) (dss_cons (h.set (h.add (h.mul de_int h.var) (h.int_ (h.cons h.var da_nil))))
  dss_nil))
  (dss_cons (ds_ret h.var)
  dss_nil)))
noncomputable def c_read_1 : FE := (fCall F_word_by (fCons (fVar 3) fNil))
noncomputable def c_read_2 : FE := (fBin dIn (fVar 4) (fC (.str "01")))
noncomputable def b_read_3 : FS := (sSeq (sIf (fOr (fB (fBin dNe (fCall oLen (fCons (fVar 3) fNil)) (fVar 2))) (fNot (fTru (fCall oAll (fCons (fLc true [4] (fSeq (fVar 3)) (.one 4) fYes c_read_2) fNil))))) (sSeq (sRaise "NoText")
  sNil) sNil)
  sNil)
noncomputable def g_read : FS := (sSeq (sAsg (fMth "str" oSplit (fVar 0) (fCons (fC (.str " ")) fNil)) (gNm 1))
  (sSeq (sAsg (fCall oLen (fCons (fBin dIx (fVar 1) (fC (.int 0))) fNil)) (gNm 2))
  (sSeq (sIf (fOr (fNot (fB (fChain dLe dLe (fC (.int 4)) (fVar 2) (fC (.int 16))))) (fB (fBin dGt (fCall oLen (fCons (fVar 1) fNil)) (fC (.int 8))))) (sSeq (sRaise "NoText")
  sNil) sNil)
  (sSeq (sFor (fSeq (fVar 1)) (gNm 3) b_read_3)
  (sSeq (sRet (fTup (fCons (fVar 2) (fCons (fCall oTuple (fCons (fLc true [3] (fSeq (fRev (fVar 1))) (.one 3) fYes c_read_1) fNil)) fNil))))
  sNil)))))
noncomputable def R_read : Fn := runF 5 g_read
theorem s_read : FnScope ["text", "told", "w", "word", "sign"] ["text"] (defScope (top 18)) := ⟨rfl, rfl, rfl, by decide +kernel, rfl, by decide +kernel, by decide +kernel⟩
theorem kr_read (A : All w K mg) : FnK P w K mg base 2 ⟨"read", 1, R_read⟩ := by
  obtain ⟨f, fd, hm, F⟩ := A.f_read
  exact fn_in A.fr (He5.fun_of F) s_read hm (FunD.bindsN (ps := ["text"]) F fun _ _ _ _ _ _ us hl => match us, hl with | [_], _ => rfl) fun X W h =>
  (dss_cons (h.set (h.m_split h.var (h.cons de_str da_nil)))
  (dss_cons (h.set (h.len_ (h.cons (h.ix h.var de_int) da_nil)))
  (dss_cons (ds_if (DW.dt (dw_or (dt_not (h.le.ct h.le de_int h.var de_int)) (dw_or1 (h.gt.tv (h.len_ (h.cons h.var da_nil)) de_int)))) (dss_cons (h.raise (A.T.own "NoText" (by decide +kernel)))
  dss_nil) dss_nil)
  (dss_cons (h.for_ (di_seq h.var) (InE.nm h) (dss_cons (ds_if (DW.dt (dw_or (h.ne.tv (h.len_ (h.cons h.var da_nil)) h.var) (dw_or1 (dt_not (dt_tru (h.all_ (h.cons (h.lc [("sign", 4)] (di_seq h.var) (fun s H C cl fp => have b := h.blk s H C cl fp; b.nmB) (fun _ _ _ _ _ => pts_yes) (fun s H C cl fp => have b := h.blk s H C cl fp; (b.in_.ev b.var de_str))) da_nil)) rfl))))) (dss_cons (h.raise (A.T.own "NoText" (by decide +kernel)))
  dss_nil) dss_nil)
  dss_nil))
  (dss_cons (ds_ret (de_tup (h.cons h.var (h.cons (h.tuple_ (h.cons (h.lc [("word", 3)] (di_seq (de_rev h.var)) (fun s H C cl fp => have b := h.blk s H C cl fp; b.nmB) (fun _ _ _ _ _ => pts_yes) (fun s H C cl fp => have b := h.blk s H C cl fp; (b.call (k_word_by A) (b.cons b.var da_nil) (FsN.cons FsN.nil).len))) da_nil)) da_nil))))
  dss_nil)))))
def wOk (w : Nat) (p : Str) : Bool := decide (p.length = w) && p.cps.toList.all fun c => decide (c ∈ [48, 49])
def wVal (p : Str) : Int := p.cps.toList.foldl (fun (r : Int) (c : Nat) => 2 * r + ((c : Int) - 48)) 0
noncomputable def q_read : Fn := fun ds S => match ds with
  | [.str t] => match Txt.split t " " with
    | p0 :: ps => if t.length ≤ 1000 ∧ (∀ p ∈ p0 :: ps, p.length ≤ 1000) then
        (if ¬ (4 ≤ p0.length ∧ p0.length ≤ 16) ∨ 8 < (p0 :: ps).length ∨ (p0 :: ps).all (wOk p0.length) = false then .er "NoText" S
         else .ok (.tup true [.int p0.length, .tup true ((p0 :: ps).reverse.map fun p => .int (wVal p))]) S) else .st
    | [] => .st
  | _ => .st
theorem word_by_g (p : Str) (S : Sg) (h : p.cps.toList.all (fun c => decide (c ∈ [48, 49])) = true) : F_word_by [.str p] S = .ok (.int (wVal p)) S := by
  have hi : ∀ (c : Nat) S, c = 48 ∨ c = 49 → oInt [.str ⟨#[c]⟩] S = .ok (.int ((c : Int) - 48)) S := by
    have t0 : PySem.intText? (⟨#[48]⟩ : Str) = some 0 := by decide +kernel
    have t1 : PySem.intText? (⟨#[49]⟩ : Str) = some 1 := by decide +kernel
    rintro c S (rfl | rfl)
    · simp only [oInt, t0]
      rfl
    · simp only [oInt, t1]
      rfl
  obtain ⟨y, e⟩ := forL_fold (f := gNm 2) (g := b_word_by_1) (h := fun c : Nat => D.str ⟨#[c]⟩) (step := fun (r : Int) (c : Nat) => 2 * r + ((c : Int) - 48)) (fun r y => [some (.v (.str p)), some (.v (.int r)), y]) (fun _ => S) p.cps.toList 0 none
    (fun c hc b y => ⟨_, rfl, some (.v (.str ⟨#[c]⟩)), by
      have hm := List.all_eq_true.mp h c hc
      have hm2 : c = 48 ∨ c = 49 := by simpa using hm
      simp [b_word_by_1, hi c _ hm2, mulL (i := 2) (by omega) (by omega)]⟩)
  have hs : iSeq (.str p) S = .ok ⟨p.cps.toList.map fun c => D.str ⟨#[c]⟩, fun _ => True⟩ S := rfl
  change _ = SR.nx [some (.v (.str p)), some (.v (.int (wVal p))), y] S at e
  simp [F_word_by, g_word_by, runF_e, startE, List.replicate, hs, e]
theorem read_body (t : Str) (k : Nat) (w : Nat) (p : Str) (y4 : Option EV) (hy : y4 = none) (S : Sg) (hp : p.length ≤ 1000) :
    b_read_3 [some (.v (.str t)), some (.v (.obj k)), some (.v (.int w)), some (.v (.str p)), none] S = if wOk w p = true then .nx [some (.v (.str t)), some (.v (.obj k)), some (.v (.int w)), some (.v (.str p)), none] S else .er "NoText" [some (.v (.str t)), some (.v (.obj k)), some (.v (.int w)), some (.v (.str p)), none] S := by
  have hl : oLen [.str p] S = .ok (.int p.length) S := by
    unfold oLen lenD
    simp only
    rw [if_pos (by unfold sizeLine; omega)]
  have hs : iSeq (.str p) S = .ok ⟨p.cps.toList.map fun c => D.str ⟨#[c]⟩, fun _ => True⟩ S := rfl
  have hin : ∀ (c : Nat) S, dIn (.str ⟨#[c]⟩) (.str "01") S = .ok (.bl (decide (c ∈ [48, 49]))) S := fun c S => rfl
  have e1 : fLc true [4] (fSeq (fVar 3)) (.one 4) fYes c_read_2 [some (.v (.str t)), some (.v (.obj k)), some (.v (.int w)), some (.v (.str p)), none] S = .ok (.il (p.cps.toList.map fun c => D.bl (decide (c ∈ [48, 49])))) S :=
    fLc_mapf (k := fun c : Nat => D.str ⟨#[c]⟩) (fun c => D.bl (decide (c ∈ [48, 49]))) (by simp [hs]) rfl (fun c hc => ⟨_, rfl, fun T => by simp only [c_read_2, wipeE]; rw [fBin_e, fVar_e (d := .str ⟨#[c]⟩) rfl, Res.bind_ok, fC_e, Res.bind_ok, hin]⟩) (by
      have : p.cps.toList.length = p.length := by simp [Str.length]
      rw [this]
      unfold sizeLine
      omega) fun _ _ => rfl
  have e2 := oAll_map (fun c : Nat => decide (c ∈ [48, 49])) p.cps.toList S
  generalize (p.cps.toList.map fun c => D.bl (decide (c ∈ [48, 49]))) = BL at e1 e2
  unfold wOk
  generalize p.cps.toList.all (fun c => decide (c ∈ [48, 49])) = a at *
  by_cases h1 : p.length = w
  · subst h1
    cases a <;> simp [b_read_3, hl, e1, e2]
  · have h1' : ¬ (p.length : Int) = (w : Int) := by omega
    simp [b_read_3, hl, h1, h1']
theorem forL_chkM {α : Type} {h : α → D} {f : FG} {g : FS} {c : Str} {P : Sg → Prop} (E : Option EV → Env) (S : Sg) (ok : α → Bool) (hP : P S) : ∀ (xs : List α) (y : Option EV),
    (∀ x ∈ xs, ∀ y, ∃ env1, f (h x) (E y) = some env1 ∧ ((ok x = true ∧ ∃ y', g env1 S = .nx (E y') S) ∨ (ok x = false ∧ ∃ env', g env1 S = .er c env' S))) →
    (xs.all ok = true ∧ ∃ y', forL P f g (xs.map h) (E y) S = .nx (E y') S) ∨ (xs.all ok = false ∧ ∃ env', forL P f g (xs.map h) (E y) S = .er c env' S)
  | [], y, _ => .inl ⟨rfl, y, if_pos hP⟩
  | x :: xs, y, hs => by
    obtain ⟨env1, e1, q⟩ := hs x List.mem_cons_self y
    rw [List.map_cons]
    unfold forL
    rw [if_pos hP, e1]
    rcases q with ⟨ho, y', e2⟩ | ⟨ho, env', e2⟩
    · simp only [e2, List.all_cons, ho, Bool.true_and]
      exact forL_chkM E S ok hP xs y' fun z hz => hs z (List.mem_cons_of_mem _ hz)
    · exact .inr ⟨by simp [ho], env', by simp only [e2]⟩
theorem read_ok (t p0 : Str) (ps : List Str) (S : Sg) (hsp : Txt.split t " " = p0 :: ps) (ht : t.length ≤ 1000) (hp : ∀ p ∈ p0 :: ps, p.length ≤ 1000) :
    Weak S (R_read [.str t] S) (if ¬ (4 ≤ p0.length ∧ p0.length ≤ 16) ∨ 8 < (p0 :: ps).length ∨ (p0 :: ps).all (wOk p0.length) = false then .er "NoText" S
         else .ok (.tup true [.int p0.length, .tup true ((p0 :: ps).reverse.map fun p => .int (wVal p))]) S) := by
  have e1 : oSplit (.str t) [.str " "] S = .ok (.obj S.length) (S ++ [.lst ((p0 :: ps).map D.str)]) := by
    unfold oSplit
    simp only [hsp]
    refine if_pos ⟨by decide, ?_⟩
    unfold sizeLine
    omega
  have hl : ∀ (p : Str) T, p.length ≤ 1000 → oLen [.str p] T = .ok (.int p.length) T := fun p T h => by
    unfold oLen lenD
    simp only
    rw [if_pos (by unfold sizeLine; omega)]
  have hl0 := hl p0 (S ++ [.lst ((p0 :: ps).map D.str)]) (hp p0 List.mem_cons_self)
  obtain ⟨L, hL⟩ : ∃ L, L = (p0 :: ps).map D.str := ⟨_, rfl⟩
  have hLl : L.length = (p0 :: ps).length := by subst hL; simp
  have hix : dIx (.obj S.length) (.int 0) (S ++ [.lst L]) = .ok (.str p0) (S ++ [.lst L]) := by
    rw [ix_obj (last_get _ _), hL, List.map_cons, at_0, oK_some]
  rw [← hL] at e1 hl0
  have hln : oLen [.obj S.length] (S ++ [.lst L]) = .ok (.int L.length) (S ++ [.lst L]) := oLen_obj (last_get _ _)
  by_cases h1 : 4 ≤ p0.length ∧ p0.length ≤ 16
  · have a1 : (4 : Int) ≤ p0.length := by omega
    have a2 : (p0.length : Int) ≤ 16 := by omega
    by_cases h2 : 8 < (p0 :: ps).length
    · rw [if_pos (.inr (.inl h2))]
      have h2' : (8 : Int) < L.length := by omega
      refine weak_er [.lst L] ?_
      simp [R_read, g_read, runF_e, startE, List.replicate, e1, hix, hl0, hln, a1, a2, h2']
    · have h2' : ¬ (8 : Int) < L.length := by omega
      have hsq : iSeq (.obj S.length) (S ++ [.lst L]) = .ok ⟨L, fun S' => S'[S.length]? = some (.lst L)⟩ (S ++ [.lst L]) := iSeq_obj (last_get _ _)
      have hch := forL_chkM (h := D.str) (f := gNm 3) (g := b_read_3) (c := "NoText") (P := fun S' => S'[S.length]? = some (.lst L)) (fun y => [some (.v (.str t)), some (.v (.obj S.length)), some (.v (.int p0.length)), if okV y = true then y else none, none]) (S ++ [.lst L]) (wOk p0.length) (last_get _ _) (p0 :: ps) none (fun p hpm y => by
        refine ⟨_, rfl, ?_⟩
        have hb := read_body t S.length p0.length p none rfl (S ++ [.lst L]) (hp p hpm)
        by_cases ho : wOk p0.length p = true
        · rw [if_pos ho] at hb
          exact .inl ⟨ho, some (.v (.str p)), hb⟩
        · rw [if_neg ho] at hb
          exact .inr ⟨by simpa using ho, _, hb⟩)
      rw [← hL] at hch
      simp only [ite_self] at hch
      rcases hch with ⟨ha, y, e⟩ | ⟨ha, env', e⟩
      · rw [if_neg (by rw [ha]; simp at h2 ⊢; omega)]
        have hrv : revD (.obj S.length) (S ++ [.lst L]) = .ok (.obj (S ++ [MO.lst L]).length) ((S ++ [MO.lst L]) ++ [MO.lst L.reverse]) := revD_obj (last_get _ _)
        obtain ⟨z, hz⟩ := sl_of y
        rw [hz] at e
        have hrl : L.reverse = (p0 :: ps).reverse.map D.str := by rw [hL, List.map_reverse]
        have hwk : ∀ p ∈ (p0 :: ps).reverse, p.cps.toList.all (fun c => decide (c ∈ [48, 49])) = true := fun p hpm => by
          have := List.all_eq_true.mp ha p (List.mem_reverse.mp hpm)
          unfold wOk at this
          exact (Bool.and_eq_true_iff.mp this).2
        have hgl : ∀ T, ((S ++ [MO.lst L]) ++ [MO.lst L.reverse] ++ T)[(S ++ [MO.lst L]).length]? = some (.lst L.reverse) := fun T => by
          rw [List.append_assoc, List.getElem?_append_right (Nat.le_refl _), Nat.sub_self]
          rfl
        have hsq2 : iSeq (.obj (S ++ [MO.lst L]).length) ((S ++ [MO.lst L]) ++ [MO.lst L.reverse]) = .ok ⟨L.reverse, fun S' => S'[(S ++ [MO.lst L]).length]? = some (.lst L.reverse)⟩ ((S ++ [MO.lst L]) ++ [MO.lst L.reverse]) := iSeq_obj (last_get _ _)
        have e5 : fLc true [3] (fSeq (fRev (fVar 1))) (.one 3) fYes c_read_1 [some (.v (.str t)), some (.v (.obj S.length)), some (.v (.int p0.length)), sl z, none] (S ++ [.lst L]) = .ok (.il ((p0 :: ps).reverse.map fun p => D.int (wVal p))) ((S ++ [MO.lst L]) ++ [MO.lst L.reverse]) :=
          fLc_mapG (k := D.str) (P := fun S' => S'[(S ++ [MO.lst L]).length]? = some (.lst L.reverse)) (fun p => D.int (wVal p)) (by
            rw [← hrl, fSeq_e, fRev_e, fVar_e (d := .obj S.length) rfl, Res.bind_ok, hrv, Res.bind_ok, hsq2]) hgl (by simp [noExc_cons]) (fun p hpm => ⟨_, rfl, fun T => by
              simp only [c_read_1, wipeE, fCall_e, fCons_e, fNil_e]
              rw [fVar_e (d := .str p) rfl, Res.bind_ok, Res.bind_ok, Res.bind_ok, word_by_g p _ (hwk p hpm)]⟩) (by
              rw [List.length_reverse]
              unfold sizeLine
              omega) fun _ _ => rfl
        refine weak_ok [.lst L, .lst L.reverse] ?_ ?_
        · generalize ((p0 :: ps).reverse.map fun p => D.int (wVal p)) = VS at *
          have hap : (S ++ [MO.lst L]) ++ [MO.lst L.reverse] = S ++ [.lst L, .lst L.reverse] := by simp
          rw [hap] at e5
          simp [R_read, g_read, runF_e, startE, List.replicate, e1, hix, hl0, hln, h1.1, h1.2, a1, a2, h2', hsq, e, e5, sizeLine]
        · show D.frees [.int p0.length, .tup true _] = true
          have := frees_map (f := fun p => D.int (wVal p)) (p0 :: ps).reverse fun _ _ => rfl
          simp only [D.frees, D.free, this, Bool.and_self]
      · rw [if_pos (.inr (.inr ha))]
        refine weak_er [.lst L] ?_
        simp [R_read, g_read, runF_e, startE, List.replicate, e1, hix, hl0, hln, h1.1, h1.2, a1, a2, h2', hsq, e]
  · rw [if_pos (.inl h1)]
    refine weak_er [.lst L] ?_
    by_cases a1 : (4 : Int) ≤ p0.length
    · have a2 : ¬ (p0.length : Int) ≤ 16 := by omega
      simp [R_read, g_read, runF_e, startE, List.replicate, e1, hix, hl0, hln, a1, a2]
    · simp [R_read, g_read, runF_e, startE, List.replicate, e1, hix, hl0, hln, a1]
noncomputable abbrev F_read : Fn := q_read
theorem w_read (ds : List D) (S : Sg) (h : ds.length = 1) : Weak S (R_read ds S) (q_read ds S) := by
  unfold q_read
  split
  · rename_i t
    split
    · rename_i p0 ps hsp
      split
      · rename_i hc
        exact read_ok t p0 ps S hsp hc.1 hc.2
      · exact weak_st
    · exact weak_st
  · exact weak_st
theorem k_read (A : All w K mg) : FnK P w K mg base 2 ⟨"read", 1, F_read⟩ := (kr_read A).weak w_read
noncomputable def b__law_due_1 : FS := (sSeq (sAsg (fBin dAdd (fBin dMul (fC (.int 2)) (fVar 6)) (fMth "str" oSIndex (fC (.str "01")) (fCons (fVar 5) fNil))) (gNm 6))
  sNil)
noncomputable def c__law_due_2 : FE := (fBin dNotIn (fVar 5) (fC (.str "01")))
noncomputable def b__law_due_3 : FS := (sSeq (sIf (fOr (fB (fBin dNe (fCall oLen (fCons (fVar 4) fNil)) (fVar 2))) (fTru (fCall oAny (fCons (fLc true [5] (fSeq (fVar 4)) (.one 5) fYes c__law_due_2) fNil)))) (sSeq (sRet (fC .non))
  sNil) sNil)
  (sSeq (sAsg (fC (.int 0)) (gNm 6))
  (sSeq (sFor (fSeq (fVar 4)) (gNm 5) b__law_due_1)
  (sSeq (sDrop (fMth "list" oAppend (fVar 3) (fCons (fVar 6) fNil)))
  sNil))))
noncomputable def g__law_due : FS := (sSeq (sAsg (fMth "str" oSplit (fVar 0) (fCons (fC (.str " ")) fNil)) (gNm 1))
  (sSeq (sAsg (fCall oLen (fCons (fBin dIx (fVar 1) (fC (.int 0))) fNil)) (gNm 2))
  (sSeq (sIf (fOr (fB (fBin dLt (fVar 2) (fC (.int 4)))) (fOr (fB (fBin dGt (fVar 2) (fC (.int 16)))) (fB (fBin dGt (fCall oLen (fCons (fVar 1) fNil)) (fC (.int 8)))))) (sSeq (sRet (fC .non))
  sNil) sNil)
  (sSeq (sAsg (fLst fNil) (gNm 3))
  (sSeq (sFor (fSeq (fRev (fVar 1))) (gNm 4) b__law_due_3)
  (sSeq (sRet (fTup (fCons (fVar 2) (fCons (fCall oTuple (fCons (fVar 3) fNil)) fNil))))
  sNil))))))
noncomputable def F__law_due : Fn := runF 7 g__law_due
theorem s__law_due : FnScope ["_law_text", "_law_words", "_law_w", "_law_number_here", "_law_word", "_law_sign_here", "_law_worth"] ["_law_text"] (defScope (top 27)) := ⟨rfl, rfl, rfl, by decide +kernel, rfl, by decide +kernel, by decide +kernel⟩
theorem k__law_due (A : All w K mg) : FnK P w K mg base 1 ⟨"_law_due", 1, F__law_due⟩ := by
  obtain ⟨f, fd, hm, F⟩ := A.f__law_due
  exact fn_in A.fr (He5.fun_of F) s__law_due hm (FunD.bindsN (ps := ["_law_text"]) F fun _ _ _ _ _ _ us hl => match us, hl with | [_], _ => rfl) fun X W h =>
  (dss_cons (h.set (h.m_split h.var (h.cons de_str da_nil)))
  (dss_cons (h.set (h.len_ (h.cons (h.ix h.var de_int) da_nil)))
  (dss_cons (ds_if (DW.dt (dw_or (h.lt.tv h.var de_int) (dw_or (h.gt.tv h.var de_int) (dw_or1 (h.gt.tv (h.len_ (h.cons h.var da_nil)) de_int))))) (dss_cons (ds_ret de_non)
  dss_nil) dss_nil)
  (dss_cons (h.set (de_lst da_nil))
  (dss_cons (h.for_ (di_seq (de_rev h.var)) (InE.nm h) (dss_cons (ds_if (DW.dt (dw_or (h.ne.tv (h.len_ (h.cons h.var da_nil)) h.var) (dw_or1 (dt_tru (h.any_ (h.cons (h.lc [("_law_sign_here", 5)] (di_seq h.var) (fun s H C cl fp => have b := h.blk s H C cl fp; b.nmB) (fun _ _ _ _ _ => pts_yes) (fun s H C cl fp => have b := h.blk s H C cl fp; (b.notIn.ev b.var de_str))) da_nil)) rfl)))) (dss_cons (ds_ret de_non)
  dss_nil) dss_nil)
  (dss_cons (h.set de_int)
  (dss_cons (h.for_ (di_seq h.var) (InE.nm h) (dss_cons (h.set (h.add (h.mul de_int h.var) (h.m_sindex de_str (h.cons h.var da_nil))))
  dss_nil))
  (dss_cons (h.expr (h.m_append h.var (h.cons h.var da_nil)))
  dss_nil)))))
  (dss_cons (ds_ret (de_tup (h.cons h.var (h.cons (h.tuple_ (h.cons h.var da_nil)) da_nil))))
  dss_nil))))))
def dueD (ws : List Str) : Option (Nat × List Int) := match ws with
  | [] => none
  | p0 :: ps => if ¬ (4 ≤ p0.length ∧ p0.length ≤ 16) ∨ 8 < (p0 :: ps).length ∨ (p0 :: ps).all (wOk p0.length) = false then none else some (p0.length, (p0 :: ps).reverse.map wVal)
theorem due_body (t p : Str) (k k3 w : Nat) (S : Sg) (hp : p.length ≤ 1000) (acc : List D) (h3 : S[k3]? = some (.lst acc)) (ha : acc.length ≤ 100) (y5 y6 : Option D) :
    ∃ z5 z6, b__law_due_3 [some (.v (.str t)), some (.v (.obj k)), some (.v (.int w)), some (.v (.obj k3)), some (.v (.str p)), sl y5, sl y6] S = if wOk w p = true then .nx [some (.v (.str t)), some (.v (.obj k)), some (.v (.int w)), some (.v (.obj k3)), some (.v (.str p)), sl z5, sl z6] (S.set k3 (.lst (acc ++ [.int (wVal p)]))) else .rt .non S := by
  have hl : oLen [.str p] S = .ok (.int p.length) S := by
    unfold oLen lenD
    simp only
    rw [if_pos (by unfold sizeLine; omega)]
  have hs : iSeq (.str p) S = .ok ⟨p.cps.toList.map fun c => D.str ⟨#[c]⟩, fun _ => True⟩ S := rfl
  have hin : ∀ (c : Nat) S, dNotIn (.str ⟨#[c]⟩) (.str "01") S = .ok (.bl (!decide (c ∈ [48, 49]))) S := fun c S => rfl
  have e1 : fLc true [5] (fSeq (fVar 4)) (.one 5) fYes c__law_due_2 [some (.v (.str t)), some (.v (.obj k)), some (.v (.int w)), some (.v (.obj k3)), some (.v (.str p)), sl y5, sl y6] S = .ok (.il (p.cps.toList.map fun c => D.bl (!decide (c ∈ [48, 49])))) S :=
    fLc_mapf (k := fun c : Nat => D.str ⟨#[c]⟩) (fun c => D.bl (!decide (c ∈ [48, 49]))) (by simp [hs]) (by simp [noExc_cons]) (fun c hc => ⟨_, rfl, fun T => by simp only [c__law_due_2, wipeE]; rw [fBin_e, fVar_e (d := .str ⟨#[c]⟩) rfl, Res.bind_ok, fC_e, Res.bind_ok, hin]⟩) (by
      have : p.cps.toList.length = p.length := by simp [Str.length]
      rw [this]
      unfold sizeLine
      omega) fun _ _ => rfl
  have e2 := oAny_map (fun c : Nat => !decide (c ∈ [48, 49])) p.cps.toList S
  have ea : ∀ l : List Nat, l.any (fun c => !decide (c ∈ [48, 49])) = !l.all (fun c => decide (c ∈ [48, 49])) := fun l => by induction l with
    | nil => rfl
    | cons x l ih => rw [List.any_cons, List.all_cons, ih, Bool.not_and]
  rw [ea] at e2
  by_cases h1 : p.length = w
  · cases hb : p.cps.toList.all fun c => decide (c ∈ [48, 49]) with
    | false =>
      have hw : wOk w p = false := by unfold wOk; rw [hb, Bool.and_false]
      rw [hb] at e2
      generalize (p.cps.toList.map fun c => D.bl (!decide (c ∈ [48, 49]))) = BL at e1 e2
      have h1' : (p.length : Int) = (w : Int) := by omega
      exact ⟨y5, y6, by rw [hw]; simp [b__law_due_3, hl, h1', e1, e2]⟩
    | true =>
      have hw : wOk w p = true := by unfold wOk; rw [hb, decide_eq_true h1]; rfl
      have hi : ∀ (c : Nat) S, c = 48 ∨ c = 49 → oSIndex (.str "01") [.str ⟨#[c]⟩] S = .ok (.int ((c : Int) - 48)) S := by
        have t0 : Builtin.Str.occurrences "01" (⟨#[48]⟩ : Str) 0 ("01" : Str).length 1 = [0] := by decide +kernel
        have t1 : Builtin.Str.occurrences "01" (⟨#[49]⟩ : Str) 0 ("01" : Str).length 1 = [1] := by decide +kernel
        rintro c S (rfl | rfl)
        · simp only [oSIndex, t0]; rfl
        · simp only [oSIndex, t1]; rfl
      have ty : ∀ S, tyM S (.str "01") = some "str" := fun S => rfl
      obtain ⟨y, e⟩ := forL_fold (f := gNm 5) (g := b__law_due_1) (h := fun c : Nat => D.str ⟨#[c]⟩) (step := fun (r : Int) (c : Nat) => 2 * r + ((c : Int) - 48)) (fun r y => [some (.v (.str t)), some (.v (.obj k)), some (.v (.int w)), some (.v (.obj k3)), some (.v (.str p)), if okV y = true then y else none, some (.v (.int r))]) (fun _ => S) p.cps.toList 0 (sl y5)
        (fun c hc b y => ⟨_, rfl, some (.v (.str ⟨#[c]⟩)), by
          have hm := List.all_eq_true.mp hb c hc
          have hm2 : c = 48 ∨ c = 49 := by simpa using hm
          simp [b__law_due_1, hi c _ hm2, ty, mulL (i := 2) (by omega) (by omega), okV]⟩)
      have hy5 : (if okV (sl y5) = true then sl y5 else none) = sl y5 := by cases y5 <;> rfl
      rw [hy5] at e
      change _ = SR.nx [some (.v (.str t)), some (.v (.obj k)), some (.v (.int w)), some (.v (.obj k3)), some (.v (.str p)), _, some (.v (.int (wVal p)))] S at e
      obtain ⟨z, hz⟩ := sl_of y
      rw [hz] at e
      have ap := append_ok (d := .int (wVal p)) h3 (by unfold sizeLine; omega)
      have tyl := tyM_obj h3
      rw [hb] at e2
      generalize (p.cps.toList.map fun c => D.bl (!decide (c ∈ [48, 49]))) = BL at e1 e2
      have h1' : (p.length : Int) = (w : Int) := by omega
      exact ⟨z, some (.int (wVal p)), by rw [hw]; simp [b__law_due_3, hl, h1', e1, e2, hs, e, tyl, ap]⟩
  · have hw : wOk w p = false := by unfold wOk; rw [decide_eq_false h1, Bool.false_and]
    have h1' : ¬ (p.length : Int) = (w : Int) := by omega
    exact ⟨y5, y6, by rw [hw]; simp [b__law_due_3, hl, h1']⟩
theorem due_loop (t : Str) (k w : Nat) (S : Sg) (L R : List D) : ∀ (xs : List Str) (acc : List D) (y4 y5 y6 : Option D), (∀ p ∈ xs, p.length ≤ 1000) → acc.length + xs.length ≤ 100 →
    ∃ z4 z5 z6 acc', forL (fun S' => S'[S.length + 2]? = some (.lst R)) (gNm 4) b__law_due_3 (xs.map .str) [some (.v (.str t)), some (.v (.obj k)), some (.v (.int w)), some (.v (.obj (S.length + 1))), sl y4, sl y5, sl y6] (S ++ [MO.lst L, .lst acc, .lst R]) =
      if xs.all (wOk w) = true then .nx [some (.v (.str t)), some (.v (.obj k)), some (.v (.int w)), some (.v (.obj (S.length + 1))), sl z4, sl z5, sl z6] (S ++ [MO.lst L, .lst (acc ++ xs.map fun p => .int (wVal p)), .lst R]) else .rt .non (S ++ [MO.lst L, .lst acc', .lst R])
  | [], acc, y4, y5, y6, _, _ => ⟨y4, y5, y6, acc, by simp [forL]⟩
  | p :: xs, acc, y4, y5, y6, hp, hl => by
    rw [List.length_cons] at hl
    have g2 : (S ++ [MO.lst L, .lst acc, .lst R])[S.length + 2]? = some (MO.lst R) := by simp
    have g1 : (S ++ [MO.lst L, .lst acc, .lst R])[S.length + 1]? = some (MO.lst acc) := by simp
    obtain ⟨z5, z6, e⟩ := due_body t p k (S.length + 1) w (S ++ [MO.lst L, .lst acc, .lst R]) (hp p (by simp)) acc g1 (by omega) y5 y6
    have st : (S ++ [MO.lst L, .lst acc, .lst R]).set (S.length + 1) (.lst (acc ++ [.int (wVal p)])) = S ++ [MO.lst L, .lst (acc ++ [.int (wVal p)]), .lst R] := by simp
    rw [st] at e
    obtain ⟨u4, u5, u6, acc', e'⟩ := due_loop t k w S L R xs (acc ++ [.int (wVal p)]) (some (.str p)) z5 z6 (fun q hq => hp q (List.mem_cons_of_mem _ hq)) (by simp; omega)
    rw [List.map_cons]
    unfold forL
    rw [if_pos g2]
    have eg : gNm 4 (.str p) [some (.v (.str t)), some (.v (.obj k)), some (.v (.int w)), some (.v (.obj (S.length + 1))), sl y4, sl y5, sl y6] = some [some (.v (.str t)), some (.v (.obj k)), some (.v (.int w)), some (.v (.obj (S.length + 1))), some (.v (.str p)), sl y5, sl y6] := rfl
    rw [eg]
    simp only [e]
    cases hw : wOk w p with
    | false => exact ⟨none, none, none, acc, by simp [hw]⟩
    | true =>
      refine ⟨u4, u5, u6, acc', ?_⟩
      rw [List.all_cons, hw, Bool.true_and, if_pos rfl]
      have e'' : forL (fun S' => S'[S.length + 2]? = some (.lst R)) (gNm 4) b__law_due_3 (xs.map .str) [some (.v (.str t)), some (.v (.obj k)), some (.v (.int w)), some (.v (.obj (S.length + 1))), some (.v (.str p)), sl z5, sl z6] (S ++ [MO.lst L, .lst (acc ++ [.int (wVal p)]), .lst R]) = _ := e'
      dsimp only
      rw [e'', List.append_assoc, List.map_cons]
      rfl
def dueR : Option (Nat × List Int) → D
  | none => .non
  | some (w, ns) => .tup true [.int w, .tup true (ns.map .int)]
theorem due_ok (t : Str) (S : Sg) (ht : t.length ≤ 1000) : ∃ T, F__law_due [.str t] S = .ok (dueR (dueD (wordsOf t))) (S ++ T) := by
  have hw : ∀ a ∈ wordsOf t, a.length ≤ 1000 := fun a ha => by have := words_le t a ha; omega
  have hnw : (wordsOf t).length ≤ 1001 := by have := words_num t; omega
  have sp : oSplit (.str t) [.str " "] S = .ok (.obj S.length) (S ++ [MO.lst ((wordsOf t).map .str)]) := by
    unfold oSplit
    simp only
    rw [if_pos ⟨by decide +kernel, by unfold sizeLine; omega⟩]
    rfl
  have tyt : ∀ S, tyM S (.str t) = some "str" := fun S => rfl
  have hne := words_ne t
  generalize wordsOf t = ws at *
  cases ws with
  | nil => exact absurd rfl hne
  | cons p0 ps =>
    obtain ⟨L, hL⟩ : ∃ L, L = (p0 :: ps).map D.str := ⟨_, rfl⟩
    rw [← hL] at sp
    have hLl : L.length = (p0 :: ps).length := by rw [hL, List.length_map]
    have hk : (S ++ [MO.lst L])[S.length]? = some (.lst L) := by simp
    have i0 : dIx (.obj S.length) (.int 0) (S ++ [MO.lst L]) = .ok (.str p0) (S ++ [MO.lst L]) := by
      rw [ix_obj hk, hL, show (0 : Int) = ((0 : Nat) : Int) from rfl, at_nat]; rfl
    have hl0 : oLen [.str p0] (S ++ [MO.lst L]) = .ok (.int p0.length) (S ++ [MO.lst L]) := by
      have := hw p0 (by simp)
      unfold oLen lenD
      simp only
      rw [if_pos (by unfold sizeLine; omega)]
    have ol := oLen_obj hk
    unfold dueD
    dsimp only
    by_cases h1 : 4 ≤ p0.length ∧ p0.length ≤ 16
    · have a1 : ¬ (p0.length : Int) < 4 := by omega
      have a2 : ¬ (16 : Int) < p0.length := by omega
      by_cases h2 : 8 < (p0 :: ps).length
      · have h2' : (8 : Int) < L.length := by omega
        rw [if_pos (.inr (.inl h2))]
        exact ⟨[.lst L], by simp [F__law_due, g__law_due, runF_e, startE, List.replicate, sp, tyt, i0, hl0, a1, a2, ol, h2', dueR]⟩
      · have h2' : ¬ (8 : Int) < L.length := by omega
        have hrv : revD (.obj S.length) (S ++ [MO.lst L, .lst []]) = .ok (.obj (S.length + 2)) (S ++ [MO.lst L, .lst [], .lst L.reverse]) := by
          have := revD_obj (S := S ++ [MO.lst L, .lst []]) (k := S.length) (ds := L) (by simp)
          rw [this]
          simp
        have hrl : L.reverse = (p0 :: ps).reverse.map D.str := by rw [hL, List.map_reverse]
        have hsq : iSeq (.obj (S.length + 2)) (S ++ [MO.lst L, .lst [], .lst L.reverse]) = .ok ⟨L.reverse, fun S' => S'[S.length + 2]? = some (.lst L.reverse)⟩ (S ++ [MO.lst L, .lst [], .lst L.reverse]) := iSeq_obj (by simp)
        obtain ⟨z4, z5, z6, acc', e⟩ := due_loop t S.length p0.length S L L.reverse (p0 :: ps).reverse [] none none none (fun p hp => hw p (List.mem_reverse.mp hp)) (by rw [List.length_reverse]; simp; simp at h2; omega)
        rw [List.all_reverse, List.nil_append, ← hrl] at e
        simp only [show sl none = none from rfl] at e
        have lnil : ∀ T : Sg, [MO.lst L] ++ [MO.lst []] = [MO.lst L, .lst []] := fun _ => rfl
        cases ha : (p0 :: ps).all (wOk p0.length) with
        | false =>
          rw [ha] at e
          rw [if_pos (.inr (.inr rfl))]
          refine ⟨[.lst L, .lst acc', .lst L.reverse], ?_⟩
          simp only [Bool.false_eq_true, if_false] at e
          simp [F__law_due, g__law_due, runF_e, startE, List.replicate, sp, tyt, i0, hl0, a1, a2, ol, h2', hrv, hsq, e, dueR, sizeLine]
        | true =>
          rw [ha] at e
          rw [if_neg (by simp at h2 ⊢; omega)]
          simp only [if_true] at e
          have g1 : (S ++ [MO.lst L, .lst ((p0 :: ps).reverse.map fun p => .int (wVal p)), .lst L.reverse])[S.length + 1]? = some (.lst ((p0 :: ps).reverse.map fun p => .int (wVal p))) := by simp
          refine ⟨[.lst L, .lst ((p0 :: ps).reverse.map fun p => .int (wVal p)), .lst L.reverse], ?_⟩
          have ot : oTuple [.obj (S.length + 1)] (S ++ [MO.lst L, .lst ((p0 :: ps).reverse.map fun p => .int (wVal p)), .lst L.reverse]) = .ok (.tup true (((p0 :: ps).reverse.map wVal).map .int)) (S ++ [MO.lst L, .lst ((p0 :: ps).reverse.map fun p => .int (wVal p)), .lst L.reverse]) := by
            rw [List.map_map]
            exact oTuple_obj g1
          generalize ((p0 :: ps).reverse.map fun p => D.int (wVal p)) = VL at *
          generalize ((p0 :: ps).reverse.map wVal) = WV at *
          generalize (S ++ [MO.lst L, .lst VL, .lst L.reverse]) = S3 at *
          simp [F__law_due, g__law_due, runF_e, startE, List.replicate, sp, tyt, i0, hl0, a1, a2, ol, h2', hrv, hsq, e, dueR, sizeLine, ot]
    · rw [if_pos (.inl h1)]
      refine ⟨[.lst L], ?_⟩
      by_cases a1 : (p0.length : Int) < 4
      · simp [F__law_due, g__law_due, runF_e, startE, List.replicate, sp, tyt, i0, hl0, a1, dueR]
      · have a2 : (16 : Int) < p0.length := by omega
        simp [F__law_due, g__law_due, runF_e, startE, List.replicate, sp, tyt, i0, hl0, a1, a2, dueR]
noncomputable def b__law_mixed_1 : FS := (sSeq (sAsg (fBin dAdd (fVar 0) (fBin dIx (fTup (fCons (fC (.int 11)) (fCons (fC (.int 101)) (fCons (fC (.int 1009)) (fCons (fC (.int 10007)) (fCons (fC (.int 100003)) fNil)))))) (fVar 3))) (gNm 5))
  (sSeq (sAsg (fBin dMod (fBin dMul (fVar 5) (fBin dAdd (fC (.int 48271)) (fBin dMul (fC (.int 2)) (fVar 3)))) (fVar 4)) (gNm 5))
  (sSeq (sAsg (fBin dMod (fBin dMul (fVar 5) (fVar 5)) (fVar 4)) (gNm 6))
  (sSeq (sAsg (fBin dMod (fBin dMul (fBin dMod (fBin dMul (fVar 6) (fVar 6)) (fVar 4)) (fVar 5)) (fVar 4)) (gNm 7))
  (sSeq (sAsg (fBin dAdd (fBin dMul (fVar 2) (fVar 4)) (fVar 7)) (gNm 2))
  sNil)))))
noncomputable def g__law_mixed : FS := (sSeq (sAsg (fTup (fCons (fC (.int 2147483647)) (fCons (fC (.int 2147483629)) (fCons (fC (.int 2147483587)) (fCons (fC (.int 2147483579)) (fCons (fC (.int 2147483563)) fNil)))))) (gNm 1))
  (sSeq (sAsg (fC (.int 0)) (gNm 2))
  (sSeq (sFor (fIt iEnumD (fCons (fVar 1) fNil)) (gTupN [3, 4]) b__law_mixed_1)
  (sSeq (sRet (fVar 2))
  sNil))))
noncomputable def F__law_mixed : Fn := runF 8 g__law_mixed
theorem s__law_mixed : FnScope ["_law_seed", "_law_primes", "_law_number_here", "_law_k", "_law_prime", "_law_far", "_law_square", "_law_power"] ["_law_seed"] (defScope (top 21)) := ⟨rfl, rfl, rfl, by decide +kernel, rfl, by decide +kernel, by decide +kernel⟩
theorem k__law_mixed (A : All w K mg) : FnK P w K mg base 1 ⟨"_law_mixed", 1, F__law_mixed⟩ := by
  obtain ⟨f, fd, hm, F⟩ := A.f__law_mixed
  exact fn_in A.fr (He5.fun_of F) s__law_mixed hm (FunD.bindsN (ps := ["_law_seed"]) F fun _ _ _ _ _ _ us hl => match us, hl with | [_], _ => rfl) fun X W h =>
  (dss_cons (h.set (de_tup (h.cons de_int (h.cons de_int (h.cons de_int (h.cons de_int (h.cons de_int da_nil)))))))
  (dss_cons (h.set de_int)
  (dss_cons (h.for_ (h.enum (h.cons h.var da_nil)) (h.tup (NmTs.mk h (NmTs.mk h NmTs.nil))) (dss_cons (h.set (h.add h.var (h.ix (de_tup (h.cons de_int (h.cons de_int (h.cons de_int (h.cons de_int (h.cons de_int da_nil)))))) h.var)))
  (dss_cons (h.set (h.mod (h.mul h.var (h.add de_int (h.mul de_int h.var))) h.var))
  (dss_cons (h.set (h.mod (h.mul h.var h.var) h.var))
  (dss_cons (h.set (h.mod (h.mul (h.mod (h.mul h.var h.var) h.var) h.var) h.var))
  (dss_cons (h.set (h.add (h.mul h.var h.var) h.var))
  dss_nil))))))
  (dss_cons (ds_ret h.var)
  dss_nil))))
def primesD : List D := [.int 2147483647, .int 2147483629, .int 2147483587, .int 2147483579, .int 2147483563]
theorem _law_mixed_ok (s : Int) (S : Sg) : ∃ m, F__law_mixed [.int s] S = .ok (.int m) S := by
  obtain ⟨env', S', e, n, x3, x4, x5, x6, x7, rfl, rfl⟩ := forL_nx (f := gTupN [3, 4]) (g := b__law_mixed_1) (S := S) (enumD primesD)
    (fun _ env S' => ∃ n x3 x4 x5 x6 x7, env = [some (.v (.int s)), some (.v (.tup true primesD)), some (.v (.int n)), x3, x4, x5, x6, x7] ∧ S' = S)
    ⟨0, none, none, none, none, none, rfl, rfl⟩
    (fun k d env S' hd ⟨n, x3, x4, x5, x6, x7, hx, hS⟩ => by
      subst hx hS
      have : ∃ p c : Int, d = .tup true [.int k, .int p] ∧ 0 < p ∧ p < 2 ^ 31 ∧ k < 5 ∧ atI [D.int 11, .int 101, .int 1009, .int 10007, .int 100003] (k : Nat) = some (.int c) := by
        obtain ⟨hk, rfl⟩ := enum_get hd
        simp [primesD] at hk
        have : k = 0 ∨ k = 1 ∨ k = 2 ∨ k = 3 ∨ k = 4 := by omega
        rcases this with rfl | rfl | rfl | rfl | rfl <;> exact ⟨_, _, rfl, by decide, by decide, by decide, rfl⟩
      obtain ⟨p, c, rfl, p0, p1, k5, hc⟩ := this
      have b1 : ∀ i : Int, 0 ≤ i % p ∧ i % p < 2 ^ 31 := fun i => ⟨Int.emod_nonneg _ (by omega), Int.lt_trans (Int.emod_lt_of_pos _ p0) p1⟩
      have m1 : ∀ (i j : Int) S, dMul (.int (i % p)) (.int j) S = .ok (.int (i % p * j)) S := fun i j S => mulL (by have := b1 i; omega) (by have := b1 i; omega)
      refine ⟨_, rfl, ?_⟩
      simp [b__law_mixed_1, hc, sizeLine, m1, modB p0, mulR (j := p) (by omega) (by omega), mulR (j := 48271 + 2 * (k : Int)) (by omega) (by omega), mulL (i := 2) (by omega) (by omega)])
  simp [primesD] at e
  simp [F__law_mixed, g__law_mixed, runF_e, startE, List.replicate, sizeLine, iEnumD, e]
noncomputable def g__law_fill : FS := (sSeq (sPar [1, 2] (fCons (fBin dIx (fVar 0) (fC (.int 0))) (fCons (fBin dIx (fVar 0) (fC (.int 1))) fNil)))
  (sSeq (sAsg (fBin dAdd (fBin dMul (fC (.int 31)) (fVar 2)) (fC (.int 7))) (gNm 3))
  (sSeq (sIf (fB (fBin dGt (fCall oLen (fCons (fVar 1) fNil)) (fC (.int 0)))) (sSeq (sAsg (fBin dMul (fC (.int 104729)) (fBin dDiv (fVar 2) (fCall oLen (fCons (fVar 1) fNil)))) (gNm 3))
  (sSeq (sAsg (fBin dAdd (fVar 3) (fBin dIx (fVar 1) (fBin dMod (fVar 2) (fCall oLen (fCons (fVar 1) fNil))))) (gNm 3))
  sNil)) sNil)
  (sSeq (sSetIx (fVar 0) (fC (.int 1)) (fBin dAdd (fVar 2) (fC (.int 1))))
  (sSeq (sSetIx (fVar 0) (fC (.int 3)) (fOrV (fBin dGe (fVar 2) (fCall oLen (fCons (fVar 1) fNil))) (fBin dLt (fVar 3) (fBin dPow (fC (.int 10)) (fC (.int 18))))))
  (sSeq (sIf (fTru (fBin dIx (fVar 0) (fC (.int 3)))) (sSeq (sSetIx (fVar 0) (fC (.int 2)) (fCall F__law_mixed (fCons (fVar 3) fNil)))
  sNil) (sSeq (sSetIx (fVar 0) (fC (.int 2)) (fBin dSub (fVar 3) (fBin dPow (fC (.int 10)) (fC (.int 18)))))
  sNil))
  sNil))))))
noncomputable def F__law_fill : Fn := runF 4 g__law_fill
theorem s__law_fill : FnScope ["_law_state", "_law_cells", "_law_at", "_law_seed"] ["_law_state"] (defScope (top 22)) := ⟨rfl, rfl, rfl, by decide +kernel, rfl, by decide +kernel, by decide +kernel⟩
theorem k__law_fill (A : All w K mg) : FnK P w K mg base 2 ⟨"_law_fill", 1, F__law_fill⟩ := by
  obtain ⟨f, fd, hm, F⟩ := A.f__law_fill
  exact fn_in A.fr (He5.fun_of F) s__law_fill hm (FunD.bindsN (ps := ["_law_state"]) F fun _ _ _ _ _ _ us hl => match us, hl with | [_], _ => rfl) fun X W h =>
  (dss_cons (h.par (h.cons (h.ix h.var de_int) (h.cons (h.ix h.var de_int) da_nil)) (hw := sw_two (by rfl) h.sc (by decide +kernel) (by decide +kernel) (by rfl) (by decide) (by rfl) (by rfl) (by rfl) (by rfl)))
  (dss_cons (h.set (h.add (h.mul de_int h.var) de_int))
  (dss_cons (ds_if (h.gt.tv (h.len_ (h.cons h.var da_nil)) de_int) (dss_cons (h.set (h.mul de_int (h.div h.var (h.len_ (h.cons h.var da_nil)))))
  (dss_cons (h.set (h.add h.var (h.ix h.var (h.mod h.var (h.len_ (h.cons h.var da_nil))))))
  dss_nil)) dss_nil)
  (dss_cons (h.setIx (h.add h.var de_int) h.var de_int)
  (dss_cons (h.setIx (de_or (h.ge.ev h.var (h.len_ (h.cons h.var da_nil))) (de_one (h.lt.ev h.var (h.pow de_int de_int)))) h.var de_int)
  (dss_cons (ds_if (dt_tru (h.ix h.var de_int) rfl) (dss_cons (h.setIx (h.call (k__law_mixed A) (h.cons h.var da_nil) (FsN.cons FsN.nil).len) h.var de_int)
  dss_nil) (dss_cons (h.setIx (h.sub h.var (h.pow de_int de_int)) h.var de_int)
  dss_nil))
  dss_nil))))))
noncomputable def fill_tail : FS := (sSeq (sSetIx (fVar 0) (fC (.int 1)) (fBin dAdd (fVar 2) (fC (.int 1))))
  (sSeq (sSetIx (fVar 0) (fC (.int 3)) (fOrV (fBin dGe (fVar 2) (fCall oLen (fCons (fVar 1) fNil))) (fBin dLt (fVar 3) (fBin dPow (fC (.int 10)) (fC (.int 18))))))
  (sSeq (sIf (fTru (fBin dIx (fVar 0) (fC (.int 3)))) (sSeq (sSetIx (fVar 0) (fC (.int 2)) (fCall F__law_mixed (fCons (fVar 3) fNil)))
  sNil) (sSeq (sSetIx (fVar 0) (fC (.int 2)) (fBin dSub (fVar 3) (fBin dPow (fC (.int 10)) (fC (.int 18)))))
  sNil))
  sNil)))
theorem fill_tail_ok (cells : List D) (a : Nat) (x : Int) (n : D) (b : D) (G : Sg) : ∃ (y : Int) (b1 : Bool), (fill_tail [some (.v (.obj 1)), some (.v (.obj 0)), some (.v (.int a)), some (.v (.int x))] (SX cells (.int a) n b G)).fin = .ok .non (SX cells (.int (a + 1)) (.int y) (.bl b1) G) := by
  obtain ⟨mx, hm⟩ : ∃ mx : Int → Sg → Int, ∀ s S, F__law_mixed [.int s] S = .ok (.int (mx s S)) S := ⟨fun s S => (_law_mixed_ok s S).choose, fun s S => (_law_mixed_ok s S).choose_spec⟩
  by_cases h1 : cells.length ≤ a
  · simp [fill_tail, h1, hm, -Bool.exists_bool]
    exact ⟨_, _, rfl⟩
  · by_cases h2 : x < 1000000000000000000
    · simp [fill_tail, h1, h2, hm, -Bool.exists_bool]
      exact ⟨_, _, rfl⟩
    · simp [fill_tail, h1, h2, hm, -Bool.exists_bool]
      exact ⟨_, _, rfl⟩
theorem _law_fill_ok (c : StC) (G : Sg) : ∃ c', F__law_fill [.obj 1] (St c G) = .ok .non (St c' G) := by
  obtain ⟨cells, a, n, b, hl⟩ := c
  have eg : g__law_fill = (sSeq (sPar [1, 2] (fCons (fBin dIx (fVar 0) (fC (.int 0))) (fCons (fBin dIx (fVar 0) (fC (.int 1))) fNil)))
    (sSeq (sAsg (fBin dAdd (fBin dMul (fC (.int 31)) (fVar 2)) (fC (.int 7))) (gNm 3))
    (sSeq (sIf (fB (fBin dGt (fCall oLen (fCons (fVar 1) fNil)) (fC (.int 0)))) (sSeq (sAsg (fBin dMul (fC (.int 104729)) (fBin dDiv (fVar 2) (fCall oLen (fCons (fVar 1) fNil)))) (gNm 3))
    (sSeq (sAsg (fBin dAdd (fVar 3) (fBin dIx (fVar 1) (fBin dMod (fVar 2) (fCall oLen (fCons (fVar 1) fNil))))) (gNm 3))
    sNil)) sNil) fill_tail))) := rfl
  have key : ∃ (y : Int) (b1 : Bool), F__law_fill [.obj 1] (St ⟨cells, a, n, b, hl⟩ G) = .ok .non (SX (cells.map .int) (.int (a + 1)) (.int y) (.bl b1) G) := by
    by_cases h0 : 0 < cells.length
    · obtain ⟨x, hx⟩ := at_ints (Int.emod_nonneg (a : Int) (show (cells.length : Int) ≠ 0 by omega)) (Int.emod_lt_of_pos (a : Int) (show 0 < (cells.length : Int) by omega))
      have hd : ∀ S, dDiv (.int (a : Int)) (.int (cells.length : Int)) S = .ok (.int ((a : Int) / (cells.length : Int))) S := fun S => divB (m := 64) (by omega) (by omega) (by omega) (by rw [Int.natAbs_natCast]; omega)
      obtain ⟨y, b1, e⟩ := fill_tail_ok (cells.map .int) a (104729 * ((a : Int) / (cells.length : Int)) + x) (.int n) (.bl b) G
      refine ⟨y, b1, Eq.trans ?_ e⟩
      simp [F__law_fill, eg, runF_e, startE, List.replicate, St, mulL (i := 31) (by omega) (by omega), mulL (i := 104729) (by omega) (by omega), h0, hd, modB (j := (cells.length : Int)) (by omega), hx]
    · obtain ⟨y, b1, e⟩ := fill_tail_ok (cells.map .int) a (31 * (a : Int) + 7) (.int n) (.bl b) G
      refine ⟨y, b1, Eq.trans ?_ e⟩
      simp [F__law_fill, eg, runF_e, startE, List.replicate, St, mulL (i := 31) (by omega) (by omega), h0]
  obtain ⟨y, b', e⟩ := key
  exact ⟨⟨cells, a + 1, y, b', hl⟩, e⟩
noncomputable def t__law_take_1 : FT := (fAnd (fB (fBin dLt (fVar 2) (fC (.int 64)))) (fOr (fB (fBin dEq (fBin dIx (fVar 0) (fC (.int 2))) (fC (.int 0)))) (fAnd (fTru (fBin dIx (fVar 0) (fC (.int 3)))) (fB (fBin dLt (fBin dIx (fVar 0) (fC (.int 2))) (fBin dMul (fVar 1) (fC (.int 4096))))))))
noncomputable def b__law_take_2 : FS := (sSeq (sDrop (fCall F__law_fill (fCons (fVar 0) fNil)))
  (sSeq (sAug 2 dIAdd (fC (.int 1)))
  (sSeq (sIf (fAnd (fTru (fBin dIx (fVar 0) (fC (.int 3)))) (fB (fBin dLt (fBin dIx (fVar 0) (fC (.int 2))) (fBin dMul (fVar 1) (fC (.int 4096)))))) (sSeq (sSetIx (fVar 0) (fC (.int 2)) (fBin dAdd (fBin dIx (fVar 0) (fC (.int 2))) (fBin dMul (fBin dMul (fVar 1) (fC (.int 4096))) (fBin dAdd (fC (.int 1)) (fBin dMod (fBin dIx (fVar 0) (fC (.int 2))) (fC (.int 4093)))))))
  sNil) sNil)
  sNil)))
noncomputable def g__law_take : FS := (sSeq (sAsg (fC (.int 0)) (gNm 2))
  (sSeq (sWhile t__law_take_1 b__law_take_2)
  (sSeq (sAsg (fBin dMod (fBin dIx (fVar 0) (fC (.int 2))) (fVar 1)) (gNm 3))
  (sSeq (sSetIx (fVar 0) (fC (.int 2)) (fBin dDiv (fBin dIx (fVar 0) (fC (.int 2))) (fVar 1)))
  (sSeq (sRet (fVar 3))
  sNil)))))
noncomputable def F__law_take : Fn := runF 4 g__law_take
theorem s__law_take : FnScope ["_law_state", "_law_many", "_law_turns", "_law_digit"] ["_law_state", "_law_many"] (defScope (top 23)) := ⟨rfl, rfl, rfl, by decide +kernel, rfl, by decide +kernel, by decide +kernel⟩
theorem k__law_take (A : All w K mg) : FnK P w K mg base 3 ⟨"_law_take", 2, F__law_take⟩ := by
  obtain ⟨f, fd, hm, F⟩ := A.f__law_take
  exact fn_in A.fr (He5.fun_of F) s__law_take hm (FunD.bindsN (ps := ["_law_state", "_law_many"]) F fun _ _ _ _ _ _ us hl => match us, hl with | [_, _], _ => rfl) fun X W h =>
  (dss_cons (h.set de_int)
  (dss_cons (h.whil (DW.dt (dw_and (h.lt.tv h.var de_int) (dw_and1 (DW.dt (dw_or (h.eq.tv (h.ix h.var de_int) de_int) (dw_or1 (DW.dt (dw_and (dt_tru (h.ix h.var de_int) rfl) (dw_and1 (h.lt.tv (h.ix h.var de_int) (h.mul h.var de_int))))))))))) (dss_cons (h.expr (h.call (k__law_fill A) (h.cons h.var da_nil) (FsN.cons FsN.nil).len))
  (dss_cons (h.aug iop_addG dIAdd_ok de_int)
  (dss_cons (ds_if (DW.dt (dw_and (dt_tru (h.ix h.var de_int) rfl) (dw_and1 (h.lt.tv (h.ix h.var de_int) (h.mul h.var de_int))))) (dss_cons (h.setIx (h.add (h.ix h.var de_int) (h.mul (h.mul h.var de_int) (h.add de_int (h.mod (h.ix h.var de_int) de_int)))) h.var de_int)
  dss_nil) dss_nil)
  dss_nil))))
  (dss_cons (h.set (h.mod (h.ix h.var de_int) h.var))
  (dss_cons (h.setIx (h.div (h.ix h.var de_int) h.var) h.var de_int)
  (dss_cons (ds_ret h.var)
  dss_nil)))))
theorem _law_take_big (c : StC) (G : Sg) (m : Int) (h0 : 0 < m) (hm : m.natAbs < 2 ^ 8000) : ∃ c' d, F__law_take [.obj 1, .int m] (St c G) = .ok (.int d) (St c' G) ∧ 0 ≤ d ∧ d < m := by
  obtain ⟨env', S', e, c2, y, z, hx, hS⟩ := while_run (t := t__law_take_1) (g := b__law_take_2)
    (fun env S => ∃ (c : StC) (y : Int) (z : Option EV), env = [some (.v (.obj 1)), some (.v (.int m)), some (.v (.int y)), z] ∧ S = St c G ∧ 0 ≤ y ∧ y ≤ 64)
    (fun env _ => turnsLeft 2 64 env)
    (fun env S => ∃ (c : StC) (y : Int) (z : Option EV), env = [some (.v (.obj 1)), some (.v (.int m)), some (.v (.int y)), z] ∧ S = St c G)
    (fun env S ⟨c, y, z, he, hS, hy, hy2⟩ => by
      subst he hS
      obtain ⟨c', hf⟩ := _law_fill_ok c G
      have hf' : F__law_fill [.obj 1] (SX (c.cells.map .int) (.int c.a) (.int c.n) (.bl c.b) G) = .ok .non (SX (c'.cells.map .int) (.int c'.a) (.int c'.n) (.bl c'.b) G) := hf
      have hm4 : ∀ S, dMul (.int m) (.int 4096) S = .ok (.int (m * 4096)) S := fun S => mulR (by omega) (by omega)
      have hmx : ∀ (z : Int) S, dMul (.int (m * 4096)) (.int (1 + z % 4093)) S = .ok (.int (m * 4096 * (1 + z % 4093))) S := fun z S => mulR (by omega) (by omega)
      by_cases hlt : y < 64
      · by_cases hc : c.n = 0 ∨ (c.b = true ∧ c.n < m * 4096)
        · right
          refine ⟨?_, ?_⟩
          · by_cases h0 : c.n = 0
            · simp [t__law_take_1, hlt, St, h0]
            · have := hc.resolve_left h0
              simp [t__law_take_1, hlt, St, h0, hm4, this.1, this.2]
          · by_cases hb : c'.b = true ∧ c'.n < m * 4096
            · refine ⟨[some (.v (.obj 1)), some (.v (.int m)), some (.v (.int (y + 1))), z], St ⟨c'.cells, c'.a, c'.n + m * 4096 * (1 + c'.n % 4093), c'.b, c'.hl⟩ G, ?_, ⟨_, _, _, rfl, rfl, by omega, by omega⟩, by simp [turnsLeft]; omega⟩
              simp [b__law_take_2, St, hf', sAug_e, hb.1, hb.2, hm4, hmx, modB]
            · refine ⟨[some (.v (.obj 1)), some (.v (.int m)), some (.v (.int (y + 1))), z], St c' G, ?_, ⟨_, _, _, rfl, rfl, by omega, by omega⟩, by simp [turnsLeft]; omega⟩
              by_cases hb1 : c'.b = true
              · have : ¬ c'.n < m * 4096 := fun q => hb ⟨hb1, q⟩
                simp [b__law_take_2, St, hf', sAug_e, hb1, this, hm4, hmx]
              · simp [b__law_take_2, St, hf', sAug_e, hb1, hm4, hmx]
        · left
          refine ⟨?_, c, y, z, rfl, rfl⟩
          have h0 : ¬ c.n = 0 := fun q => hc (.inl q)
          by_cases hb1 : c.b = true
          · have : ¬ c.n < m * 4096 := fun q => hc (.inr ⟨hb1, q⟩)
            simp [t__law_take_1, hlt, St, h0, hm4, hb1, this]
          · simp [t__law_take_1, hlt, St, h0, hm4, hb1]
      · left
        refine ⟨?_, c, y, z, rfl, rfl⟩
        simp [t__law_take_1, hlt, St])
    mostTurns [some (.v (.obj 1)), some (.v (.int m)), some (.v (.int 0)), none] (St c G) ⟨c, 0, none, rfl, rfl, by omega, by omega⟩ (by simp [turnsLeft, mostTurns])
  subst hx hS
  have hd : ∀ S, dDiv (.int c2.n) (.int m) S = .ok (.int (c2.n / m)) S := fun S => divB (m := 8000) (by omega) (by omega) h0 hm
  refine ⟨⟨c2.cells, c2.a, c2.n / m, c2.b, c2.hl⟩, c2.n % m, ?_, Int.emod_nonneg _ (by omega), Int.emod_lt_of_pos _ h0⟩
  simp only [St] at e
  simp [F__law_take, g__law_take, runF_e, startE, List.replicate, e, St, modB h0, hd]
theorem _law_take_ok (c : StC) (G : Sg) (m : Int) (h0 : 0 < m) (hm : m ≤ 2 ^ 240) : ∃ c' d, F__law_take [.obj 1, .int m] (St c G) = .ok (.int d) (St c' G) ∧ 0 ≤ d ∧ d < m :=
  _law_take_big c G m h0 (by
    have h1 : m.natAbs < 2 ^ 241 := by omega
    exact Nat.lt_of_lt_of_le h1 (Nat.pow_le_pow_right (by omega) (by omega)))
noncomputable def g__law_sign : FS := (sSeq (sAsg (fC (.str " !\"#$&'()*+,-./0123456789:;<=>?@ABCDEFGHIJKLMNOPQRSTUVWXYZ[\\]^_`abcdefghijklmnopqrstuvwxyz{|}~")) (gNm 1))
  (sSeq (sRet (fBin dIx (fTup (fCons (fC (.str "0")) (fCons (fC (.str "1")) (fCons (fC (.str " ")) (fCons (fBin dIx (fVar 1) (fCall F__law_take (fCons (fVar 0) (fCons (fCall oLen (fCons (fVar 1) fNil)) fNil)))) fNil))))) (fCall F__law_take (fCons (fVar 0) (fCons (fC (.int 4)) fNil)))))
  sNil))
noncomputable def F__law_sign : Fn := runF 2 g__law_sign
theorem s__law_sign : FnScope ["_law_state", "_law_most"] ["_law_state"] (defScope (top 28)) := ⟨rfl, rfl, rfl, by decide +kernel, rfl, by decide +kernel, by decide +kernel⟩
theorem k__law_sign (A : All w K mg) : FnK P w K mg base 4 ⟨"_law_sign", 1, F__law_sign⟩ := by
  obtain ⟨f, fd, hm, F⟩ := A.f__law_sign
  exact fn_in A.fr (He5.fun_of F) s__law_sign hm (FunD.bindsN (ps := ["_law_state"]) F fun _ _ _ _ _ _ us hl => match us, hl with | [_], _ => rfl) fun X W h =>
  (dss_cons (h.set de_str)
  (dss_cons (ds_ret (h.ix (de_tup (h.cons de_str (h.cons de_str (h.cons de_str (h.cons (h.ix h.var (h.call (k__law_take A) (h.cons h.var (h.cons (h.len_ (h.cons h.var da_nil)) da_nil)) (FsN.cons (FsN.cons FsN.nil)).len)) da_nil))))) (h.call (k__law_take A) (h.cons h.var (h.cons de_int da_nil)) (FsN.cons (FsN.cons FsN.nil)).len)))
  dss_nil))
theorem ix_sign {z : Str} (hz : z.length ≤ sizeLine) {i : Int} (i0 : 0 ≤ i) (i1 : i < z.length) : ∃ c : Nat, ∀ S, dIx (.str z) (.int i) S = .ok (.str ⟨#[c]⟩) S := by
  obtain ⟨k, rfl⟩ := Int.eq_ofNat_of_zero_le i0
  have lenE : z.length = z.cps.toList.length := by show z.cps.size = _; simp
  have hk : k < z.cps.toList.length := by omega
  refine ⟨z.cps.toList[k], fun S => ?_⟩
  show (if z.length ≤ sizeLine then match atI z.cps.toList (k : Int) with
      | some k => Res.ok (D.str ⟨#[k]⟩) S
      | none => .st else .st) = _
  rw [if_pos hz, at_nat, List.getElem?_eq_getElem hk]
def sgn1 (c : Nat) : Str := ⟨#[c]⟩
theorem join_sgn1 (xs : List Nat) : (Txt.join ("" : Str) (xs.map sgn1)).cps.toList = xs := by
  show TL.tl _ = xs
  rw [TL.join_eq, TL.tl_join]
  show TL.joinL [] _ = xs
  rw [joinL_nil, List.map_map]
  have : (TL.tl ∘ sgn1) = fun c => [c] := rfl
  rw [this]
  induction xs with
  | nil => rfl
  | cons x xs ih => simpa using ih
theorem law_sign_ok (c : StC) (G : Sg) : ∃ (c' : StC) (s : Str), F__law_sign [.obj 1] (St c G) = .ok (.str s) (St c' G) ∧ s.length = 1 := by
  obtain ⟨MS, hMS⟩ : ∃ z : Str, z = " !\"#$&'()*+,-./0123456789:;<=>?@ABCDEFGHIJKLMNOPQRSTUVWXYZ[\\]^_`abcdefghijklmnopqrstuvwxyz{|}~" := ⟨_, rfl⟩
  have lm : MS.length = 94 := by rw [hMS]; decide +kernel
  have om : ∀ S, oLen [.str MS] S = .ok (.int 94) S := fun S => by
    unfold oLen lenD
    simp only
    rw [if_pos (by unfold sizeLine; omega), lm]
    rfl
  obtain ⟨c1, i1, f1, i10, i11⟩ := _law_take_ok c G 94 (by omega) (by omega)
  obtain ⟨ch, hch⟩ := ix_sign (z := MS) (by unfold sizeLine; omega) i10 (by omega)
  obtain ⟨c2, i2, f2, i20, i21⟩ := _law_take_ok c1 G 4 (by omega) (by omega)
  obtain ⟨sg, hsg, ls⟩ : ∃ sg : Str, (∀ S, dIx (.tup true [.str "0", .str "1", .str " ", .str ⟨#[ch]⟩]) (.int i2) S = .ok (.str sg) S) ∧ sg.length = 1 := by
    have : i2 = 0 ∨ i2 = 1 ∨ i2 = 2 ∨ i2 = 3 := by omega
    rcases this with rfl | rfl | rfl | rfl
    · exact ⟨_, fun S => rfl, by decide +kernel⟩
    · exact ⟨_, fun S => rfl, by decide +kernel⟩
    · exact ⟨_, fun S => rfl, by decide +kernel⟩
    · exact ⟨_, fun S => rfl, rfl⟩
  exact ⟨c2, sg, by simp [-ix_tup, F__law_sign, g__law_sign, runF_e, startE, List.replicate, sizeLine, ← hMS, om, f1, hch, f2, hsg], ls⟩
noncomputable def g__law_spoilt : FS := (sSeq (sAsg (fCall F__law_take (fCons (fVar 0) (fCons (fC (.int 8)) fNil))) (gNm 2))
  (sSeq (sAsg (fCall F__law_take (fCons (fVar 0) (fCons (fBin dAdd (fCall oLen (fCons (fVar 1) fNil)) (fC (.int 1))) fNil))) (gNm 3))
  (sSeq (sAsg (fCall F__law_sign (fCons (fVar 0) fNil)) (gNm 4))
  (sSeq (sIf (fB (fBin dEq (fVar 2) (fC (.int 0)))) (sSeq (sRet (fBin dAdd (fBin dAdd (fCut (fVar 1) fO0 (fO1 (fVar 3))) (fVar 4)) (fCut (fVar 1) (fO1 (fVar 3)) fO0)))
  sNil) sNil)
  (sSeq (sIf (fB (fBin dEq (fVar 2) (fC (.int 1)))) (sSeq (sRet (fBin dAdd (fCut (fVar 1) fO0 (fO1 (fVar 3))) (fCut (fVar 1) (fO1 (fBin dAdd (fVar 3) (fC (.int 1)))) fO0)))
  sNil) sNil)
  (sSeq (sIf (fB (fBin dEq (fVar 2) (fC (.int 2)))) (sSeq (sRet (fBin dAdd (fBin dAdd (fCut (fVar 1) fO0 (fO1 (fVar 3))) (fVar 4)) (fCut (fVar 1) (fO1 (fBin dAdd (fVar 3) (fC (.int 1)))) fO0)))
  sNil) sNil)
  (sSeq (sAsg (fMth "str" oSplit (fVar 1) (fCons (fC (.str " ")) fNil)) (gNm 5))
  (sSeq (sAsg (fBin dMod (fVar 3) (fBin dAdd (fCall oLen (fCons (fVar 5) fNil)) (fC (.int 1)))) (gNm 3))
  (sSeq (sIf (fB (fBin dEq (fVar 2) (fC (.int 3)))) (sSeq (sDrop (fMth "list" oInsert (fVar 5) (fCons (fVar 3) (fCons (fBin dMulS (fC (.str "01")) (fBin dAdd (fC (.int 1)) (fCall F__law_take (fCons (fVar 0) (fCons (fC (.int 10)) fNil))))) fNil))))
  sNil) sNil)
  (sSeq (sIf (fAnd (fB (fBin dEq (fVar 2) (fC (.int 4)))) (fB (fBin dLt (fVar 3) (fCall oLen (fCons (fVar 5) fNil))))) (sSeq (sDrop (fMth "list" oInsert (fVar 5) (fCons (fVar 3) (fCons (fBin dIx (fVar 5) (fVar 3)) fNil))))
  sNil) sNil)
  (sSeq (sRet (fMth "str" oJoin (fC (.str " ")) (fCons (fVar 5) fNil)))
  sNil)))))))))))
noncomputable def F__law_spoilt : Fn := runF 6 g__law_spoilt
theorem s__law_spoilt : FnScope ["_law_state", "_law_text", "_law_way", "_law_at", "_law_sign_here", "_law_words"] ["_law_state", "_law_text"] (defScope (top 29)) := ⟨rfl, rfl, rfl, by decide +kernel, rfl, by decide +kernel, by decide +kernel⟩
theorem k__law_spoilt (A : All w K mg) : FnK P w K mg base 5 ⟨"_law_spoilt", 2, F__law_spoilt⟩ := by
  obtain ⟨f, fd, hm, F⟩ := A.f__law_spoilt
  exact fn_in A.fr (He5.fun_of F) s__law_spoilt hm (FunD.bindsN (ps := ["_law_state", "_law_text"]) F fun _ _ _ _ _ _ us hl => match us, hl with | [_, _], _ => rfl) fun X W h =>
  (dss_cons (h.set (h.call (k__law_take A) (h.cons h.var (h.cons de_int da_nil)) (FsN.cons (FsN.cons FsN.nil)).len))
  (dss_cons (h.set (h.call (k__law_take A) (h.cons h.var (h.cons (h.add (h.len_ (h.cons h.var da_nil)) de_int) da_nil)) (FsN.cons (FsN.cons FsN.nil)).len))
  (dss_cons (h.set (h.call (k__law_sign A) (h.cons h.var da_nil) (FsN.cons FsN.nil).len))
  (dss_cons (ds_if (h.eq.tv h.var de_int) (dss_cons (ds_ret (h.add (h.add (de_cut h.var do_none (do_some h.var)) h.var) (de_cut h.var (do_some h.var) do_none)))
  dss_nil) dss_nil)
  (dss_cons (ds_if (h.eq.tv h.var de_int) (dss_cons (ds_ret (h.add (de_cut h.var do_none (do_some h.var)) (de_cut h.var (do_some (h.add h.var de_int)) do_none)))
  dss_nil) dss_nil)
  (dss_cons (ds_if (h.eq.tv h.var de_int) (dss_cons (ds_ret (h.add (h.add (de_cut h.var do_none (do_some h.var)) h.var) (de_cut h.var (do_some (h.add h.var de_int)) do_none)))
  dss_nil) dss_nil)
  (dss_cons (h.set (h.m_split h.var (h.cons de_str da_nil)))
  (dss_cons (h.set (h.mod h.var (h.add (h.len_ (h.cons h.var da_nil)) de_int)))
  (dss_cons (ds_if (h.eq.tv h.var de_int) (dss_cons (h.expr (h.m_insert h.var (h.cons h.var (h.cons (h.mulS de_str (h.add de_int (h.call (k__law_take A) (h.cons h.var (h.cons de_int da_nil)) (FsN.cons (FsN.cons FsN.nil)).len))) da_nil))))
  dss_nil) dss_nil)
  (dss_cons (ds_if (DW.dt (dw_and (h.eq.tv h.var de_int) (dw_and1 (h.lt.tv h.var (h.len_ (h.cons h.var da_nil)))))) (dss_cons (h.expr (h.m_insert h.var (h.cons h.var (h.cons (h.ix h.var h.var) da_nil))))
  dss_nil) dss_nil)
  (dss_cons (ds_ret (h.m_join de_str (h.cons h.var da_nil)))
  dss_nil)))))))))))
theorem cutS_len (z : Str) (lo hi : Option Int) : (cutS z lo hi).length ≤ z.length := by
  have lenE : z.length = z.cps.toList.length := by show z.cps.size = _; simp
  rw [lenE]
  unfold cutS
  show (((z.cps.toList.drop _).take _).toArray).size ≤ _
  rw [List.size_toArray, List.length_take, List.length_drop]
  omega
def wt (ws : List Str) : Nat := (ws.map Str.length).sum + ws.length
theorem wt_cons (w : Str) (ws : List Str) : wt (w :: ws) = w.length + 1 + wt ws := by
  unfold wt
  simp only [List.map_cons, List.sum_cons, List.length_cons]
  omega
theorem wt_app (a b : List Str) : wt (a ++ b) = wt a + wt b := by
  unfold wt
  simp only [List.map_append, List.sum_append, List.length_append]
  omega
theorem wt_mem {ws : List Str} {w : Str} (h : w ∈ ws) : w.length + 1 ≤ wt ws := by
  induction ws with
  | nil => cases h
  | cons v vs ih =>
    rw [wt_cons]
    rcases List.mem_cons.mp h with e | e
    · rw [e]; omega
    · have := ih e; omega
theorem wt_line : ∀ ws : List Str, (lineT ws).length ≤ wt ws
  | [] => by decide +kernel
  | [w] => by rw [lineT_one, wt_cons]; omega
  | w :: v :: vs => by
    have ih := wt_line (v :: vs)
    rw [wt_cons]
    have e := congrArg List.length (tl_line_cons w v vs)
    rw [tl_len, List.length_append, List.length_cons, tl_len, tl_len] at e
    omega
theorem spl_wt : ∀ (l acc : List Nat), ((TL.spl [32] 0 acc l).map List.length).sum + (TL.spl [32] 0 acc l).length = acc.length + l.length + 1
  | [], acc => by
    rw [TL.spl_nil]
    simp
  | c :: r, acc => by
    cases hp : TL.pre [32] (c :: r) with
    | true =>
      have ih := spl_wt r []
      rw [TL.spl_hit hp]
      simp only [List.map_cons, List.sum_cons, List.length_cons, List.length_nil] at ih ⊢
      have e : (List.length [32] - 1) = 0 := rfl
      simp only [List.length_singleton, Nat.sub_self] at *
      omega
    | false =>
      have ih := spl_wt r (acc ++ [c])
      rw [TL.spl_miss hp]
      simp only [List.length_append, List.length_cons, List.length_nil] at ih ⊢
      omega
theorem wt_words (t : Str) : wt (wordsOf t) = t.length + 1 := by
  have e := spl_wt (TL.tl t) []
  rw [← words_spl, List.length_map, List.map_map] at e
  have e2 : (List.length ∘ TL.tl) = Str.length := by
    funext x
    exact tl_len x
  rw [e2, tl_len] at e
  unfold wt
  simp only [List.length_nil] at e
  omega
theorem join_line {S : Sg} {k : Nat} {ys : List Str} (hk : S[k]? = some (.lst (ys.map .str))) (h : wt ys ≤ 5000) : oJoin (.str " ") [.obj k] S = .ok (.str (lineT ys)) S := by
  have b1 : (" " : Str).length = 1 := by decide +kernel
  have e : (seqD S (.obj k)).bind strsD = some ys := by
    rw [seqD_obj hk, Option.bind_some, strsD_strs]
  unfold oJoin
  simp only [e]
  refine if_pos ?_
  show (ys.map Str.length).sum + ys.length * (" " : Str).length ≤ _
  rw [b1]
  unfold wt at h
  omega
theorem st_set1 {c : StC} {G : Sg} {m m' : MO} : (St c (G ++ [m])).set (St c G).length m' = St c (G ++ [m']) := by
  have a : St c (G ++ [m]) = St c G ++ [m] := by simp [St, SX]
  have b : St c (G ++ [m']) = St c G ++ [m'] := by simp [St, SX]
  rw [a, b, List.set_append_right _ _ (Nat.le_refl _), Nat.sub_self]
  rfl
theorem st_at1 {c c' : StC} {G : Sg} {m : MO} : (St c (G ++ [m]))[(St c' G).length]? = some m := by
  have a : St c (G ++ [m]) = St c G ++ [m] := by simp [St, SX]
  have l : (St c' G).length = (St c G).length := by simp [St, SX]
  rw [a, l, List.getElem?_append_right (Nat.le_refl _), Nat.sub_self]
  rfl
theorem law_spoilt_ok (c : StC) (G : Sg) (t : Str) (ht : t.length ≤ 300) : ∃ (c' : StC) (U : Sg) (x : Str), F__law_spoilt [.obj 1, .str t] (St c G) = .ok (.str x) (St c' (G ++ U)) ∧ x.length ≤ 1000 := by
  have ot : ∀ S, oLen [.str t] S = .ok (.int t.length) S := fun S => by
    unfold oLen lenD
    simp only
    rw [if_pos (by unfold sizeLine; omega)]
  obtain ⟨c1, w, f1, w0, w1⟩ := _law_take_ok c G 8 (by omega) (by omega)
  obtain ⟨c2, at', f2, a0, a1⟩ := _law_take_ok c1 G (t.length + 1) (by omega) (by
    have : ((t.length : Int) + 1) ≤ 1000 := by omega
    exact Int.le_trans this (by decide))
  obtain ⟨c3, sg, f3, ls⟩ := law_sign_ok c2 G
  have cut : ∀ lo hi S, dCut (.str t) lo hi S = .ok (.str (cutS t lo hi)) S := fun lo hi S => cutS_ok (by unfold sizeLine; omega) lo hi S
  have L : ∀ lo hi, (cutS t lo hi).length ≤ t.length := cutS_len t
  have sp : oSplit (.str t) [.str " "] (St c3 G) = .ok (.obj (St c3 G).length) (St c3 (G ++ [.lst ((wordsOf t).map .str)])) := by
    unfold oSplit
    simp only
    rw [if_pos ⟨by decide +kernel, by unfold sizeLine; omega⟩]
    simp [newL, St, SX]
    rfl
  have hws := wt_words t
  have hne := words_ne t
  generalize wordsOf t = ws at *
  have wl : 1 ≤ ws.length := by cases ws with
    | nil => exact absurd rfl hne
    | cons a l => simp
  have wl2 : ws.length ≤ 301 := by unfold wt at hws; omega
  obtain ⟨p, hp⟩ : ∃ p, p = (St c3 G).length := ⟨_, rfl⟩
  have pk : ∀ c m, (St c (G ++ [m]))[p]? = some m := fun c m => by rw [hp]; exact st_at1
  have ps : ∀ c m m', (St c (G ++ [m])).set p m' = St c (G ++ [m']) := fun c m m' => by
    have : p = (St c G).length := by rw [hp]; simp [St, SX]
    rw [this]; exact st_set1
  have ol : ∀ c, oLen [.obj p] (St c (G ++ [.lst (ws.map .str)])) = .ok (.int ws.length) (St c (G ++ [.lst (ws.map .str)])) := fun c => by
    have := oLen_obj (pk c (.lst (ws.map .str)))
    rwa [List.length_map] at this
  have md : ∀ S, dMod (.int at') (.int ((ws.length : Int) + 1)) S = .ok (.int (at' % (ws.length + 1))) S := fun S => modB (by omega)
  obtain ⟨j, hj⟩ : ∃ j : Nat, (j : Int) = at' % (ws.length + 1) := ⟨(at' % (ws.length + 1)).toNat, by have := Int.emod_nonneg at' (b := (ws.length + 1 : Int)) (by omega); omega⟩
  have hj2 : j ≤ ws.length := by have := Int.emod_lt_of_pos at' (b := (ws.length + 1 : Int)) (by omega); omega
  obtain ⟨c5, o', f5, o0, o1⟩ := _law_take_ok c3 (G ++ [.lst (ws.map .str)]) 10 (by omega) (by omega)
  rw [← hj] at md
  rw [← hp] at sp
  have tyl : ∀ c (ys : List Str), tyM (St c (G ++ [.lst (ys.map .str)])) (.obj p) = some "list" := fun c ys => tyM_obj (pk c _)
  have jn : ∀ (c : StC) (ys : List Str), wt ys ≤ 903 → ∃ x : Str, oJoin (.str " ") [.obj p] (St c (G ++ [.lst (ys.map .str)])) = .ok (.str x) (St c (G ++ [.lst (ys.map .str)])) ∧ x.length ≤ 1000 := fun c ys h =>
    ⟨lineT ys, join_line (pk c _) (by omega), by have := wt_line ys; omega⟩
  have tys : ∀ S, tyM S (.str " ") = some "str" := fun S => rfl
  have tyt : ∀ S, tyM S (.str t) = some "str" := fun S => rfl
  have hw : w = 0 ∨ w = 1 ∨ w = 2 ∨ w = 3 ∨ w = 4 ∨ (w ≠ 0 ∧ w ≠ 1 ∧ w ≠ 2 ∧ w ≠ 3 ∧ w ≠ 4) := by omega
  have z1 : (cutS t none (some at')).length + sg.length ≤ sizeLine := by have := L none (some at'); unfold sizeLine; omega
  have z2 : (cutS t none (some at') ++ sg).length + (cutS t (some at') none).length ≤ sizeLine := by have := L none (some at'); have := L (some at') none; rw [Str.length_append]; unfold sizeLine; omega
  have z3 : (cutS t none (some at')).length + (cutS t (some (at' + 1)) none).length ≤ sizeLine := by have := L none (some at'); have := L (some (at' + 1)) none; unfold sizeLine; omega
  have z4 : (cutS t none (some at') ++ sg).length + (cutS t (some (at' + 1)) none).length ≤ sizeLine := by have := L none (some at'); have := L (some (at' + 1)) none; rw [Str.length_append]; unfold sizeLine; omega
  have y1 : ∀ S, dAdd (.str (cutS t none (some at'))) (.str sg) S = .ok (.str (cutS t none (some at') ++ sg)) S := fun S => if_pos z1
  have y2 : ∀ S, dAdd (.str (cutS t none (some at') ++ sg)) (.str (cutS t (some at') none)) S = .ok (.str (cutS t none (some at') ++ sg ++ cutS t (some at') none)) S := fun S => if_pos z2
  have y3 : ∀ S, dAdd (.str (cutS t none (some at'))) (.str (cutS t (some (at' + 1)) none)) S = .ok (.str (cutS t none (some at') ++ cutS t (some (at' + 1)) none)) S := fun S => if_pos z3
  have y4 : ∀ S, dAdd (.str (cutS t none (some at') ++ sg)) (.str (cutS t (some (at' + 1)) none)) S = .ok (.str (cutS t none (some at') ++ sg ++ cutS t (some (at' + 1)) none)) S := fun S => if_pos z4
  have x1 : (cutS t none (some at') ++ sg ++ cutS t (some at') none).length ≤ 1000 := by have := L none (some at'); have := L (some at') none; rw [Str.length_append, Str.length_append]; omega
  have x2 : (cutS t none (some at') ++ cutS t (some (at' + 1)) none).length ≤ 1000 := by have := L none (some at'); have := L (some (at' + 1)) none; rw [Str.length_append]; omega
  have x3 : (cutS t none (some at') ++ sg ++ cutS t (some (at' + 1)) none).length ≤ 1000 := by have := L none (some at'); have := L (some (at' + 1)) none; rw [Str.length_append, Str.length_append]; omega
  clear z1 z2 z3 z4
  generalize (cutS t none (some at') ++ sg ++ cutS t (some at') none) = X1 at *
  generalize (cutS t none (some at') ++ cutS t (some (at' + 1)) none) = X2 at *
  generalize (cutS t none (some at') ++ sg ++ cutS t (some (at' + 1)) none) = X3 at *
  have j63 : (j : Int) < 2 ^ 63 := by
    have : (j : Int) ≤ 1000 := by omega
    exact Int.lt_of_le_of_lt this (by decide)
  have ins : ∀ (c : StC) (y : Str), oInsert (.obj p) [.int (j : Int), .str y] (St c (G ++ [.lst (ws.map .str)])) = .ok .non (St c (G ++ [.lst ((ws.take j ++ [y] ++ ws.drop j).map .str)])) := fun c y => by
    unfold oInsert
    simp only [pk]
    rw [if_pos ⟨by rw [List.length_map]; unfold sizeLine; omega, by omega, j63⟩]
    simp only [ps, Int.toNat_natCast, List.map_append, List.map_take, List.map_drop, List.map_cons, List.map_nil]
  have wtd : ∀ y : Str, wt (ws.take j ++ [y] ++ ws.drop j) = wt ws + y.length + 1 := fun y => by
    have e : wt (ws.take j) + wt (ws.drop j) = wt ws := by rw [← wt_app, List.take_append_drop]
    rw [wt_app, wt_app, wt_cons]
    have : wt ([] : List Str) = 0 := rfl
    omega
  rcases hw with rfl | rfl | rfl | rfl | rfl | ⟨n0, n1, n2, n3, n4⟩
  · exact ⟨c3, [], X1, by rw [List.append_nil]; simp [F__law_spoilt, g__law_spoilt, runF_e, startE, List.replicate, sizeLine, ot, f1, f2, f3, cut, y1, y2], x1⟩
  · exact ⟨c3, [], X2, by rw [List.append_nil]; simp [F__law_spoilt, g__law_spoilt, runF_e, startE, List.replicate, sizeLine, ot, f1, f2, f3, cut, y3], x2⟩
  · exact ⟨c3, [], X3, by rw [List.append_nil]; simp [F__law_spoilt, g__law_spoilt, runF_e, startE, List.replicate, sizeLine, ot, f1, f2, f3, cut, y1, y4], x3⟩
  · have l01 : ("01" : Str).length = 2 := by decide +kernel
    have ms : ∀ S, dMulS (.str "01") (.int (1 + o')) S = .ok (.str (repS "01" (1 + o'))) S := fun S => if_pos ⟨by omega, by omega, by omega, by omega⟩
    have lr : (repS "01" (1 + o')).length ≤ 20 := by
      have h : (repS "01" (1 + o')).length = ((List.replicate (1 + o').toNat ("01" : Str).cps).foldl (· ++ ·) #[]).size := rfl
      rw [h, foldl_size (m := 2) _ _ (fun x hx => by rw [(List.mem_replicate.mp hx).2]; exact l01), List.length_replicate]
      show 0 + _ ≤ 20
      omega
    obtain ⟨x, hx, hxl⟩ := jn c5 (ws.take j ++ [repS "01" (1 + o')] ++ ws.drop j) (by rw [wtd]; omega)
    have ins := ins c5 (repS "01" (1 + o'))
    generalize (ws.take j ++ [repS "01" (1 + o')] ++ ws.drop j) = YS at *
    refine ⟨c5, [.lst (YS.map .str)], x, ?_, hxl⟩
    simp [-List.length_append, F__law_spoilt, g__law_spoilt, runF_e, startE, List.replicate, sizeLine, ot, f1, f2, f3, tyt, tys, sp, ol, md, f5, tyl, ms, ins, hx]
  · by_cases hjl : j < ws.length
    · have hjg : ws[j]? = some ws[j] := List.getElem?_eq_getElem hjl
      have hjl' : (j : Int) < ws.length := by omega
      have ixj : ∀ c, dIx (.obj p) (.int (j : Int)) (St c (G ++ [.lst (ws.map .str)])) = .ok (.str ws[j]) (St c (G ++ [.lst (ws.map .str)])) := fun c => by
        rw [ix_obj (pk c _), at_nat, List.getElem?_map, hjg]; rfl
      have lwj : ws[j].length + 1 ≤ 301 := by have := wt_mem (List.getElem_mem hjl); omega
      obtain ⟨x, hx, hxl⟩ := jn c3 (ws.take j ++ [ws[j]] ++ ws.drop j) (by rw [wtd]; omega)
      have ins := ins c3 ws[j]
      generalize (ws.take j ++ [ws[j]] ++ ws.drop j) = YS at *
      refine ⟨c3, [.lst (YS.map .str)], x, ?_, hxl⟩
      simp [-List.length_append, F__law_spoilt, g__law_spoilt, runF_e, startE, List.replicate, sizeLine, ot, f1, f2, f3, tyt, tys, sp, ol, md, tyl, hjl, hjl', ixj, ins, hx]
    · have hjl' : ¬ (j : Int) < ws.length := by omega
      obtain ⟨x, hx, hxl⟩ := jn c3 ws (by omega)
      refine ⟨c3, [.lst (ws.map .str)], x, ?_, hxl⟩
      simp [-List.length_append, F__law_spoilt, g__law_spoilt, runF_e, startE, List.replicate, sizeLine, ot, f1, f2, f3, tyt, tys, sp, ol, md, tyl, hjl, hjl', hx]
  · obtain ⟨x, hx, hxl⟩ := jn c3 ws (by omega)
    refine ⟨c3, [.lst (ws.map .str)], x, ?_, hxl⟩
    simp [-List.length_append, F__law_spoilt, g__law_spoilt, runF_e, startE, List.replicate, sizeLine, ot, f1, f2, f3, tyt, tys, sp, ol, md, tyl, n0, n1, n2, n3, n4, hx]
noncomputable def g__law_fresh : FS := (sSeq (sRet (fLst (fCons (fCut (fVar 0) fO0 (fO1 (fC (.int 63)))) (fCons (fC (.int 0)) (fCons (fC (.int 0)) (fCons (fC (.bl false)) fNil))))))
  sNil)
noncomputable def F__law_fresh : Fn := runF 1 g__law_fresh
theorem s__law_fresh : FnScope ["_law_script"] ["_law_script"] (defScope (top 20)) := ⟨rfl, rfl, rfl, by decide +kernel, rfl, by decide +kernel, by decide +kernel⟩
theorem k__law_fresh (A : All w K mg) : FnK P w K mg base 1 ⟨"_law_fresh", 1, F__law_fresh⟩ := by
  obtain ⟨f, fd, hm, F⟩ := A.f__law_fresh
  exact fn_in A.fr (He5.fun_of F) s__law_fresh hm (FunD.bindsN (ps := ["_law_script"]) F fun _ _ _ _ _ _ us hl => match us, hl with | [_], _ => rfl) fun X W h =>
  (dss_cons (ds_ret (de_lst (h.cons (de_cut h.var do_none (do_some de_int)) (h.cons de_int (h.cons de_int (h.cons de_bl da_nil))))))
  dss_nil)
theorem _law_fresh_ok (ns : List Int) : ∃ c, F__law_fresh [.il (ns.map .int)] [] = .ok (.obj 1) (St c []) := by
  refine ⟨⟨ns.take 63, 0, 0, false, by simp; omega⟩, ?_⟩
  have e : dCut (.il (ns.map .int)) none (some 63) [] = .ok (.obj 0) [.lst ((ns.take 63).map .int)] := by
    simp [dCut, lstD, newL, cutD, HT.sIx]
  rw [List.map_take] at e
  simp [F__law_fresh, g__law_fresh, runF_e, startE, e, sizeLine, St, SX]
noncomputable def c_law_1 : FE := (fBin dEq (fVar 5) (fVar 6))
noncomputable def c_law_2 : FE := (fBin dEq (fCall F__law_met (fCons (fVar 5) (fCons (fVar 7) fNil))) (fLc false [6] (fIt iRange1 (fCons (fC (.int 14)) fNil)) (.one 6) fYes c_law_1))
noncomputable def c_law_3 : FE := (fBin dIx (fC (.str "01")) (fCall F__law_take (fCons (fVar 1) (fCons (fC (.int 2)) fNil))))
noncomputable def b_law_4 : FS := (sSeq (sDrop (fMth "list" oAppend (fVar 4) (fCons (fMth "str" oJoin (fC (.str "")) (fCons (fLc true [6] (fIt iRange1 (fCons (fVar 2) fNil)) (.one 6) fYes c_law_3) fNil)) fNil)))
  sNil)
noncomputable def g_law : FS := (sSeq (sAsg (fCall F__law_fresh (fCons (fVar 0) fNil)) (gNm 1))
  (sSeq (sAsg (fBin dIx (fTup (fCons (fBin dAdd (fC (.int 4)) (fCall F__law_take (fCons (fVar 1) (fCons (fC (.int 13)) fNil)))) (fCons (fBin dAdd (fC (.int 2)) (fCall F__law_take (fCons (fVar 1) (fCons (fC (.int 17)) fNil)))) fNil))) (fCall F__law_take (fCons (fVar 1) (fCons (fC (.int 2)) fNil)))) (gNm 2))
  (sSeq (sAsg (fBin dIx (fTup (fCons (fBin dAdd (fC (.int 1)) (fCall F__law_take (fCons (fVar 1) (fCons (fC (.int 8)) fNil)))) (fCons (fCall F__law_take (fCons (fVar 1) (fCons (fC (.int 11)) fNil))) fNil))) (fCall F__law_take (fCons (fVar 1) (fCons (fC (.int 2)) fNil)))) (gNm 3))
  (sSeq (sAsg (fLst fNil) (gNm 4))
  (sSeq (sFor (fIt iRange1 (fCons (fVar 3) fNil)) (gNm 5) b_law_4)
  (sSeq (sAsg (fCall F__law_spoilt (fCons (fVar 1) (fCons (fMth "str" oJoin (fC (.str " ")) (fCons (fVar 4) fNil)) fNil))) (gNm 7))
  (sSeq (sAsg (fCall F__law_due (fCons (fVar 7) fNil)) (gNm 8))
  (sSeq (sAsg (fC .non) (gNm 9))
  (sSeq (sAsg (fC (.bl false)) (gNm 10))
  (sSeq (sTry excNames "WordError" 11 (sSeq (sAsg (fCall F_read (fCons (fVar 7) fNil)) (gNm 9))
  sNil) (sSeq (sAsg (fAndV (fIsE excNames 11 ["NoText"]) (fIsE excNames 11 ["ValueError"])) (gNm 10))
  (sSeq (sAsg (fAndV (fVar 10) (fNotV (fIsE excNames 11 ["NoFit", "NoCell", "NoWord", "NoRow", "NoTelling", "NoDeed", "NoQuotient"]))) (gNm 10))
  (sSeq (sAsg (fAndV (fVar 10) (fNotV (fIsE excNames 11 ["TooMany", "NoLine", "NoName", "NoWidth", "NoPair", "NoUndo"]))) (gNm 10))
  sNil))))
  (sSeq (sIf (fNot (fTru (fCall oAll (fCons (fLc true [5, 6] (fIt iRange1 (fCons (fC (.int 14)) fNil)) (.one 5) fYes c_law_2) fNil)))) (sSeq (sRet (fC (.bl false)))
  sNil) sNil)
  (sSeq (sIf (fB (fBin dIs (fVar 8) (fC .non))) (sSeq (sRet (fAndV (fVar 10) (fBin dIs (fVar 9) (fC .non))))
  sNil) sNil)
  (sSeq (sIf (fOr (fNot (fTru (fCall oIsi (fCons (fVar 9) (fCons (fC (.ty "tuple")) fNil))))) (fOr (fB (fBin dNe (fCall oLen (fCons (fVar 9) fNil)) (fC (.int 2)))) (fOr (fNot (fTru (fCall F__law_whole (fCons (fBin dIx (fVar 9) (fC (.int 0))) fNil)))) (fB (fBin dNe (fBin dIx (fVar 9) (fC (.int 0))) (fBin dIx (fVar 8) (fC (.int 0)))))))) (sSeq (sRet (fC (.bl false)))
  sNil) sNil)
  (sSeq (sRet (fAndV (fCall F__law_number (fCons (fBin dIx (fVar 9) (fC (.int 1))) (fCons (fBin dIx (fVar 8) (fC (.int 0))) (fCons (fCall oLen (fCons (fBin dIx (fVar 8) (fC (.int 1))) fNil)) fNil)))) (fBin dEq (fVar 9) (fVar 8))))
  sNil))))))))))))))
noncomputable def F_law : Fn := runF 12 g_law
theorem s_law : FnScope ["_law_script", "_law_state", "_law_w", "_law_many", "_law_words", "_law_k", "_law_j", "_law_text", "_law_due_here", "_law_found", "_law_kind", "e"] ["_law_script"] (defScope (top 32)) := ⟨rfl, rfl, rfl, by decide +kernel, rfl, by decide +kernel, by decide +kernel⟩
theorem o_law (A : All w K mg) {f : Addr} {fd : FuncData} (F : FnP K "law" (top 32) f fd) : FnOk P w K mg base (L2.CX P w) 6 f fd ["_law_script"] (spD ⟨K, mg, w⟩ 1 F_law) :=
  fn_inO A.fr (He5.fun_of F) s_law fun X W h =>
  (dss_cons (h.set (h.call (k__law_fresh A) (h.cons h.var da_nil) (FsN.cons FsN.nil).len))
  (dss_cons (h.set (h.ix (de_tup (h.cons (h.add de_int (h.call (k__law_take A) (h.cons h.var (h.cons de_int da_nil)) (FsN.cons (FsN.cons FsN.nil)).len)) (h.cons (h.add de_int (h.call (k__law_take A) (h.cons h.var (h.cons de_int da_nil)) (FsN.cons (FsN.cons FsN.nil)).len)) da_nil))) (h.call (k__law_take A) (h.cons h.var (h.cons de_int da_nil)) (FsN.cons (FsN.cons FsN.nil)).len)))
  (dss_cons (h.set (h.ix (de_tup (h.cons (h.add de_int (h.call (k__law_take A) (h.cons h.var (h.cons de_int da_nil)) (FsN.cons (FsN.cons FsN.nil)).len)) (h.cons (h.call (k__law_take A) (h.cons h.var (h.cons de_int da_nil)) (FsN.cons (FsN.cons FsN.nil)).len) da_nil))) (h.call (k__law_take A) (h.cons h.var (h.cons de_int da_nil)) (FsN.cons (FsN.cons FsN.nil)).len)))
  (dss_cons (h.set (de_lst da_nil))
  (dss_cons (h.for_ (h.range1 (h.cons h.var da_nil)) (InE.nm h) (dss_cons (h.expr (h.m_append h.var (h.cons (h.m_join de_str (h.cons (h.lc [("_law_j", 6)] (h.range1 (h.cons h.var da_nil)) (fun s H C cl fp => have b := h.blk s H C cl fp; b.nmB) (fun _ _ _ _ _ => pts_yes) (fun s H C cl fp => have b := h.blk s H C cl fp; (b.ix de_str (b.call (k__law_take A) (b.cons b.var (b.cons de_int da_nil)) (FsN.cons (FsN.cons FsN.nil)).len)))) da_nil)) da_nil)))
  dss_nil))
  (dss_cons (h.set (h.call (k__law_spoilt A) (h.cons h.var (h.cons (h.m_join de_str (h.cons h.var da_nil)) da_nil)) (FsN.cons (FsN.cons FsN.nil)).len))
  (dss_cons (h.set (h.call (k__law_due A) (h.cons h.var da_nil) (FsN.cons FsN.nil).len))
  (dss_cons (h.set de_non)
  (dss_cons (h.set de_bl)
  (dss_cons (h.tryU A.T (fun X W h => (dss_cons (h.set (h.call (k_read A) (h.cons h.var da_nil) (FsN.cons FsN.nil).len))
  dss_nil)) (fun X W u => (dss_cons (u.setS u.fns (de_and (u.isE A.T) (de_one (u.isE A.T))))
  (dss_cons (u.setS u.fns (de_and u.var (de_one (de_not (u.isEs (ys := [("NoFit", ⟨180, 54, 180, 59⟩), ("NoCell", ⟨180, 61, 180, 67⟩), ("NoWord", ⟨180, 69, 180, 75⟩), ("NoRow", ⟨180, 77, 180, 82⟩), ("NoTelling", ⟨180, 84, 180, 93⟩), ("NoDeed", ⟨180, 95, 180, 101⟩), ("NoQuotient", ⟨180, 103, 180, 113⟩)]) A.T)))))
  (dss_cons (u.setS u.fns (de_and u.var (de_one (de_not (u.isEs (ys := [("TooMany", ⟨181, 54, 181, 61⟩), ("NoLine", ⟨181, 63, 181, 69⟩), ("NoName", ⟨181, 71, 181, 77⟩), ("NoWidth", ⟨181, 79, 181, 86⟩), ("NoPair", ⟨181, 88, 181, 94⟩), ("NoUndo", ⟨181, 96, 181, 102⟩)]) A.T)))))
  dss_nil)))))
  (dss_cons (ds_if (dt_not (dt_tru (h.all_ (h.cons (h.lc [("_law_k", 5), ("_law_j", 6)] (h.range1 (h.cons de_int da_nil)) (fun s H C cl fp => h.nmC s H C cl fp) (fun _ _ _ _ _ => pts_yes) (fun s H C cl fp => have b := h.blk s H C cl fp; (b.eq.ev (b.call (k__law_met A) (b.cons b.var (b.cons b.var da_nil)) (FsN.cons (FsN.cons FsN.nil)).len) (b.lc [("_law_j", 6)] (b.range1 (b.cons de_int da_nil)) (fun s H C cl fp => have b := b.blk s H C cl fp; b.nmB) (fun _ _ _ _ _ => pts_yes) (fun s H C cl fp => have b := b.blk s H C cl fp; (b.eq.ev b.var b.var)))))) da_nil)) rfl)) (dss_cons (ds_ret de_bl)
  dss_nil) dss_nil)
  (dss_cons (ds_if (h.is.tv h.var de_non) (dss_cons (ds_ret (de_and h.var (de_one (h.is.ev h.var de_non))))
  dss_nil) dss_nil)
  (dss_cons (ds_if (DW.dt (dw_or (dt_not (dt_tru (h.isinstance_ (h.cons h.var (h.cons h.tyv da_nil))) rfl)) (dw_or (h.ne.tv (h.len_ (h.cons h.var da_nil)) de_int) (dw_or (dt_not (dt_tru (h.call (k__law_whole A) (h.cons (h.ix h.var de_int) da_nil) (FsN.cons FsN.nil).len) rfl)) (dw_or1 (h.ne.tv (h.ix h.var de_int) (h.ix h.var de_int))))))) (dss_cons (ds_ret de_bl)
  dss_nil) dss_nil)
  (dss_cons (ds_ret (de_and (h.call (k__law_number A) (h.cons (h.ix h.var de_int) (h.cons (h.ix h.var de_int) (h.cons (h.len_ (h.cons (h.ix h.var de_int) da_nil)) da_nil))) (FsN.cons (FsN.cons (FsN.cons FsN.nil))).len) (de_one (h.eq.ev h.var h.var))))
  dss_nil))))))))))))))
theorem wVal_range : ∀ (l : List Nat) (a : Int), (∀ c ∈ l, c = 48 ∨ c = 49) → a * 2 ^ l.length ≤ l.foldl (fun (r : Int) (c : Nat) => 2 * r + ((c : Int) - 48)) a ∧ l.foldl (fun (r : Int) (c : Nat) => 2 * r + ((c : Int) - 48)) a < (a + 1) * 2 ^ l.length
  | [], a, _ => by simp; omega
  | c :: l, a, h => by
    have ih := wVal_range l (2 * a + ((c : Int) - 48)) fun x hx => h x (List.mem_cons_of_mem _ hx)
    rw [List.foldl_cons, List.length_cons, Int.pow_succ]
    have p0 : (0 : Int) < 2 ^ l.length := pow2_pos l.length
    generalize l.foldl (fun (r : Int) (c : Nat) => 2 * r + ((c : Int) - 48)) (2 * a + ((c : Int) - 48)) = V at *
    generalize (2 : Int) ^ l.length = P at *
    rcases h c (by simp) with rfl | rfl
    · have e1 : (2 * a + (((48 : Nat) : Int) - 48)) * P = a * (P * 2) := by
        rw [show (2 * a + (((48 : Nat) : Int) - 48)) = a * 2 by omega, Int.mul_assoc, Int.mul_comm 2 P]
      have e2 : (2 * a + (((48 : Nat) : Int) - 48) + 1) * P = a * (P * 2) + P := by
        rw [Int.add_mul, e1, Int.one_mul]
      have e3 : (a + 1) * (P * 2) = a * (P * 2) + (P * 2) := by rw [Int.add_mul, Int.one_mul]
      rw [e1, e2] at ih
      rw [e3]
      omega
    · have e1 : (2 * a + (((49 : Nat) : Int) - 48)) * P = a * (P * 2) + P := by
        rw [show (2 * a + (((49 : Nat) : Int) - 48)) = a * 2 + 1 by omega, Int.add_mul, Int.mul_assoc, Int.mul_comm 2 P, Int.one_mul]
      have e2 : (2 * a + (((49 : Nat) : Int) - 48) + 1) * P = a * (P * 2) + P + P := by
        rw [Int.add_mul, e1, Int.one_mul]
      have e3 : (a + 1) * (P * 2) = a * (P * 2) + (P * 2) := by rw [Int.add_mul, Int.one_mul]
      rw [e1, e2] at ih
      rw [e3]
      omega
theorem wVal_ok {w : Nat} {p : Str} (h : wOk w p = true) : 0 ≤ wVal p ∧ wVal p < 2 ^ w := by
  unfold wOk at h
  simp only [Bool.and_eq_true, decide_eq_true_eq, List.all_eq_true] at h
  have lenE : p.length = p.cps.toList.length := by show p.cps.size = _; simp
  have := wVal_range p.cps.toList 0 fun c hc => by have := h.2 c hc; simpa using this
  rw [← lenE, h.1] at this
  unfold wVal
  simp only [Int.zero_mul, Int.zero_add, Int.one_mul] at this
  exact this
theorem read_due (t : Str) (S : Sg) (ht : t.length ≤ 1000) : F_read [.str t] S = match dueD (wordsOf t) with
    | none => .er "NoText" S
    | some (w, ns) => .ok (.tup true [.int w, .tup true (ns.map .int)]) S := by
  have hw : ∀ a ∈ wordsOf t, a.length ≤ 1000 := fun a ha => by have := words_le t a ha; omega
  have hne := words_ne t
  show q_read [.str t] S = _
  unfold q_read
  dsimp only
  have e : Txt.split t " " = wordsOf t := rfl
  rw [e]
  cases hws : wordsOf t with
  | nil => exact absurd hws hne
  | cons p0 ps =>
    rw [hws] at hw
    dsimp only
    rw [if_pos ⟨ht, hw⟩]
    unfold dueD
    dsimp only
    split
    · rfl
    · show _ = Res.ok (D.tup true [D.int p0.length, D.tup true (((p0 :: ps).reverse.map wVal).map D.int)]) S
      rw [List.map_map]
      rfl
theorem dueD_ok {ws : List Str} {w : Nat} {ns : List Int} (h : dueD ws = some (w, ns)) : 4 ≤ w ∧ w ≤ 16 ∧ ns.length ≤ 8 ∧ ∀ d ∈ ns, 0 ≤ d ∧ d < 2 ^ w := by
  cases ws with
  | nil => cases h
  | cons p0 ps =>
    unfold dueD at h
    dsimp only at h
    split at h
    · cases h
    · rename_i hc
      cases h
      have h1 : 4 ≤ p0.length ∧ p0.length ≤ 16 := Classical.byContradiction fun q => hc (.inl q)
      have h2 : ¬ 8 < (p0 :: ps).length := fun q => hc (.inr (.inl q))
      have h3 : (p0 :: ps).all (wOk p0.length) = true := by
        cases ha : (p0 :: ps).all (wOk p0.length) with
        | true => rfl
        | false => exact absurd (.inr (.inr ha)) hc
      refine ⟨h1.1, h1.2, by rw [List.length_map, List.length_reverse]; omega, fun d hd => ?_⟩
      obtain ⟨p, hp, rfl⟩ := List.mem_map.mp hd
      exact wVal_ok (List.all_eq_true.mp h3 p (List.mem_reverse.mp hp))
theorem word_turn (L0 : D) (c : StC) (T : Sg) (w many : Int) (w0 : 0 ≤ w) (w1 : w ≤ 18) (ws : List Str) (hl : ws.length ≤ 50) (k : Int) (y6 : Option D) :
    ∃ c' T' x, b_law_4 [some (.v L0), some (.v (.obj 1)), some (.v (.int w)), some (.v (.int many)), some (.v (.obj 2)), some (.v (.int k)), sl y6, none, none, none, none, none] (St c (.lst (ws.map .str) :: T)) = .nx [some (.v L0), some (.v (.obj 1)), some (.v (.int w)), some (.v (.int many)), some (.v (.obj 2)), some (.v (.int k)), sl y6, none, none, none, none, none] (St c' (.lst ((ws ++ [x]).map .str) :: T')) ∧ x.length ≤ 18 := by
  have rt : ∀ S, iRange1 [.int w] S = .ok ⟨rangeD 0 1 w.toNat, fun _ => True⟩ S := fun S => range_nat (by omega) (by omega)
  have l01 : ("01" : Str).length = 2 := by decide +kernel
  obtain ⟨c2, U, y, xs, e2, hs, _, hxl⟩ := fLc_drawT (h := fun c : Nat => D.str (sgn1 c)) (own := [6]) (fi := fIt iRange1 (fCons (fVar 2) fNil)) (T := .one 6) (fe := c_law_3) (env := [some (.v L0), some (.v (.obj 1)), some (.v (.int w)), some (.v (.int many)), some (.v (.obj 2)), some (.v (.int k)), sl y6, none, none, none, none, none])
    (fun c : Nat => True) c c (.lst (ws.map .str) :: T) (rangeD 0 1 w.toNat) (by simp [rt]) (by simp [noExc_cons]) (fun d hd => ⟨_, rfl, fun c G => by
      obtain ⟨c', i, e, i0, i1⟩ := _law_take_ok c G 2 (by omega) (by omega)
      obtain ⟨ch, h2⟩ := ix_sign (z := "01") (by rw [l01]; decide) i0 (by rw [l01]; omega)
      exact ⟨c', ch, by simp only [c_law_3, wipeE]; simp [e, h2, sgn1], trivial⟩⟩) (by rw [range_len]; omega)
  rw [range_len] at hxl
  obtain ⟨t, ht⟩ : ∃ t, t = Txt.join ("" : Str) (xs.map sgn1) := ⟨_, rfl⟩
  have hc : t.cps.toList = xs := by rw [ht]; exact join_sgn1 xs
  have lt : t.length ≤ 18 := by
    have lenE : t.length = t.cps.toList.length := by show t.cps.size = _; simp
    rw [lenE, hc]
    omega
  have hj : oJoin (.str "") [y] (St c2 (.lst (ws.map .str) :: T ++ U)) = .ok (.str t) (St c2 (.lst (ws.map .str) :: T ++ U)) := by
    rw [ht]
    refine join_ok "" (xs.map sgn1) 1 ?_ (fun z hz => ?_) (by decide +kernel) (by rw [List.length_map]; omega)
    · rw [hs, Option.bind_some]
      have : (xs.map fun c => D.str (sgn1 c)) = (xs.map sgn1).map D.str := by rw [List.map_map]; rfl
      rw [this, strsD_strs]
    · obtain ⟨c, _, rfl⟩ := List.mem_map.mp hz
      exact Nat.le_refl 1
  have g0 : (St c (.lst (ws.map .str) :: T))[2]? = some (.lst (ws.map .str)) := rfl
  have g2 : (St c2 (.lst (ws.map .str) :: T ++ U))[2]? = some (.lst (ws.map .str)) := rfl
  have ty := tyM_obj g0
  have ap := append_ok (d := .str t) g2 (by rw [List.length_map]; unfold sizeLine; omega)
  have st : (St c2 (.lst (ws.map .str) :: T ++ U)).set 2 (.lst (ws.map .str ++ [.str t])) = St c2 (.lst ((ws ++ [t]).map .str) :: (T ++ U)) := by
    rw [List.map_append]; rfl
  rw [st] at ap
  refine ⟨c2, T ++ U, t, ?_, lt⟩
  have tt : ∀ S, tyM S (.str "") = some "str" := fun S => rfl
  rw [b_law_4]
  generalize c_law_3 = C at *
  generalize (St c (.lst (ws.map .str) :: T)) = S1 at *
  generalize (St c2 (.lst (ws.map .str) :: T ++ U)) = S2 at *
  generalize (St c2 (.lst ((ws ++ [t]).map .str) :: (T ++ U))) = S3 at *
  simp [ty, tt, e2, hj, ap]
theorem all_met (L0 : D) (c : StC) (G : Sg) (w many : Int) (t : Str) (v4 v8 v9 v10 : D) (y5 y6 : Option D) : ∃ c' U y, fLc true [5, 6] (fIt iRange1 (fCons (fC (.int 14)) fNil)) (.one 5) fYes c_law_2 [some (.v L0), some (.v (.obj 1)), some (.v (.int w)), some (.v (.int many)), some (.v v4), sl y5, sl y6, some (.v (.str t)), some (.v v8), some (.v v9), some (.v v10), none] (St c G) = .ok y (St c' (G ++ U)) ∧ oAll [y] (St c' (G ++ U)) = .ok (.bl true) (St c' (G ++ U)) := by
  have rt : ∀ S, iRange1 [.int 14] S = .ok ⟨rangeD 0 1 14, fun _ => True⟩ S := fun S => range_nat (by omega) (by omega)
  obtain ⟨c', U, y, xs, e, hy, hP, hl⟩ := fLc_drawJ (h := D.bl) (own := [5, 6]) (fi := fIt iRange1 (fCons (fC (.int 14)) fNil)) (T := .one 5) (fe := c_law_2) (env := [some (.v L0), some (.v (.obj 1)), some (.v (.int w)), some (.v (.int many)), some (.v v4), sl y5, sl y6, some (.v (.str t)), some (.v v8), some (.v v9), some (.v v10), none]) (fun b => b = true) c c G G (rangeD 0 1 14) (ok := fun _ => True) (by simp [rt]) (fun _ _ => trivial) (by simp [noExc_cons]) (fun d hd => by
    refine ⟨_, rfl, fun c T => ?_⟩
    obtain ⟨i, hi, rfl⟩ := List.mem_map.mp hd
    have hk := List.mem_range.mp hi
    obtain ⟨T1, f⟩ := met_ok hk t (St c (G ++ T))
    obtain ⟨S1, hS1⟩ : ∃ S1, S1 = St c (G ++ T) ++ (MO.lst [] :: .lst ((List.range 14).map fun j => .bl (decide (i = j))) :: T1) := ⟨_, rfl⟩
    obtain ⟨p, hp⟩ : ∃ p, p = (St c (G ++ T)).length + 1 := ⟨_, rfl⟩
    rw [← hS1, ← hp] at f
    have e1 : fLc false [6] (fIt iRange1 (fCons (fC (.int 14)) fNil)) (.one 6) fYes c_law_1 [some (.v L0), some (.v (.obj 1)), some (.v (.int w)), some (.v (.int many)), some (.v v4), some (.v (.int (0 + (i : Int) * 1))), none, some (.v (.str t)), some (.v v8), some (.v v9), some (.v v10), none] S1 = .ok (.obj S1.length) (S1 ++ [.lst ((List.range 14).map fun j => .bl (decide (i = j)))]) :=
      fLc_obj (k := fun j : Nat => D.int (0 + (j : Int) * 1)) (fun j => .bl (decide (i = j))) (by
        simp only [fIt_e, fCons_e, fC_e, fNil_e, Res.bind_ok, rt]
        rfl) rfl (fun j hj => ⟨_, rfl, fun T => by simp [c_law_1, wipeE]; omega⟩) (by rw [List.length_range]; decide)
    have g1 : (S1 ++ [MO.lst ((List.range 14).map fun j => .bl (decide (i = j)))])[p]? = some (.lst ((List.range 14).map fun j => .bl (decide (i = j)))) := at_app (by
      rw [hS1, hp, List.getElem?_append_right (by omega), show (St c (G ++ T)).length + 1 - (St c (G ++ T)).length = 1 by omega]
      rfl)
    have g2 : (S1 ++ [MO.lst ((List.range 14).map fun j => .bl (decide (i = j)))])[S1.length]? = some (.lst ((List.range 14).map fun j => .bl (decide (i = j)))) := by simp
    have eq : dEq (.obj p) (.obj S1.length) (S1 ++ [.lst ((List.range 14).map fun j => .bl (decide (i = j)))]) = .ok (.bl true) (S1 ++ [.lst ((List.range 14).map fun j => .bl (decide (i = j)))]) := by
      unfold dEq
      rw [eqO_lst (n := 0) g1 g2 (fun d hd => by
        obtain ⟨j, _, rfl⟩ := List.mem_map.mp hd
        exact Deep.bl _) (by omega)]
    refine ⟨c, (MO.lst [] :: .lst ((List.range 14).map fun j => .bl (decide (i = j))) :: T1) ++ [.lst ((List.range 14).map fun j => .bl (decide (i = j)))], true, ?_, rfl⟩
    have eS : St c (G ++ (T ++ ((MO.lst [] :: .lst ((List.range 14).map fun j => .bl (decide (i = j))) :: T1) ++ [.lst ((List.range 14).map fun j => .bl (decide (i = j)))]))) = S1 ++ [.lst ((List.range 14).map fun j => .bl (decide (i = j)))] := by
      rw [hS1]; simp [St, SX]
    rw [eS]
    have f' : F__law_met [.int (0 + (i : Int) * 1), .str t] (St c (G ++ T)) = .ok (.obj p) S1 := by
      rw [show (0 + (i : Int) * 1) = (i : Int) by omega]; exact f
    generalize hS2 : (S1 ++ [MO.lst ((List.range 14).map fun j => .bl (decide (i = j)))]) = S2 at *
    rw [c_law_2]
    have ev : (Tg.one 5).f (.int (0 + (i : Int) * 1)) (wipeE [some (.v L0), some (.v (.obj 1)), some (.v (.int w)), some (.v (.int many)), some (.v v4), sl y5, sl y6, some (.v (.str t)), some (.v v8), some (.v v9), some (.v v10), none] [5, 6]) = some [some (.v L0), some (.v (.obj 1)), some (.v (.int w)), some (.v (.int many)), some (.v v4), some (.v (.int (0 + (i : Int) * 1))), none, some (.v (.str t)), some (.v v8), some (.v v9), some (.v v10), none] := rfl
    show fBin dEq _ _ [some (.v L0), some (.v (.obj 1)), some (.v (.int w)), some (.v (.int many)), some (.v v4), some (.v (.int (0 + (i : Int) * 1))), none, some (.v (.str t)), some (.v v8), some (.v v9), some (.v v10), none] _ = _
    rw [fBin_e]
    have a1 : fCall F__law_met (fCons (fVar 5) (fCons (fVar 7) fNil)) [some (.v L0), some (.v (.obj 1)), some (.v (.int w)), some (.v (.int many)), some (.v v4), some (.v (.int (0 + (i : Int) * 1))), none, some (.v (.str t)), some (.v v8), some (.v v9), some (.v v10), none] (St c (G ++ T)) = .ok (.obj p) S1 := by
      have h5 : ([some (.v L0), some (.v (.obj 1)), some (.v (.int w)), some (.v (.int many)), some (.v v4), some (.v (.int (0 + (i : Int) * 1))), none, some (.v (.str t)), some (.v v8), some (.v v9), some (.v v10), none] : Env)[5]? = some (some (.v (.int (0 + (i : Int) * 1)))) := rfl
      have h7 : ([some (.v L0), some (.v (.obj 1)), some (.v (.int w)), some (.v (.int many)), some (.v v4), some (.v (.int (0 + (i : Int) * 1))), none, some (.v (.str t)), some (.v v8), some (.v v9), some (.v v10), none] : Env)[7]? = some (some (.v (.str t))) := rfl
      simp only [fCall_e, fCons_e, fNil_e, Res.bind_ok, fVar_e h5, fVar_e h7, f']
    rw [a1, Res.bind_ok, e1, Res.bind_ok, eq]) (by rw [range_len]; omega)
  refine ⟨c', U, y, e, ?_⟩
  unfold oAll
  simp only [hy, Option.bind_some]
  have hb : blsD (xs.map D.bl) = some xs := by
    have := blsD_mapf (fun b : Bool => b) xs
    rwa [List.map_id'] at this
  rw [hb]
  dsimp only
  have : xs.all id = true := List.all_eq_true.mpr fun b hbm => hP b hbm
  rw [this]
theorem law_ok (ns : List Int) : ∃ S, F_law [.il (ns.map .int)] [] = .ok (.bl true) S := by
  obtain ⟨c0, e0⟩ := _law_fresh_ok ns
  obtain ⟨L0, hL0⟩ : ∃ L, L = D.il (ns.map .int) := ⟨_, rfl⟩
  rw [← hL0] at e0 ⊢
  obtain ⟨c1, i1, f1, i10, i11⟩ := _law_take_ok c0 [] 13 (by omega) (by omega)
  obtain ⟨c2, i2, f2, i20, i21⟩ := _law_take_ok c1 [] 17 (by omega) (by omega)
  obtain ⟨c3, i3, f3, i30, i31⟩ := _law_take_ok c2 [] 2 (by omega) (by omega)
  obtain ⟨w, hw, w0, w1⟩ : ∃ w : Int, (∀ S, dIx (.tup true [.int (4 + i1), .int (2 + i2)]) (.int i3) S = .ok (.int w) S) ∧ 0 ≤ w ∧ w ≤ 18 := by
    have : i3 = 0 ∨ i3 = 1 := by omega
    rcases this with rfl | rfl
    · exact ⟨4 + i1, fun S => rfl, by omega, by omega⟩
    · exact ⟨2 + i2, fun S => rfl, by omega, by omega⟩
  obtain ⟨c4, i4, f4, i40, i41⟩ := _law_take_ok c3 [] 8 (by omega) (by omega)
  obtain ⟨c5, i5, f5, i50, i51⟩ := _law_take_ok c4 [] 11 (by omega) (by omega)
  obtain ⟨c6, i6, f6, i60, i61⟩ := _law_take_ok c5 [] 2 (by omega) (by omega)
  obtain ⟨many, hm, m0, m1⟩ : ∃ w : Int, (∀ S, dIx (.tup true [.int (1 + i4), .int i5]) (.int i6) S = .ok (.int w) S) ∧ 0 ≤ w ∧ w ≤ 10 := by
    have : i6 = 0 ∨ i6 = 1 := by omega
    rcases this with rfl | rfl
    · exact ⟨1 + i4, fun S => rfl, by omega, by omega⟩
    · exact ⟨i5, fun S => rfl, by omega, by omega⟩
  have rt : ∀ S, iRange1 [.int many] S = .ok ⟨rangeD 0 1 many.toNat, fun _ => True⟩ S := fun S => range_nat (by omega) (by omega)
  obtain ⟨env', S', e7, c7, T7, ws, x5, hwl, hws, rfl, rfl⟩ := for_range (env := [some (.v L0), some (.v (.obj 1)), some (.v (.int w)), some (.v (.int many)), some (.v (.obj 2)), none, none, none, none, none, none, none]) (S := St c6 [.lst []]) (g := b_law_4) (ix := 5) (lo := 0) (st := 1) (n := many.toNat)
    (fun k env S' => ∃ (c : StC) (T : Sg) (ws : List Str) (x5 : Option D), ws.length = k ∧ (∀ t ∈ ws, t.length ≤ 18) ∧ env = [some (.v L0), some (.v (.obj 1)), some (.v (.int w)), some (.v (.int many)), some (.v (.obj 2)), sl x5, none, none, none, none, none, none] ∧ S' = St c (.lst (ws.map .str) :: T))
    ⟨c6, [], [], none, rfl, fun t ht => (by cases ht), rfl, rfl⟩ (fun k env S' hk ⟨c, T, ws, x5, hl, hws, hy, hS⟩ => by
      subst hy hS
      obtain ⟨c', T', x, e, lx⟩ := word_turn L0 c T w many w0 w1 ws (by omega) (0 + (k : Int) * 1) none
      refine ⟨_, _, e, c', T', ws ++ [x], some (.int (0 + (k : Int) * 1)), by simp [hl], fun t ht => ?_, rfl, rfl⟩
      rcases List.mem_append.mp ht with h | h
      · exact hws t h
      · rw [List.mem_singleton.mp h]; exact lx)
  have wtb : ∀ l : List Str, (∀ t ∈ l, t.length ≤ 18) → wt l ≤ 19 * l.length := fun l => by
    induction l with
    | nil => intro _; exact Nat.le_refl _
    | cons a l ih =>
      intro h
      have := ih fun t ht => h t (List.mem_cons_of_mem _ ht)
      have := h a (by simp)
      rw [wt_cons, List.length_cons]
      omega
  have hwt : wt ws ≤ 190 := by have := wtb ws hws; omega
  obtain ⟨G7, hG7⟩ : ∃ G7, G7 = MO.lst (ws.map .str) :: T7 := ⟨_, rfl⟩
  rw [← hG7] at e7
  have g7 : (St c7 G7)[2]? = some (.lst (ws.map .str)) := by rw [hG7]; rfl
  have jn := join_line g7 (by omega)
  have lj : (lineT ws).length ≤ 300 := by have := wt_line ws; omega
  obtain ⟨c8, U8, t, f8, lt⟩ := law_spoilt_ok c7 G7 (lineT ws) lj
  obtain ⟨T9, f9⟩ := due_ok t (St c8 (G7 ++ U8)) lt
  obtain ⟨G9, hG9⟩ : ∃ G9, St c8 (G7 ++ U8) ++ T9 = St c8 G9 := ⟨G7 ++ U8 ++ T9, by simp [St, SX]⟩
  rw [hG9] at f9
  have rd := fun S => read_due t S lt
  have tb : ∀ S, tyM S (.str " ") = some "str" := fun S => rfl
  have e4 : St c6 [] ++ [MO.lst []] = St c6 [.lst []] := rfl
  have l4 : (St c6 []).length = 2 := rfl
  generalize hLT : lineT ws = LT at *
  cases hd : dueD (wordsOf t) with
  | none =>
    simp only [hd] at f9 rd
    have f9 : F__law_due [.str t] (St c8 (G7 ++ U8)) = .ok .non (St c8 G9) := f9
    obtain ⟨c', U, y, em, ea⟩ := all_met L0 c8 G9 w many t (.obj 2) .non .non (.bl true) x5 none
    simp only [show sl none = none from rfl] at em
    refine ⟨St c' (G9 ++ U), ?_⟩
    have m1 : ∀ (c : Str) env S, env[11]? = some (some (.exc "NoText")) → fIsE excNames 11 [c] env S = .ok (.bl (subX "NoText" c)) S := fun c env S hh => fIsE_v hh (by decide +kernel) (by simp)
    have m2 : ∀ env S, env[11]? = some (some (.exc "NoText")) → fIsE excNames 11 ["NoFit", "NoCell", "NoWord", "NoRow", "NoTelling", "NoDeed", "NoQuotient"] env S = .ok (.bl false) S := fun env S hh => fIsE_v hh (by decide +kernel) (by decide +kernel)
    have m3 : ∀ env S, env[11]? = some (some (.exc "NoText")) → fIsE excNames 11 ["TooMany", "NoLine", "NoName", "NoWidth", "NoPair", "NoUndo"] env S = .ok (.bl false) S := fun env S hh => fIsE_v hh (by decide +kernel) (by decide +kernel)
    have q1 : subX "NoText" "NoText" = true := by decide +kernel
    have q2 : subX "NoText" "ValueError" = true := by decide +kernel
    have tr : (sTry excNames "WordError" 11 (sSeq (sAsg (fCall F_read (fCons (fVar 7) fNil)) (gNm 9))
  sNil) (sSeq (sAsg (fAndV (fIsE excNames 11 ["NoText"]) (fIsE excNames 11 ["ValueError"])) (gNm 10))
  (sSeq (sAsg (fAndV (fVar 10) (fNotV (fIsE excNames 11 ["NoFit", "NoCell", "NoWord", "NoRow", "NoTelling", "NoDeed", "NoQuotient"]))) (gNm 10))
  (sSeq (sAsg (fAndV (fVar 10) (fNotV (fIsE excNames 11 ["TooMany", "NoLine", "NoName", "NoWidth", "NoPair", "NoUndo"]))) (gNm 10))
  sNil)))) [some (.v L0), some (.v (.obj 1)), some (.v (.int w)), some (.v (.int many)), some (.v (.obj 2)), sl x5, none, some (.v (.str t)), some (.v .non), some (.v .non), some (.v (.bl false)), none] (St c8 G9) = .nx [some (.v L0), some (.v (.obj 1)), some (.v (.int w)), some (.v (.int many)), some (.v (.obj 2)), sl x5, none, some (.v (.str t)), some (.v .non), some (.v .non), some (.v (.bl true)), none] (St c8 G9) := by
      rw [sTry_er (env1 := [some (.v L0), some (.v (.obj 1)), some (.v (.int w)), some (.v (.int many)), some (.v (.obj 2)), sl x5, none, some (.v (.str t)), some (.v .non), some (.v .non), some (.v (.bl false)), none]) (S1 := St c8 G9) (n := "NoText") (by simp [noExc_cons]) (by simp [rd]) (by decide +kernel) (by simp [noExc_cons]) (by decide +kernel)]
      simp [m1, m2, m3, q1, q2, fAndV, truD, noExc_cons]
    have eg : g_law [some (.v L0), none, none, none, none, none, none, none, none, none, none, none] [] = .rt (.bl true) (St c' (G9 ++ U)) := by
      rw [g_law]
      clear g7 hG7 hG9 hws hwl
      generalize c_law_2 = C2 at *
      generalize b_law_4 = B4 at *
      generalize (sTry excNames "WordError" 11 (sSeq (sAsg (fCall F_read (fCons (fVar 7) fNil)) (gNm 9))
  sNil) (sSeq (sAsg (fAndV (fIsE excNames 11 ["NoText"]) (fIsE excNames 11 ["ValueError"])) (gNm 10))
  (sSeq (sAsg (fAndV (fVar 10) (fNotV (fIsE excNames 11 ["NoFit", "NoCell", "NoWord", "NoRow", "NoTelling", "NoDeed", "NoQuotient"]))) (gNm 10))
  (sSeq (sAsg (fAndV (fVar 10) (fNotV (fIsE excNames 11 ["TooMany", "NoLine", "NoName", "NoWidth", "NoPair", "NoUndo"]))) (gNm 10))
  sNil)))) = TR at *
      generalize St c' (G9 ++ U) = SZ at *
      generalize St c8 G9 = S9 at *
      generalize St c8 (G7 ++ U8) = S8 at *
      generalize hS7 : St c7 G7 = S7 at *
      simp [-for_range, -ix_tup, sizeLine, e0, f1, f2, f3, hw, f4, f5, f6, hm, e4, l4, rt, e7, tb, jn, f8, f9, tr, em, ea, fAndV, truD]
    simp [F_law, runF_e, startE, List.replicate, eg]
  | some q =>
    obtain ⟨wd, vs⟩ := q
    obtain ⟨b1, b2, b3, b4⟩ := dueD_ok hd
    simp only [hd] at f9 rd
    obtain ⟨DD, hDD⟩ : ∃ DD, DD = D.tup true [.int wd, .tup true (vs.map .int)] := ⟨_, rfl⟩
    have f9 : F__law_due [.str t] (St c8 (G7 ++ U8)) = .ok DD (St c8 G9) := by rw [hDD]; exact f9
    rw [← hDD] at rd
    obtain ⟨c', U, y, em, ea⟩ := all_met L0 c8 G9 w many t (.obj 2) DD DD (.bl false) x5 none
    simp only [show sl none = none from rfl] at em
    refine ⟨St c' (G9 ++ U), ?_⟩
    have tr : (sTry excNames "WordError" 11 (sSeq (sAsg (fCall F_read (fCons (fVar 7) fNil)) (gNm 9))
  sNil) (sSeq (sAsg (fAndV (fIsE excNames 11 ["NoText"]) (fIsE excNames 11 ["ValueError"])) (gNm 10))
  (sSeq (sAsg (fAndV (fVar 10) (fNotV (fIsE excNames 11 ["NoFit", "NoCell", "NoWord", "NoRow", "NoTelling", "NoDeed", "NoQuotient"]))) (gNm 10))
  (sSeq (sAsg (fAndV (fVar 10) (fNotV (fIsE excNames 11 ["TooMany", "NoLine", "NoName", "NoWidth", "NoPair", "NoUndo"]))) (gNm 10))
  sNil)))) [some (.v L0), some (.v (.obj 1)), some (.v (.int w)), some (.v (.int many)), some (.v (.obj 2)), sl x5, none, some (.v (.str t)), some (.v DD), some (.v .non), some (.v (.bl false)), none] (St c8 G9) = .nx [some (.v L0), some (.v (.obj 1)), some (.v (.int w)), some (.v (.int many)), some (.v (.obj 2)), sl x5, none, some (.v (.str t)), some (.v DD), some (.v DD), some (.v (.bl false)), none] (St c8 G9) := by
      rw [sTry_nx (env1 := [some (.v L0), some (.v (.obj 1)), some (.v (.int w)), some (.v (.int many)), some (.v (.obj 2)), sl x5, none, some (.v (.str t)), some (.v DD), some (.v DD), some (.v (.bl false)), none]) (S1 := St c8 G9) (by simp [noExc_cons]) (by simp [rd]) (by simp [noExc_cons])]
    have isn : ∀ S, dIs DD .non S = .ok (.bl false) S := fun S => by rw [hDD]; rfl
    have isi : ∀ S, oIsi [DD, .ty "tuple"] S = .ok (.bl true) S := fun S => by rw [hDD]; rfl
    have ln : ∀ S, oLen [DD] S = .ok (.int 2) S := fun S => by rw [hDD]; rfl
    have x0 : ∀ S, dIx DD (.int 0) S = .ok (.int wd) S := fun S => by rw [hDD]; rfl
    have x1 : ∀ S, dIx DD (.int 1) S = .ok (.tup true (vs.map .int)) S := fun S => by rw [hDD]; rfl
    have ln1 : ∀ S, oLen [.tup true (vs.map .int)] S = .ok (.int vs.length) S := fun S => by
      show Res.ok (D.int ((vs.map D.int).length : Int)) S = _
      rw [List.length_map]
    have wh : ∀ S, F__law_whole [.int (wd : Int)] S = .ok (.bl true) S := fun S => _law_whole_int _ _
    have nb : ∀ S, F__law_number [.tup true (vs.map .int), .int wd, .int vs.length] S = .ok (.bl true) S := fun S => _law_number_ok vs wd vs.length S rfl (by omega) (by omega) (by unfold sizeLine; omega) (fun d hd => by rw [Int.toNat_natCast]; exact b4 d hd)
    have dp : Deep 2 DD := by
      rw [hDD]
      refine Deep.tup (k := 1) fun d hd => ?_
      simp only [List.mem_cons, List.not_mem_nil, or_false] at hd
      rcases hd with rfl | rfl
      · exact Deep.int _
      · exact Deep.tup (k := 0) fun d hd => by
          obtain ⟨v, _, rfl⟩ := List.mem_map.mp hd
          exact Deep.int _
    have eqd : ∀ S, dEq DD DD S = .ok (.bl true) S := fun S => by
      unfold dEq
      rw [eqO_self dp (by omega)]
    clear hDD dp
    have eg : g_law [some (.v L0), none, none, none, none, none, none, none, none, none, none, none] [] = .rt (.bl true) (St c' (G9 ++ U)) := by
      rw [g_law]
      clear g7 hG7 hG9 hws hwl
      generalize c_law_2 = C2 at *
      generalize b_law_4 = B4 at *
      generalize (sTry excNames "WordError" 11 (sSeq (sAsg (fCall F_read (fCons (fVar 7) fNil)) (gNm 9))
  sNil) (sSeq (sAsg (fAndV (fIsE excNames 11 ["NoText"]) (fIsE excNames 11 ["ValueError"])) (gNm 10))
  (sSeq (sAsg (fAndV (fVar 10) (fNotV (fIsE excNames 11 ["NoFit", "NoCell", "NoWord", "NoRow", "NoTelling", "NoDeed", "NoQuotient"]))) (gNm 10))
  (sSeq (sAsg (fAndV (fVar 10) (fNotV (fIsE excNames 11 ["TooMany", "NoLine", "NoName", "NoWidth", "NoPair", "NoUndo"]))) (gNm 10))
  sNil)))) = TR at *
      generalize St c' (G9 ++ U) = SZ at *
      generalize St c8 G9 = S9 at *
      generalize St c8 (G7 ++ U8) = S8 at *
      generalize hS7 : St c7 G7 = S7 at *
      simp [-for_range, -ix_tup, sizeLine, e0, f1, f2, f3, hw, f4, f5, f6, hm, e4, l4, rt, e7, tb, jn, f8, f9, tr, em, ea, fAndV, truD, isn, isi, ln, x0, x1, ln1, wh, nb, eqd]
    simp [F_law, runF_e, startE, List.replicate, eg]
end
theorem all_of {w : World} {K : PySem.W.Frag} {h : Heap} {mg : Str → Option Value} (X : K.In h) (Gn : h.Ns mainGlobals mg) (c : He.SaysD (faOf defNames excNames moreF) fnD K) (e : exB excNames consts kdVals K = true) (t : tabO tabs K = tabV tabs w) : All w K mg :=
  ⟨free_all X Gn c,
  excT_of X Gn c (and_l e) (by decide +kernel),
  fun_mem X Gn c (by decide +kernel) (List.mem_of_getElem? (i := 0) rfl),
  fun_mem X Gn c (by decide +kernel) (List.mem_of_getElem? (i := 1) rfl),
  fun_mem X Gn c (by decide +kernel) (List.mem_of_getElem? (i := 2) rfl),
  fun_mem X Gn c (by decide +kernel) (List.mem_of_getElem? (i := 3) rfl),
  fun_mem X Gn c (by decide +kernel) (List.mem_of_getElem? (i := 4) rfl),
  fun_mem X Gn c (by decide +kernel) (List.mem_of_getElem? (i := 5) rfl),
  fun_mem X Gn c (by decide +kernel) (List.mem_of_getElem? (i := 6) rfl),
  fun_mem X Gn c (by decide +kernel) (List.mem_of_getElem? (i := 7) rfl),
  fun_mem X Gn c (by decide +kernel) (List.mem_of_getElem? (i := 8) rfl),
  fun_mem X Gn c (by decide +kernel) (List.mem_of_getElem? (i := 9) rfl),
  fun_mem X Gn c (by decide +kernel) (List.mem_of_getElem? (i := 10) rfl),
  fun_mem X Gn c (by decide +kernel) (List.mem_of_getElem? (i := 11) rfl),
  fun_mem X Gn c (by decide +kernel) (List.mem_of_getElem? (i := 12) rfl),
  fun_mem X Gn c (by decide +kernel) (List.mem_of_getElem? (i := 13) rfl),
  fun_mem X Gn c (by decide +kernel) (List.mem_of_getElem? (i := 14) rfl)⟩
end G
open PySem PySem.W PySem.Calls PyProof.Rows
theorem PySem.Challenge.cw_widewords_k05_texts_refused_holds : PySem.Challenge.rw_widewords_k05_texts_refused.Holds := by
  refine G.zlaw fun said => ?_
  refine HandSHeadRun.head_any (r := OpenLaw.row PySem.Challenge.rw_widewords_k05_texts_refused) (q := view (OpenLaw.row PySem.Challenge.rw_widewords_k05_texts_refused).prog [32]) (H := G.hkL) (ob := G.obL) (M := 40000) (loose := G.loose) (d := HandSHeadRun.topDef (OpenLaw.row PySem.Challenge.rw_widewords_k05_texts_refused).prog 32) (kwd := []) G.obL_eq
    G.zhd1 G.zhd2 G.runL G.zhd3 G.zhd4 G.zhd5 (by rfl) said G.zhd6 G.zbare G.zwit ?hc
  case hc =>
    refine G.walk_ofX (l := PySem.Challenge.rw_widewords_k05_texts_refused) (n := 63) (k := 6) (x := "_law_script") rfl (by decide) G.zdefs ⟨rfl, by decide, by decide⟩ ?F
    intro w mg fa h Y Gn hmg0
    obtain ⟨K, KX, c, e, t⟩ := Y
    have hmg : mg ("law" : PySem.Str) = some (.ref fa) := by
      rw [← G.zname]
      exact hmg0
    have A := G.all_of KX Gn c e t
    obtain ⟨f, fd, hf, F⟩ := A.f_law
    have ef := hmg.symm.trans hf
    cases ef
    have b := L2.FunD.bindsA (ps := ["_law_script"]) F fun _ _ _ _ _ _ us hl => match us, hl with | [_], _ => rfl
    exact ⟨K, fd, _, KX, fun s v => b s [v] rfl, fun H a ns hl hO hS => G.law_spec G.law_ok H a ns hO hS, fun base _ _ => G.o_law A F⟩
