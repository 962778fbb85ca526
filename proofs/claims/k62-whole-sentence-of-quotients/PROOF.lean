import PyProof.Rows.All
import Wide.All
import OpenK.AllK
import Wide.FinOn
import HandS.ForMost
import HandS.ForExc
import HandS.IsInst
import HandS.More
import HandS.HeadHook3
import KE.KDictKeyed
import HandS.Wide
import HandS.WideBits
import HandS.TupAny
import HandS.Flow
import KE.DataEq
import HandS.Text
import HandS.Style
import HandS.WideMore
import HandS.StrMore
import HandS.Iter
import HandS.Walk
import KE.GoesMore
import KE.GoesEnum
import HandS.ExcOwn
import HandS.WordsExc
import HandS.ExcIs
import KE.DataMinMax
import HandS.CallSlots
import HandS.HotCalls
import HandS.Replace
import HandS.TupMul
import PyProof.FactsAll.str_8
import HandS.NoneIn
import KE.KDictPairs
import HandS.FStr
import PyProof.DictCopy
import PyProof.StrOps2
import KE.KIndexOf
import KE.KIndexWalk
import HandS.RaiseMore
import HandS.DictTup
import HandS.Conv
import HandS.TupLen
import HandS.DictEq
import KE.KSortTupG
import Lean
import HandS.Base
import HandS.Call
import HandS.Ends
import HandS.Words
import HandS.Defaults
import HandS.HeadNt
import HandS.Head0
import HandS.Head1
import HandS.Head2
import HandS.HeadEnd
import HandS.HeadHook1
import HandS.HeadHook2
import KE.KStateDown
import PySem.Challenge.RW_widewords_k62_whole_sentence_of_quotient
set_option Elab.async false
set_option linter.all false
set_option maxRecDepth 100000
namespace G
open PySem PySem.Spec L2
inductive D where
  | non | bl (b : Bool) | int (i : Int) | str (s : Str) | tup (w : Bool) (ds : List D) | il (ds : List D) | obj (k : Nat) | fn (x : Str) | ty (n : String) | kd (ks : List Str) (ds : List D)
inductive MO where
  | lst (ds : List D) | dK (kvs : List (Key × D)) | dT (kvs : List (List Key × D)) | ins (c : Str) (fs : List (Str × D))
  | tp (ds : List D)
  | dN (kvs : List (NestedKey × D))
abbrev Sg := List MO
inductive EV where
  | v (d : D) | exc (c : Str)
abbrev Env := List (Option EV)
structure Cc where
  K : PySem.W.Frag
  mg : Str → Option Value
  w : World
def KdAt (K : PySem.W.Frag) (w : World) (p : Addr) (ks : List Str) (vs : List V) : Prop := ∃ (es : Array DictEntry) (n : Nat), KDict K w p es n ∧ es.toList.map He.keyOf = He.keysIn w.params ks ∧ Vals vs (es.toList.map (·.val))
def RoL (K : PySem.W.Frag) (ρ : List Addr) (H : Hp) (p : Addr) (vs : List V) : Prop :=
  (H p = some (.lst vs) ∧ p ∉ ρ) ∨ (∃ o, H p = some (.frz o (.lst vs))) ∨
    ∃ (o : Obj) (its : Array Value) (n : Nat), K.lookup p = some o ∧ o.cls = .type "list" ∧ o.dict = none ∧ o.data = .seq its n ∧ its.size ≤ sizeLine ∧ Vals vs its.toList
def TupAt (K : PySem.W.Frag) (H : Hp) (p : Addr) (vs : List V) (w : Bool) : Prop := (w = true → H p = some (.tup vs)) ∧ SqT K H p vs
mutual
inductive RD (c : Cc) (ρ : List Addr) (H : Hp) : V → D → Prop
  | non : RD c ρ H .non .non
  | bl (b : Bool) : RD c ρ H (.bl b) (.bl b)
  | int (i : Int) : RD c ρ H (.int i) (.int i)
  | str (s : Str) : RD c ρ H (.str s) (.str s)
  | tup {p : Addr} {vs : List V} {w : Bool} {ds : List D} : TupAt c.K H p vs w → RL c ρ H vs ds → RD c ρ H (.ref p) (.tup w ds)
  | il {p : Addr} {vs : List V} {ds : List D} : RoL c.K ρ H p vs → RL c ρ H vs ds → RD c ρ H (.ref p) (.il ds)
  | obj {k : Nat} {a : Addr} : ρ[k]? = some a → RD c ρ H (.ref a) (.obj k)
  | fn {x : Str} {f : Addr} : c.mg x = some (.ref f) → RD c ρ H (.ref f) (.fn x)
  | ty (n : String) : RD c ρ H (.ty n) (.ty n)
  | kd {p : Addr} {ks : List Str} {vs : List V} {ds : List D} : KdAt c.K c.w p ks vs → RL c ρ H vs ds → RD c ρ H (.ref p) (.kd ks ds)
inductive RL (c : Cc) (ρ : List Addr) (H : Hp) : List V → List D → Prop
  | nil : RL c ρ H [] []
  | cons {v : V} {vs : List V} {d : D} {ds : List D} : RD c ρ H v d → RL c ρ H vs ds → RL c ρ H (v :: vs) (d :: ds)
end
mutual
inductive TN (H : Hp) : NestedKey → V → Prop
  | num (i : Int) : TN H (.num i) (.int i)
  | text (x : Str) : TN H (.text x) (.str x)
  | tup {p : Addr} {vs : List V} {ks : List NestedKey} : H p = some (.tup vs) → TNs H ks vs → TN H (.tup ks) (.ref p)
inductive TNs (H : Hp) : List NestedKey → List V → Prop
  | nil : TNs H [] []
  | cons {k : NestedKey} {v : V} {ks : List NestedKey} {vs : List V} : TN H k v → TNs H ks vs → TNs H (k :: ks) (v :: vs)
end
section
variable {c : Cc} {ρ ρ' : List Addr} {S S' : Sg} {H H' : Hp} {v v' : V} {d : D} {vs vs' : List V} {ds : List D} {a p : Addr}
theorem RL.len : ∀ {vs : List V} {ds : List D}, RL c ρ H vs ds → vs.length = ds.length
  | _, _, .nil => rfl
  | _, _, .cons _ r => congrArg (· + 1) (RL.len r)
theorem RL.set {x : V} {y : D} (h : RD c ρ H x y) : ∀ {vs : List V} {ds : List D} (i : Nat), RL c ρ H vs ds → RL c ρ H (vs.set i x) (ds.set i y)
  | _, _, _, .nil => .nil
  | _, _, 0, .cons _ r => .cons h r
  | _, _, i + 1, .cons q r => .cons q (RL.set h i r)
theorem RL.take : ∀ {vs : List V} {ds : List D} (n : Nat), RL c ρ H vs ds → RL c ρ H (vs.take n) (ds.take n)
  | _, _, 0, _ => .nil
  | _, _, _ + 1, .nil => .nil
  | _, _, n + 1, .cons h r => .cons h (RL.take n r)
theorem RL.drop : ∀ {vs : List V} {ds : List D} (n : Nat), RL c ρ H vs ds → RL c ρ H (vs.drop n) (ds.drop n)
  | _, _, 0, r => r
  | _, _, _ + 1, .nil => .nil
  | _, _, n + 1, .cons _ r => RL.drop n r
end
end G
set_option autoImplicit false
namespace G
open PySem PySem.Spec L2
inductive Res (α : Type) where
  | ok (a : α) (S : Sg) | er (c : Str) (S : Sg) | st
def Res.bind {α β : Type} (r : Res α) (g : α → Sg → Res β) : Res β := match r with
  | .ok a S => g a S
  | .er c S => .er c S
  | .st => .st
@[simp] theorem Res.bind_okN {α β : Type} (a : α) (S : Sg) (g : α → Sg → Res β) : (Res.ok a S).bind g = g a S := id rfl
@[simp] theorem Res.bind_erN {α β : Type} (c : Str) (S : Sg) (g : α → Sg → Res β) : (Res.er c S : Res α).bind g = .er c S := id rfl
@[simp] theorem Res.bind_stN {α β : Type} (g : α → Sg → Res β) : (Res.st : Res α).bind g = .st := id rfl
structure RelEnv (c : Cc) (pn : List (Addr × Obj)) (ρ : List Addr) (H : Hp) (σ : L2.St) (env : Env) : Prop where
  len : σ.length = env.length
  v : ∀ (i : Nat) (d : D), env[i]? = some (some (EV.v d)) → ∃ v, σ[i]? = some (some v) ∧ RD c ρ H v d
  x : ∀ (i : Nat) (n : Str), env[i]? = some (some (EV.exc n)) → ∃ (a : Addr) (oe : Obj) (C : Addr), σ[i]? = some (some (V.ref a)) ∧ (a, oe) ∈ pn ∧ oe.cls = Value.ref C ∧ oe.dict = none ∧ (∃ vs, oe.data = _root_.PySem.Data.fields vs) ∧ c.mg n = some (Value.ref C)
theorem RelEnv.set {c : Cc} {pn : List (Addr × Obj)} {ρ : List Addr} {H : Hp} {σ : L2.St} {env : Env} {x : V} {d : D} (h : RelEnv c pn ρ H σ env) (i : Nat) (r : RD c ρ H x d) : RelEnv c pn ρ H (σ.set i (some x)) (env.set i (some (EV.v d))) := by
  refine ⟨by simp [h.len], fun j e hj => ?_, fun j n hj => ?_⟩
  · by_cases hji : i = j
    · subst hji
      by_cases hl : i < env.length
      · rw [List.getElem?_set_self hl] at hj
        cases hj
        exact ⟨x, List.getElem?_set_self (by rw [h.len]; exact hl), r⟩
      · rw [List.getElem?_eq_none (by simp; omega)] at hj
        cases hj
    · rw [List.getElem?_set_ne hji] at hj
      rw [List.getElem?_set_ne hji]
      exact h.v j e hj
  · by_cases hji : i = j
    · subst hji
      by_cases hl : i < env.length
      · rw [List.getElem?_set_self hl] at hj
        cases hj
      · rw [List.getElem?_eq_none (by simp; omega)] at hj
        cases hj
    · rw [List.getElem?_set_ne hji] at hj
      rw [List.getElem?_set_ne hji]
      exact h.x j n hj
section
variable {c : Cc} {W : WX} {σ : L2.St} {ρ ρ' : List Addr} {S : Sg} {H H' : Hp} {α β γ δ : Type} {rel : List Addr → Hp → β → α → Prop} {rel2 : List Addr → Hp → δ → γ → Prop}
end
abbrev FE := Env → Sg → Res D
abbrev FL := Env → Sg → Res (List D)
abbrev FT := Env → Sg → Res Bool
abbrev FO := Env → Sg → Res (Option Int)
abbrev _root_.L2.Cx.cc (X : Cx) : Cc := ⟨X.K, X.mg, X.w⟩
section
variable {X : Cx} {W : WX} {e a b : Expr} {es : List Expr} {pos : Pos}
end
section
variable {X : Cx} {W : WX} {e a b cc : Expr} {es : List Expr} {pos : Pos} {fa fb fc : FE} {fs : FL}
variable {t u : FT} {rest : List Expr}
theorem RL.isEmpty {c : Cc} {ρ : List Addr} {H : Hp} {vs : List V} {ds : List D} (r : RL c ρ H vs ds) : ds.isEmpty = vs.isEmpty := by
  cases r <;> rfl
end
section
variable {c : Cc} {ρ : List Addr} {S : Sg} {H : Hp}
end
section
variable {X : Cx}
end
section
variable {c : Cc} {ρ : List Addr} {S : Sg} {H : Hp}
end
section
variable {c : Cc} {ρ : List Addr} {S : Sg} {H : Hp}
end
section
variable {κ : Type} [DecidableEq κ]
def valD (kvs : List (κ × D)) (k : κ) : Option D := (kvs.find? fun kv => decide (kv.1 = k)).map (·.2)
end
section
variable {κ : Type} [DecidableEq κ] {c : Cc} {ρ : List Addr} {S : Sg} {H : Hp}
end
section
variable {X : Cx}
end
section
variable {c : Cc} {ρ : List Addr} {S : Sg} {H : Hp}
end
section
variable {c : Cc}
end
section
variable {X : Cx} {W : WX} {e a b : Expr} {es : List Expr} {pos : Pos} {fa fb : FE} {fs : FL}
end
end G
namespace HT
open PySem PySem.Spec PyProof.Rows L2
section
variable {prog : Program} {w : World} {A : Around} {E : Value → Shared → Prop} {s : Shared}
end
end HT
namespace L2
open PySem PySem.Spec PyProof.Rows
variable {X : Cx}
end L2
namespace G
open PySem PySem.Spec L2
section
variable {X : Cx} {W : WX} {e a b : Expr} {es : List Expr} {pos : Pos} {fa fb : FE} {fs : FL} {c : Cc} {x : Str} {p : Pos} {r : List V → Hp → VK → Prop} {o : List D → Sg → Res D}
end
end G
namespace PySem
open Sem (wp)
open AutoSeq1 (wpAny_loadPart')
set_option maxHeartbeats 1000000 in
section
variable {prog : Program} {w : World} {A : Around} {E : Value → Shared → Prop} {s : Shared}
end
end PySem
namespace L2
open PySem PySem.Spec PyProof.Rows
end L2
namespace G
open PySem PySem.Spec L2
section
variable {X : Cx} {W : WX} {e a b : Expr} {es : List Expr} {pos apos : Pos} {fa fb : FE} {fs : FL} {c : Cc} {r : V → List V → Hp → VK → Prop} {o : D → List D → Sg → Res D} {T id : String} {name : Str}
end
inductive SR where
  | nx (env : Env) (S : Sg) | rt (d : D) (S : Sg) | bk (env : Env) (S : Sg) | ct (env : Env) (S : Sg) | er (c : Str) (env : Env) (S : Sg) | st
abbrev FS := Env → Sg → SR
def Res.s {α : Type} (r : Res α) (env : Env) (k : α → Sg → SR) : SR := match r with
  | .ok a S => k a S
  | .er c S => .er c env S
  | .st => .st
@[simp] theorem Res.s_okN {α : Type} (a : α) (S : Sg) (env : Env) (k : α → Sg → SR) : (Res.ok a S).s env k = k a S := id rfl
@[simp] theorem Res.s_erN {α : Type} (c : Str) (S : Sg) (env : Env) (k : α → Sg → SR) : (Res.er c S : Res α).s env k = .er c env S := id rfl
@[simp] theorem Res.s_stN {α : Type} (env : Env) (k : α → Sg → SR) : (Res.st : Res α).s env k = .st := id rfl
section
variable {c : Cc} {pn : List (Addr × Obj)} {W : WX} {σ : L2.St} {ρ ρ' : List Addr} {S : Sg} {H H' : Hp} {env : Env} {D D' : Ends}
end
section
variable {X : Cx} {W : WX} {st : Stmt} {sts : List Stmt}
end
section
variable {X : Cx} {W : WX} {st : Stmt} {rest : List Stmt} {e a b : Expr} {pos pos' : Pos} {fa fb : FE} {fs : FL} {g g2 : FS} {t : FT} {x : Str} {i : Nat}
abbrev FG := D → Env → Option Env
def gNm (i : Nat) : FG := fun d env => some (env.set i (some (.v d)))
def gNms : List Nat → List D → Env → Option Env
  | [], [], env => some env
  | i :: is, d :: ds, env => gNms is ds (env.set i (some (.v d)))
  | _, _, _ => none
def gTupN (is : List Nat) : FG := fun d env => match d with
  | .tup _ ds => gNms is ds env
  | _ => none
def tNms : List Nat → TGs
  | [] => gNil
  | i :: is => gCons (gName i) (tNms is)
theorem gNms_len : ∀ {is : List Nat} {ds : List D} {env env' : Env}, gNms is ds env = some env' → ds.length = is.length
  | [], [], _, _, _ => rfl
  | i :: is, d :: ds, env, env', h => congrArg (· + 1) (gNms_len (is := is) (ds := ds) h)
  | [], _ :: _, _, _, h => nomatch h
  | _ :: _, [], _, _, h => nomatch h
end
section
variable {X : Cx} {W : WX} {x m : Str} {pos p p2 pos' : Pos} {j : Nat}
end
section
variable {X : Cx} {W : WX} {e : Expr} {body : List Stmt} {pos : Pos} {t : FT} {g : FS}
end
structure Items where
  ds : List D
  ok : Sg → Prop
abbrev FI := Env → Sg → Res Items
section
variable {X : Cx} {W : WX} {e tg : Expr} {es : List Expr} {pos p : Pos} {fa : FE} {fs : FL}
end
mutual
def D.free : D → Bool
  | .obj _ => false
  | .tup _ ds => D.frees ds
  | .il ds => D.frees ds
  | .kd _ ds => D.frees ds
  | _ => true
def D.frees : List D → Bool
  | [] => true
  | d :: ds => d.free && D.frees ds
end
section
variable {c : Cc} {ρ ρ' : List Addr} {H : Hp}
end
def wipeE (env : Env) : List Nat → Env
  | [] => env
  | v :: vs => (wipeE env vs).set v none
def noExc (env : Env) : Bool := env.all fun
  | some (.exc _) => false
  | _ => true
theorem noExc_at {env : Env} (h : noExc env = true) {i : Nat} {n : Str} : env[i]? ≠ some (some (.exc n)) := by
  intro q
  have := List.all_eq_true.mp h _ (List.mem_of_getElem? q)
  exact absurd this (by simp)
theorem RelEnv.wipe {c : Cc} {pn : List (Addr × Obj)} {ρ : List Addr} {H : Hp} {σ : L2.St} {env : Env} (E : RelEnv c pn ρ H σ env) : ∀ vs : List Nat, RelEnv c pn ρ H (L2.wipe σ vs) (wipeE env vs)
  | [] => E
  | v :: vs => by
    have h := E.wipe vs
    unfold L2.wipe wipeE
    refine ⟨by simp [h.len], fun j d hj => ?_, fun j n hj => ?_⟩
    · by_cases hjv : v = j
      · subst hjv
        by_cases hl : v < (wipeE env vs).length
        · rw [List.getElem?_set_self hl] at hj; cases hj
        · rw [List.getElem?_eq_none (by simp; omega)] at hj; cases hj
      · rw [List.getElem?_set_ne hjv] at hj
        rw [List.getElem?_set_ne hjv]
        exact h.v j d hj
    · by_cases hjv : v = j
      · subst hjv
        by_cases hl : v < (wipeE env vs).length
        · rw [List.getElem?_set_self hl] at hj; cases hj
        · rw [List.getElem?_eq_none (by simp; omega)] at hj; cases hj
      · rw [List.getElem?_set_ne hjv] at hj
        rw [List.getElem?_set_ne hjv]
        exact h.x j n hj
theorem RelEnv.bare {c : Cc} {pn pn' : List (Addr × Obj)} {ρ : List Addr} {H : Hp} {σ : L2.St} {env : Env} (E : RelEnv c pn ρ H σ env) (h : noExc env = true) : RelEnv c pn' ρ H σ env := ⟨E.len, E.v, fun i n q => absurd q (noExc_at h)⟩
inductive Tg where
  | one (i : Nat) | tup (is : List Nat)
def Tg.f : Tg → FG
  | .one i => gNm i
  | .tup is => gTupN is
def Tg.is : Tg → List Nat
  | .one i => [i]
  | .tup is => is
def Tg.t (K : PySem.W.Frag) : Tg → TG
  | .one i => gName i
  | .tup is => gTup K is.length (tNms is)
theorem wipe_set {σ : L2.St} {x : Option V} : ∀ {vs : List Nat} {i : Nat}, i ∈ vs → L2.wipe (σ.set i x) vs = L2.wipe σ vs
  | v :: vs, i, h => by
    unfold L2.wipe
    by_cases hi : i ∈ vs
    · rw [wipe_set hi]
    · have e : i = v := by
        rcases List.mem_cons.mp h with e | e
        · exact e
        · exact absurd e hi
      subst e
      have : ∀ (ws : List Nat) (τ : L2.St), i ∉ ws → L2.wipe (τ.set i x) ws = (L2.wipe τ ws).set i x := by
        intro ws
        induction ws with
        | nil => intro τ _; rfl
        | cons w ws ih =>
          intro τ hw
          simp only [List.mem_cons, not_or] at hw
          unfold L2.wipe
          rw [ih τ hw.2, List.set_comm _ _ hw.1]
      rw [this vs σ hi, List.set_set]
theorem tNms_wipe {c : Cc} {pn : List (Addr × Obj)} {ρ : List Addr} {H : Hp} {own : List Nat} {τ : L2.St} {Q : L2.St → Hp → Prop} : ∀ {is : List Nat} {vs : List V} {ds : List D} {σ : L2.St} {env env' : Env}, RelEnv c pn ρ H σ env → RL c ρ H vs ds → gNms is ds env = some env' →
    (∀ i ∈ is, i ∈ own) → L2.wipe σ own = τ → (∀ σ', RelEnv c pn ρ H σ' env' → L2.wipe σ' own = τ → Q σ' H) → tNms is vs σ H Q
  | [], _, _, _, _, _, E, .nil, h, hi, hw, k => by cases h; exact ⟨rfl, k _ E hw⟩
  | i :: is, _, _, _, _, _, E, .cons h1 h2, h, hi, hw, k => ⟨_, _, rfl, tNms_wipe (E.set i h1) h2 h (fun j hj => hi j (List.mem_cons_of_mem _ hj)) (by rw [wipe_set (hi i List.mem_cons_self)]; exact hw) k⟩
  | [], _, _, _, _, _, E, .cons _ _, h, _, _, k => nomatch h
  | _ :: _, _, _, _, _, _, E, .nil, h, _, _, k => nomatch h
theorem Tg.ok {c : Cc} {pn : List (Addr × Obj)} {ρ : List Addr} {H : Hp} {own : List Nat} {τ σ : L2.St} {env env' : Env} {v : V} {d : D} {Q : L2.St → Hp → Prop} (T : Tg) (E : RelEnv c pn ρ H σ env) (r : RD c ρ H v d) (h : T.f d env = some env')
    (hi : ∀ i ∈ T.is, i ∈ own) (hw : L2.wipe σ own = τ) (k : ∀ σ', RelEnv c pn ρ H σ' env' → L2.wipe σ' own = τ → Q σ' H) : T.t c.K v σ H Q := by
  cases T with
  | one i =>
    cases h
    exact k _ (E.set i r) (by rw [wipe_set (hi i (by simp [Tg.is]))]; exact hw)
  | tup is =>
    cases r with
    | @tup p vs w ds ht hl =>
      exact ⟨p, vs, rfl, ht.2, by rw [hl.len, gNms_len h], tNms_wipe E hl h hi hw k⟩
    | _ => cases h
def Res.quiet {α : Type} (r : Res α) : Res α := match r with
  | .er _ _ => .st
  | r => r
@[simp] theorem Res.quiet_ok {α : Type} (a : α) (S : Sg) : (Res.ok a S).quiet = .ok a S := rfl
@[simp] theorem Res.quiet_er {α : Type} (c : Str) (S : Sg) : (Res.er c S : Res α).quiet = .st := rfl
@[simp] theorem Res.quiet_st {α : Type} : (Res.st : Res α).quiet = .st := rfl
section
variable {X : Cx} {W : WX} {elt tg iter : Expr} {scope : Scope} {own : List (Str × Nat)} {pos : Pos} {fi : FI} {T : Tg} {t : FT} {fe : FE} {use : Bool}
end
abbrev Fn := List D → Sg → Res D
section
variable {c : Cc} {ρ : List Addr} {H : Hp}
end
section
variable {X : Cx} {W : WX} {e : Expr} {es : List Expr} {pos p : Pos} {fs : FL} {k n : Nat} {x : Str} {F : Fn}
end
section
variable {P : Program} {w : World} {K : PySem.W.Frag} {mg : Str → Option Value} {base : Heap}
end
def subX (n c : Str) : Bool := n == c || c == ("WordError" : Str) || c == ("ValueError" : Str)
section
variable {X : Cx} {W : WX} {pos p p2 p3 : Pos} {names : List Str}
end
theorem RelEnv.none {c : Cc} {pn pn' : List (Addr × Obj)} {ρ : List Addr} {H : Hp} {σ : L2.St} {env : Env} {i : Nat} (E : RelEnv c pn ρ H σ env) (h : noExc (env.set i none) = true) : RelEnv c pn' ρ H (σ.set i none) (env.set i none) := by
  refine ⟨by simp [E.len], fun j d hj => ?_, fun j n q => absurd q (noExc_at h)⟩
  by_cases hji : i = j
  · subst hji
    by_cases hl : i < env.length
    · rw [List.getElem?_set_self hl] at hj; cases hj
    · rw [List.getElem?_eq_none (by simp; omega)] at hj; cases hj
  · rw [List.getElem?_set_ne hji] at hj
    rw [List.getElem?_set_ne hji]
    exact E.v j d hj
section
variable {X : Cx} {W : WX} {pos np pos' : Pos} {names : List Str} {body suite : List Stmt} {b₀ : Stmt} {g gs : FS} {h n : Str} {i : Nat}
end
structure Zk where
  P : Program
  w : World
  K : PySem.W.Frag
  mg : Str → Option Value
  base : Heap
  k : Nat
def freeNames : List Str := ["len", "int", "str", "abs", "all", "any", "sum", "tuple", "list", "dict", "bool", "max", "min", "isinstance", "range", "enumerate", "sorted", "zip", "ValueError", "type", "set", "map", "repr", "reversed"]
section
variable {Z : Zk} {N : List Str} {sc : Scope} {X : Cx} {W : WX} {pos : Pos} {e a b cc : Expr} {es : List Expr} {fa fb fc : FE} {fs : FL} {x : Str}
variable {op op' : CmpOp} {o o' : D → D → Sg → Res D}
variable {p : Pos}
variable {elt tg iter : Expr} {scope : Scope} {ifs : List Expr} {own : List (Str × Nat)} {fi : FI} {T : Tg} {t : FT} {fe : FE} {use : Bool}
variable {g g2 : FS} {st : Stmt} {body : List Stmt} {px : Pos}
end
mutual
def constB (K : PySem.W.Frag) : D → Value → Bool
  | .int i, .int j _ => decide (i = j)
  | .str s, .str z _ => decide (s = z)
  | .bl b, .bool e => decide (b = e)
  | .non, .none => true
  | .tup false ds, .ref p => match K.lookup p with
    | some ⟨.type c, _, .seq its _, _⟩ => decide (c = "tuple") && (decide (its.size ≤ sizeLine) && constBs K ds its.toList)
    | _ => false
  | _, _ => false
def constBs (K : PySem.W.Frag) : List D → List Value → Bool
  | [], [] => true
  | d :: ds, u :: us => constB K d u && constBs K ds us
  | _, _ => false
end
section
variable {X : Cx} {W : WX} {pos : Pos} {keys : List (Option Expr)} {values : List Expr} {fs : List (FE × FE)}
end
section
variable {Z : Zk} {N : List Str} {sc : Scope} {X : Cx} {W : WX} {pos p : Pos} {e : Expr} {es : List Expr} {fs : FL}
end
end G
namespace PySem
open Sem (wp)
open PySem.W
end PySem
namespace G
open PySem PySem.Spec L2 PyProof.Rows HT
section
variable {Z : Zk} {N : List Str} {sc : Scope} {X : Cx} {W : WX} {pos p : Pos} {e : Expr} {es : List Expr} {fs : FL}
end
end G
namespace G
open PySem PySem.Spec L2
section
variable {c : Cc} {ρ : List Addr} {H : Hp}
end
section
variable (P : Program) (w : World) (K : PySem.W.Frag) (mg : Str → Option Value) (base : Heap)
end
section
variable {P : Program} {w : World} {K : PySem.W.Frag} {mg : Str → Option Value} {base : Heap} {k n : Nat} {x y : Str} {F F' : Fn}
end
section
variable {X : Cx} {W : WX} {a b o e : Expr} {es : List Expr} {pos p apos pos' : Pos} {fa fo fv : FE} {fs : FL} {n f m x : Str} {k j : Nat} {F : Fn}
end
section
variable {Z : Zk} {N : List Str} {sc : Scope} {X : Cx} {W : WX} {a b o e : Expr} {es : List Expr} {pos p apos pos' : Pos} {fa fo fv : FE} {fs : FL} {n f m x : Str} {k j : Nat} {F : Fn}
end
section
variable {X : Cx}
end
section
variable {X : Cx} {W : WX} {a b cc : Expr} {pos apos : Pos} {fa fb fc : FE}
end
section
variable {Z : Zk} {N : List Str} {sc : Scope} {X : Cx} {W : WX} {a b cc : Expr} {es : List Expr} {pos p apos : Pos} {fa fb fc : FE}
end
section
variable {X : Cx} {W : WX} {ef e : Expr} {es : List Expr} {pos p : Pos} {fe : FE} {fs : FL} {k n : Nat} {T : List (Str × Fn)} {x : Str}
end
section
variable {c : Cc} {ρ : List Addr} {H : Hp}
end
section
variable {X : Cx} {W : WX} {e : Expr} {es : List Expr} {kws : List Keyword} {pos p : Pos} {fs fks : FL} {k n np : Nat} {x : Str} {F : Fn} {ps ks : List Str} {is : List Nat} {st : Stmt} {dvs : List D}
end
section
variable {Z : Zk} {N : List Str} {sc : Scope} {X : Cx} {W : WX} {ef e : Expr} {es : List Expr} {kws : List Keyword} {pos p : Pos} {fe : FE} {fs fks : FL} {k n np : Nat} {x : Str} {F : Fn} {ps ks : List Str} {is : List Nat} {st : Stmt} {dvs : List D} {T : List (Str × Fn)}
end
section
variable {P : Program} {w : World} {K : PySem.W.Frag} {mg : Str → Option Value} {base : Heap} {x qual : Str} {st : Stmt} {f : Addr} {fd : FuncData} {N ps : List Str} {k : Nat} {g : FS}
end
abbrev FX := Str → Sg → Res D
section
variable {P : Program} {w : World} {K : PySem.W.Frag} {mg : Str → Option Value} {base : Heap} {x qual : Str} {st : Stmt} {f : Addr} {fd : FuncData} {N ps : List Str} {k : Nat} {g : FS}
end
section
variable {X : Cx} {W : WX} {pos p p2 : Pos} {x y : Str} {k i : Nat} {F : FX}
end
section
variable {Z : Zk} {N : List Str} {sc : Scope} {X : Cx} {W : WX} {pos p p2 : Pos} {x y : Str} {k i : Nat} {F : FX} {body : List Stmt} {g : FS}
end
section
variable {X : Cx}
end
section
variable {c : Cc}
end
section
variable {Z : Zk} {N : List Str} {sc : Scope} {X : Cx} {W : WX} {a e : Expr} {es : List Expr} {pos p apos : Pos} {fa : FE} {fs : FL}
end
end G
namespace L2
open PySem PySem.Spec PyProof.Rows
end L2
namespace G
open PySem PySem.Spec L2
section
variable {X : Cx} {W : WX} {e tg a : Expr} {pos p : Pos} {fs : FL} {elts : List Expr} {kk : Nat} {tpos : Pos}
end
end G
namespace G
open PySem PySem.Spec L2 PyProof.Rows
section
variable {X : Cx} {W : WX} {a b : Expr} {fa fb : FE} {pos : Pos}
end
end G
namespace G
open PySem PySem.Spec L2
section
variable {X : Cx} {W : WX} {o1 i1 o2 i2 a b : Expr} {pos p1 p2 pt pt2 : Pos} {kt k2 : Nat} {fo1 fi1 fo2 fi2 : FE} {fs : FL}
end
section
variable {Z : Zk} {N : List Str} {sc : Scope} {X : Cx} {W : WX} {o1 i1 o2 i2 a b e : Expr} {pos p1 p2 pt pt2 : Pos} {kt k2 : Nat} {fo1 fi1 fo2 fi2 fa : FE} {fs : FL}
end
section
variable {Z : Zk} {N : List Str} {sc : Scope} {X : Cx} {W : WX} {pos px : Pos} {es vs : List Expr} {k2 : Nat} {p2 : Pos} {fa : FE}
end
end G
namespace G
open PySem PySem.Spec L2 PyProof.Rows
section
variable {Z : Zk} {N : List Str} {sc : Scope} {X : Cx} {W : WX} {e : Expr} {es : List Expr} {fs : FL} {p pos : Pos} {k : Nat}
end
def leS (a b : Str) : Prop := ltCps b.cps.toList a.cps.toList = false
instance (a b : Str) : Decidable (leS a b) := inferInstanceAs (Decidable (_ = _))
section
variable {X : Cx} {W : WX} {e v1 v2 : Expr} {rest es : List Expr} {pos : Pos} {fe : FE} {fs : List FE}
end
section
variable {Z : Zk} {N : List Str} {sc : Scope} {X : Cx} {W : WX} {e a : Expr} {es : List Expr} {fs : FL} {fa : FE} {p pos apos : Pos}
end
end G
namespace G
open PySem PySem.Spec L2
section
variable {prog : Program} {w : World} {A : Around} {E : Value → Shared → Prop} {s : Shared}
set_option maxRecDepth 100000 in
end
section
variable {X : Cx} {o e : Expr} {lo hi : Option Expr} {pos p2 : Pos} {to : TE} {tl th : TO}
end
section
variable {X : Cx} {W : WX} {o e : Expr} {lo hi : Option Expr} {pos pos' p2 : Pos} {fo fv : FE} {fl fh : FO}
end
section
variable {Z : Zk} {N : List Str} {sc : Scope} {X : Cx} {W : WX} {o e : Expr} {lo hi : Option Expr} {pos px p2 : Pos} {fo fv : FE} {fl fh : FO}
end
section
variable {Z : Zk} {N : List Str} {sc : Scope} {X : Cx} {W : WX} {a e : Expr} {es : List Expr} {pos p apos : Pos} {fa : FE} {fs : FL}
end
end G
namespace G
open PySem PySem.Spec L2 PyProof.Rows
section
variable {Z : Zk} {N : List Str} {sc : Scope} {X : Cx} {W : WX} {a e : Expr} {es : List Expr} {pos p apos : Pos} {fa : FE} {fs : FL}
end
section
variable {X : Cx} {W : WX} {x : Str} {e : Expr} {pos p pos' : Pos} {fe : FE}
end
section
variable {Z : Zk} {N : List Str} {sc : Scope} {X : Cx} {W : WX} {x : Str} {e a : Expr} {es : List Expr} {pos p pos' apos : Pos} {fe fa : FE} {fs : FL}
end
section
variable {P : Program} {w : World} {K : PySem.W.Frag} {d : Addr} {o : Obj} {es : Array DictEntry} {ep : Nat}
end
section
variable {X : Cx} {W : WX}
end
section
variable {Z : Zk} {N : List Str} {sc : Scope} {X : Cx} {W : WX} {a e : Expr} {es : List Expr} {pos p apos : Pos} {fa : FE} {fs : FL}
end
section
variable {P : Program} {w : World} {H : Hp} {h : Heap}
mutual
theorem TN.is (ok : HOk P w H h) : ∀ {k : NestedKey} {v : V} {u : Value}, TN H k v → RelV v u → NestedIs h k u
  | _, _, _, .num i, r => by obtain ⟨t, rfl⟩ := r; exact .int _ _
  | _, _, _, .text x, r => by obtain ⟨t, rfl⟩ := r; exact .text _ _
  | _, _, _, .tup e q, r => by
    cases r
    obtain ⟨_, its, rv, o, h1, h2, n, h3⟩ := ok _ _ e
    exact .tup h1 h2 h3 (by simpa using TNs.all ok q rv)
theorem TNs.all (ok : HOk P w H h) : ∀ {ks : List NestedKey} {vs : List V} {us : List Value}, TNs H ks vs → Vals vs us → NestedAll h ks us
  | _, _, _, .nil, r => by cases r; exact .nil
  | _, _, _, .cons a b, r => by
    cases r with
    | cons r1 r2 => exact .cons (TN.is ok a r1) (TNs.all ok b r2)
end
end
section
variable {X : Cx} {pos : Pos}
end
section
variable {c : Cc} {ρ : List Addr} {H : Hp}
end
section
variable {X : Cx} {W : WX} {o e : Expr} {es : List Expr} {to : TE} {t : TA} {apos cpos : Pos} {fa : FE} {fs : FL}
end
section
variable {X : Cx} {W : WX} {e : Expr} {pos pos' : Pos}
end
section
variable {prog : Program} {w : World} {K : Type} [DecidableEq K] {knd : HeapKind prog w K} {A : Around} {E : Value → Shared → Prop} {s : Shared}
end
section
variable {X : Cx} {W : WX}
end
section
variable {X : Cx}
end
section
variable {Z : Zk} {N : List Str} {sc : Scope} {X : Cx} {W : WX}
end
end G
namespace G
open PySem PySem.Spec L2
def clV (K : PySem.W.Frag) (y : Str) : Value := if y == ("ValueError" : Str) then .type "ValueError" else .ref (He.ga K y)
def excOne (K : PySem.W.Frag) (names : List Str) (x : Str) : Bool :=
  decide (PySem.W.findIn K (.ref (He.ga K x)) "__getattribute__" = some (some (.builtin "BaseException.__getattribute__"))) &&
  (decide (PySem.W.findIn K (.ref (He.ga K x)) "__getattr__" = some none) &&
  (PySem.W.hasDictIn K (He.ga K x) &&
  (decide (PySem.W.findIn K (.ref (He.ga K x)) "__class__" = some (some (.builtin "object.__class__"))) &&
  (decide (PySem.W.specialIn K (.builtin "object.__class__") "__get__" = some (some (.builtin "getset_descriptor.__get__"))) &&
  (decide (PySem.W.takesIn K (.builtin "object.__class__") = some true) &&
  (decide (PySem.W.mroIn K (He.ga K x) (.type "object") = some true) &&
  ((("ValueError" : Str) :: names).all (fun y => decide (PySem.W.kitOne K (.ref (He.ga K x)) (clV K y) = some (subX x y))) &&
  names.all (fun y => decide (PySem.W.exmOne K (.ref (He.ga K x)) (clV K y) = some (subX x y))))))))))
def excB (names : List Str) (K : PySem.W.Frag) : Bool := names.all (excOne K names)
abbrev Tb : Type := Str × List Str
abbrev AlO : Type := (He.AlD × Bool) × List (Option (List (Option (Str × Int))))
def tabO (ts : List Tb) (K : PySem.W.Frag) : List (Option (List (Option (Str × Int)))) := ts.map fun t => He.dicW K (He.ga K t.1)
def tabV (ts : List Tb) (w : World) : List (Option (List (Option (Str × Int)))) := ts.map fun t => some (He.keysIn w.params t.2)
def obsK (fa : List He.Fa) (fn : List He.DefD) (ex : PySem.W.Frag → Bool) (ts : List Tb) (K : PySem.W.Frag) : AlO := ((He.obsD fa fn K, ex K), tabO ts K)
def obsO (as : List Nat) (fa : List He.Fa) (fn : List He.DefD) (ex : PySem.W.Frag → Bool) (ts : List Tb) (g : Addr → Option Obj) : AlO := obsK fa fn ex ts (He.frG g as)
def hookO (as : List Nat) (fa : List He.Fa) (fn : List He.DefD) (ex : PySem.W.Frag → Bool) (ts : List Tb) : PySem.W.Hook where
  α := AlO
  obs := fun s => obsO as fa fn ex ts s.heap.get?
  val := fun w => ((He.valD fn, true), tabV ts w)
  says := fun w h => ∃ K : PySem.W.Frag, K.In h ∧ He.SaysD fa fn K ∧ ex K = true ∧ tabO ts K = tabV ts w
  of := fun _ _ e => ⟨_, He.frG_in, congrArg (fun z : AlO => z.1.1) e, congrArg (fun z : AlO => z.1.2) e, congrArg (fun z : AlO => z.2) e⟩
  keeps := fun _ _ _ ⟨K, hK, c⟩ k => ⟨K, PySem.W.Frag.In.keeps hK k, c⟩
theorem obsO_eq {as : List Nat} {fa : List He.Fa} {fn : List He.DefD} {ex : PySem.W.Frag → Bool} {ts : List Tb} {g : Addr → Option Obj} {s : Shared} (h : ∀ a, g a = s.heap.get? a) : obsO as fa fn ex ts g = (hookO as fa fn ex ts).obs s := by
  have e : g = s.heap.get? := funext h
  rw [e] <;> rfl
def defF (x : Str) (st : Stmt) : He.DefD := ⟨(x, none), x, x, defArgs st, defBody st, defScope st, [], []⟩
def defFd (x : Str) (st : Stmt) (ds : List He.Dv) : He.DefD := ⟨(x, none), x, x, defArgs st, defBody st, defScope st, ds, []⟩
def faOf (defs names : List Str) (more : List He.Fa) : List He.Fa := defs.map .glo ++ (names.map .glo ++ (names.map .exc ++ (freeNames.map .free ++ more)))
def conOne (K : PySem.W.Frag) (x : Str) (d : D) : Bool := match PySem.W.nsIn K mainGlobals x with
  | some (some u) => constB K d u
  | _ => false
def conB (cs : List (Str × D)) (K : PySem.W.Frag) : Bool := cs.all fun q => conOne K q.1 q.2
def kvB (K : PySem.W.Frag) : D → Value → Bool
  | .int i, .int j _ => decide (i = j)
  | .str s, .str z _ => decide (s = z)
  | .bl b, .bool c => decide (b = c)
  | .fn x, .ref a => decide (PySem.W.nsIn K mainGlobals x = some (some (.ref a)))
  | _, _ => false
def kvsB (K : PySem.W.Frag) : List D → List Value → Bool
  | [], [] => true
  | d :: ds, u :: us => kvB K d u && kvsB K ds us
  | _, _ => false
def kdOne (K : PySem.W.Frag) (x : Str) (ds : List D) : Bool := match PySem.W.nsIn K mainGlobals x with
  | some (some (.ref p)) => (match K.lookup p with
    | some ⟨_, _, .dict es _, _⟩ => kvsB K ds (es.toList.map (·.val))
    | _ => false)
  | _ => false
def kdB (cs : List (Str × List D)) (K : PySem.W.Frag) : Bool := cs.all fun q => kdOne K q.1 q.2
def exB (names : List Str) (cs : List (Str × D)) (kds : List (Str × List D)) (K : PySem.W.Frag) : Bool := excB names K && (conB cs K && kdB kds K)
section
variable {K : PySem.W.Frag} {h : Heap} {mg : Str → Option Value} {defs names : List Str} {more : List He.Fa} {fn : List He.DefD}
end
end G
namespace G
def fnObs (fn : List He.DefD) (K : PySem.W.Frag) : Bool × List He.FnW := (fn.all fun d => d.ok K, fn.map fun d => He.fnW K d.at_)
theorem join_fn {α : Type} {o : Option α} {k : α → PySem.W.Frag} {f1 f2 : List He.DefD} (h1 : o.map (fun s => fnObs f1 (k s)) = some (true, f1.map He.DefD.val)) (h2 : o.map (fun s => fnObs f2 (k s)) = some (true, f2.map He.DefD.val)) :
    o.map (fun s => fnObs (f1 ++ f2) (k s)) = some (true, (f1 ++ f2).map He.DefD.val) := by
  cases o with
  | none => simp at h1
  | some x =>
    simp only [Option.map_some, Option.some.injEq, fnObs, Prod.mk.injEq] at h1 h2 ⊢
    rw [List.all_append, List.map_append, List.map_append, h1.1, h2.1, h1.2, h2.2]
    exact ⟨rfl, rfl⟩
theorem look_fst {α A B : Type} {o : Option α} {f : α → A} {g : α → B} {a : A} {b : B} (h : o.map (fun s => (f s, g s)) = some (a, b)) : o.map f = some a := by
  cases o with
  | none => simp at h
  | some x =>
    simp only [Option.map_some, Option.some.injEq, Prod.mk.injEq] at h ⊢
    exact h.1
theorem look_snd {α A B : Type} {o : Option α} {f : α → A} {g : α → B} {a : A} {b : B} (h : o.map (fun s => (f s, g s)) = some (a, b)) : o.map g = some b := by
  cases o with
  | none => simp at h
  | some x =>
    simp only [Option.map_some, Option.some.injEq, Prod.mk.injEq] at h ⊢
    exact h.2
theorem look_seven {α B : Type} {o : Option α} {k : α → PySem.W.Frag} {fa : List He.Fa} {m : Nat} {fn : List He.DefD} {ex : PySem.W.Frag → Bool} {ts : List Tb} {tv : List (Option (List (Option (PySem.Str × Int))))} {f st nb gd lk : α → Bool} {g : α → B} {b : B}
    (hf : ∀ s, f s = (((st s && nb s) && gd s) && lk s)) (h1 : o.map nb = some true) (h2 : o.map (fun s => (((st s && gd s) && lk s), (g s, tabO ts (k s)))) = some (true, (b, tv)))
    (h3 : o.map (fun s => (((fa.take m).all fun f => f.ok (k s)), ex (k s))) = some (true, true)) (h4 : o.map (fun s => fnObs fn (k s)) = some (true, fn.map He.DefD.val)) (h5 : o.map (fun s => (fa.drop m).all fun f => f.ok (k s)) = some true) :
    o.map (fun s => (f s, g s, obsK fa fn ex ts (k s))) = some (true, b, ((He.valD fn, true), tv)) := by
  cases o with
  | none => simp at h1
  | some x =>
    simp only [Option.map_some, Option.some.injEq, fnObs, obsK, He.obsD, He.valD, Prod.mk.injEq, Bool.and_eq_true] at h1 h2 h3 h4 h5 ⊢
    have e : (fa.all fun f => f.ok (k x)) = true := by
      rw [← List.take_append_drop m fa, List.all_append, h3.1, h5]
      rfl
    rw [hf, h1, h2.1.1.1, h2.1.1.2, h2.1.2, h2.2.1, h2.2.2, h3.2, h4.1, h4.2, e]
    simp
end G
namespace G
open PySem PySem.Spec L2
end G
set_option maxHeartbeats 0
namespace G
open PySem PySem.Spec L2
def top (i : Nat) : Stmt := PySem.Challenge.pw_widewords_k62_whole_sentence_of_quotient.main.body.getD i (.Pass ⟨0, 0, 0, 0⟩)
abbrev FnP (K : PySem.W.Frag) (x : Str) (st : Stmt) (f : Addr) (fd : FuncData) : Prop := FunD K x x (defArgs st) (defBody st) (defScope st) [] [] f fd
def excNames : List Str := ["WordError", "NoDeed"]
abbrev R : PySem.W.OpenRow := PySem.W.OpenLaw.row PySem.Challenge.rw_widewords_k62_whole_sentence_of_quotient
def defNames : List Str := (["_law_count", "_law_at", "_law_reckoned", "_law_lowest", "_law_due_terms", "_law_part_says", "_law_says", "_law_whole", "_law_wholes", "_law_letter", "_law_thing", "_law_is_sentence", "_law_index_cell", "_law_telling_row", "_law_part", "_law_is_telling", "do", "times_n", "bare_mark_to", "cell", "nought_to_mark", "mark_to", "ends", "mask_of", "one_more", "chosen_rest", "doubled", "place_parts", "stretch", "place_sentence"] : List Str) ++ (["divided", "turned_by", "signed_quotient_parts", "quotient_parts", "round_sentence", "word_sentence", "word_parts", "plain_rounds", "taken_off", "signed_product_parts", "product_parts", "no_marks", "lowest", "bare_parts", "less_rounds", "signs_to", "over_less", "compare_parts", "turned_parts", "difference_parts", "sum_parts", "twos_parts", "copied", "ahead_of_round", "one_place", "shift_parts", "kept_words", "sign_of_last", "mask_of_last", "narrower_over"] : List Str) ++ (["wider_parts", "wider_over", "led_parts", "is_whole", "is_within", "is_led", "is_deed", "check_deed", "telling", "_law_mixed", "_law_fill", "_law_take", "_law_sizes", "_law_fresh", "law"] : List Str)
def moreF : List He.Fa := []
def fnD0 : List He.DefD := [defF "_law_count" (top 99), defF "_law_at" (top 98), defF "_law_reckoned" (top 100), defF "_law_lowest" (top 101), defF "_law_due_terms" (top 102), defF "_law_part_says" (top 104), defF "_law_says" (top 103), defF "_law_whole" (top 89), defF "_law_wholes" (top 90), defF "_law_letter" (top 91), defF "_law_thing" (top 94), defF "_law_is_sentence" (top 95), defF "_law_index_cell" (top 92), defF "_law_telling_row" (top 93), defF "_law_part" (top 96), defF "_law_is_telling" (top 97), defF "do" (top 5), defFd "times_n" (top 6) [.non], defF "bare_mark_to" (top 9), defFd "cell" (top 4) [.int 0, .int 0, .int 0, .int 0], defF "nought_to_mark" (top 56), defF "mark_to" (top 8), defF "ends" (top 10), defF "mask_of" (top 67), defF "one_more" (top 50), defF "chosen_rest" (top 53), defF "doubled" (top 52), defF "place_parts" (top 54), defF "stretch" (top 43), defF "place_sentence" (top 51), defF "divided" (top 55), defF "turned_by" (top 68), defF "signed_quotient_parts" (top 72), defF "quotient_parts" (top 57), defF "round_sentence" (top 45), defF "word_sentence" (top 44), defF "word_parts" (top 46), defF "plain_rounds" (top 47), defF "taken_off" (top 70), defF "signed_product_parts" (top 71), defF "product_parts" (top 48), defF "no_marks" (top 23), defF "lowest" (top 15), defF "bare_parts" (top 25), defF "less_rounds" (top 18), defF "signs_to" (top 16), defF "over_less" (top 19), defF "compare_parts" (top 22), defF "turned_parts" (top 21), defF "difference_parts" (top 20), defF "sum_parts" (top 17), defF "twos_parts" (top 24), defF "copied" (top 62), defF "ahead_of_round" (top 63), defF "one_place" (top 64), defF "shift_parts" (top 65), defF "kept_words" (top 30), defF "sign_of_last" (top 31), defF "mask_of_last" (top 32), defF "narrower_over" (top 35)]
def fnD1 : List He.DefD := [defF "wider_parts" (top 33), defF "wider_over" (top 34), defF "led_parts" (top 36), defF "is_whole" (top 59), defF "is_within" (top 78), defF "is_led" (top 79), defF "is_deed" (top 80), defF "check_deed" (top 81), defF "telling" (top 82), defF "_law_mixed" (top 85), defF "_law_fill" (top 86), defF "_law_take" (top 87), defF "_law_sizes" (top 88), defF "_law_fresh" (top 84), defF "law" (top 105)]
def fnD : List He.DefD := fnD0 ++ (fnD1)
def consts : List (Str × D) := [("NAUGHT", (.tup false [(.str "z"), (.tup false [(.int 0), (.int 0), (.int 0), (.int 0)])])), ("AT_NAUGHT", (.tup false [(.int 0), (.int 0), (.int 0), (.int 0)])), ("NO_SHIFT", (.tup false [(.int 0), (.int 0), (.int 0), (.int 0), (.int 0), (.int 0)])), ("LOW_B", (.tup false [(.str "slice"), (.str "b"), (.tup false [(.int 0), (.int 0), (.int 0), (.int 0)]), (.tup false [(.int 0), (.int 1), (.int 0), (.int 0)])])), ("ALL_A", (.tup false [(.str "slice"), (.str "a"), (.tup false [(.int 0), (.int 0), (.int 0), (.int 0)]), (.tup false [(.int 0), (.int 0), (.int 0), (.int 1)])])), ("LOW_C", (.tup false [(.str "slice"), (.str "c"), (.tup false [(.int 0), (.int 0), (.int 0), (.int 0)]), (.tup false [(.int 0), (.int 1), (.int 0), (.int 1)])])), ("SO_FAR", (.tup false [(.int 0), (.int 0), (.int 0), (.int 1), (.int 0), (.int 0)])), ("FLAT", (.tup false [(.int 0), (.int 0), (.int 0), (.int 0), (.int 0), (.int 0)])), ("MARK", (.tup false [(.str "mark")])), ("HIGHEST", (.tup false [(.str "twice"), (.tup false [(.str "t"), (.tup false [(.int 0), (.int 0), (.int 0), (.int 0)])]), (.tup false [(.str "c"), (.tup false [(.int (-1)), (.int 0), (.int 0), (.int 1)])])])), ("GATHER", (.tup false [(.str "g"), (.tup false [(.int 0), (.int 0), (.int 0), (.int 0)])])), ("SPARE", (.tup false [(.str "t"), (.tup false [(.int 0), (.int 0), (.int 0), (.int 0)])])), ("MASK", (.tup false [(.str "p"), (.tup false [(.int 0), (.int 0), (.int 0), (.int 0)])])), ("KINDS", (.tup false [(.str "plain"), (.str "signed")]))]
def kdVals : List (Str × List D) := [("PLAIN", [.fn "sum_parts", .fn "difference_parts", .fn "turned_parts", .fn "compare_parts", .fn "bare_parts", .fn "product_parts", .fn "signed_product_parts", .fn "quotient_parts", .fn "signed_quotient_parts"]), ("TWOS", [(.int 2), (.int 2), (.int 2)]), ("SHIFTS", [(.int 1), (.int 1), (.int 1), (.int 1)])]
def tabs : List Tb := [("PLAIN", ["sum", "difference", "turned", "compare", "bare", "product", "signed product", "quotient", "signed quotient"]), ("TWOS", ["both", "any", "odd"]), ("SHIFTS", ["left", "right", "down", "roll"])]
def loose : List Str := (["WordError", "NoDeed", "cell", "do", "times_n", "NAUGHT", "mark_to", "bare_mark_to", "ends", "FLAT", "SO_FAR", "MARK", "lowest", "signs_to", "sum_parts", "less_rounds", "over_less", "difference_parts", "turned_parts", "compare_parts", "no_marks", "twos_parts", "bare_parts", "SPARE", "MASK", "GATHER", "kept_words", "sign_of_last", "mask_of_last", "wider_parts"] : List Str) ++ (["wider_over", "narrower_over", "led_parts", "AT_NAUGHT", "NO_SHIFT", "ALL_A", "LOW_C", "LOW_B", "stretch", "word_sentence", "round_sentence", "word_parts", "plain_rounds", "product_parts", "one_more", "place_sentence", "doubled", "chosen_rest", "place_parts", "divided", "nought_to_mark", "quotient_parts", "is_whole", "HIGHEST", "copied", "ahead_of_round", "one_place", "shift_parts", "mask_of", "turned_by"] : List Str) ++ (["taken_off", "signed_product_parts", "signed_quotient_parts", "SHIFTS", "KINDS", "TWOS", "PLAIN", "is_within", "is_led", "is_deed", "check_deed", "telling", "_law_fresh", "_law_mixed", "_law_fill", "_law_take", "_law_sizes", "_law_whole", "_law_wholes", "_law_letter", "_law_index_cell", "_law_telling_row", "_law_thing", "_law_is_sentence", "_law_part", "_law_is_telling", "_law_at", "_law_count", "_law_reckoned", "_law_lowest"] : List Str) ++ (["_law_due_terms", "_law_says", "_law_part_says"] : List Str)
def adrs : List Nat := [3,579,574,567,562,555,548,543,536,529,524,519,514,507,502,495,488,483,476,469,462,455,448,441,434,427,420,415,408,407,406,405,404,397,390,383,376,369,362,355,348,341,336,329,322,315,308,301,294,287,280,273,266,259,252,245,238,231,228,225,222,221,220,213,206,199,192,185,178,171,169,167,165,158,151,144,137,130,123,116,109,102,95,88,87,86,85,78,71,64,62,54,47,37,24,4,6,0,23,36,40,46,53,55,61,63,70,77,84,94,101,108,115,122,129,136,143,150,157,164,166,168,170,177,184,191,198,205,212,219,224,223,227,226,230,229,237,244,251,258,265,272,279,286,293,300,307,314,321,328,335,340,338,347,354,361,368,375,382,389,396,403,414,419,426,433,440,447,454,461,468,475,482,487,494,501,506,513,518,523,528,535,542,547,554,561,566,573,578,337,339,35,25,22]
abbrev hkL : PySem.W.Hook := hookO adrs (faOf defNames excNames moreF) fnD (exB excNames consts kdVals) tabs
def obL (s : PySem.W.SharedT) : AlO := obsO adrs (faOf defNames excNames moreF) fnD (exB excNames consts kdVals) tabs (HandSHeadRun.getT s)
theorem obL_eq (s : PySem.W.SharedT) : obL s = hkL.obs s.abs := obsO_eq (HandSHeadRun.getT_eq s)
open PySem PySem.W PySem.Calls PyProof.Rows HandSHeadRun in
theorem zlaw (h : (OpenLaw.row PySem.Challenge.rw_widewords_k62_whole_sentence_of_quotient).wellSaid = true → (OpenLaw.row PySem.Challenge.rw_widewords_k62_whole_sentence_of_quotient).Holds) : PySem.Challenge.rw_widewords_k62_whole_sentence_of_quotient.Holds := by
  w_on; o_law
  exact h (by assumption)
open PySem PySem.W PySem.Calls PyProof.Rows HandSHeadRun in
theorem zwit : (OpenLaw.row PySem.Challenge.rw_widewords_k62_whole_sentence_of_quotient).toRowW.promised := by w_witness2
open PySem PySem.W PySem.Calls PyProof.Rows HandSHeadRun in
theorem zbare : R.prog.bare := ⟨rfl, rfl, rfl, rfl, rfl, by decide +kernel⟩
open PySem PySem.W PySem.Calls PyProof.Rows HandSHeadRun in
theorem zname : ((HandSHeadRun.topDef R.prog 105)).name = ("law" : PySem.Str) := by kernel_rfl
open PySem PySem.W PySem.Calls PyProof.Rows HandSHeadRun in
theorem zdefs : ((HandSHeadRun.topDef R.prog 105)).params.defaults = [] := by kernel_rfl
theorem runfalseA (w : World) (os : OsState) : (HandSHeadRun.endF (HandSHeadRun.stepQ (HandSHeadRun.denQ HandSHeadRun.tabQ) R.prog (w.withFollow "special-get-raises" false)) 40000 R.prog (w.withFollow "special-get-raises" false) os).map (fun s => (PySem.W.namesBound R.prog s.abs.heap)) = some true := by kernel_rfl
theorem runfalseB (w : World) (os : OsState) : (HandSHeadRun.endF (HandSHeadRun.stepQ (HandSHeadRun.denQ HandSHeadRun.tabQ) R.prog (w.withFollow "special-get-raises" false)) 40000 R.prog (w.withFollow "special-get-raises" false) os).map (fun s => ((((PySem.W.staticsOk (importedModules R.prog.main.body) (PySem.W.boot_heap (w.withFollow "special-get-raises" false).params) s.abs.heap) && (PySem.W.gensDone s.abs)) && (PySem.W.laidKept (PySem.W.boot_heap (w.withFollow "special-get-raises" false).params) s.abs.heap)), (HandSHeadRun.seenQ (PySem.W.view R.prog [105]) loose (importedModules R.prog.main.body) (fun s => PySem.W.xlAt (PySem.W.view R.prog [105]) [] s && PySem.W.recOk R.toRowW.records s) s.abs, tabO tabs (He.frG (HandSHeadRun.getT s) adrs)))) = some (true, (PySem.W.openGood (PySem.W.view R.prog [105]) loose, tabV tabs (w.withFollow "special-get-raises" false))) := by kernel_rfl
theorem runfalseC (w : World) (os : OsState) : (HandSHeadRun.endF (HandSHeadRun.stepQ (HandSHeadRun.denQ HandSHeadRun.tabQ) R.prog (w.withFollow "special-get-raises" false)) 40000 R.prog (w.withFollow "special-get-raises" false) os).map (fun s => ((((faOf defNames excNames moreF).take 120).all fun f => f.ok (He.frG (HandSHeadRun.getT s) adrs)), exB excNames consts kdVals (He.frG (HandSHeadRun.getT s) adrs))) = some (true, true) := by kernel_rfl
theorem runfalseF0 (w : World) (os : OsState) : (HandSHeadRun.endF (HandSHeadRun.stepQ (HandSHeadRun.denQ HandSHeadRun.tabQ) R.prog (w.withFollow "special-get-raises" false)) 40000 R.prog (w.withFollow "special-get-raises" false) os).map (fun s => fnObs fnD0 (He.frG (HandSHeadRun.getT s) adrs)) = some (true, fnD0.map He.DefD.val) := by kernel_rfl
theorem runfalseE (w : World) (os : OsState) : (HandSHeadRun.endF (HandSHeadRun.stepQ (HandSHeadRun.denQ HandSHeadRun.tabQ) R.prog (w.withFollow "special-get-raises" false)) 40000 R.prog (w.withFollow "special-get-raises" false) os).map (fun s => (fnObs fnD1 (He.frG (HandSHeadRun.getT s) adrs), ((faOf defNames excNames moreF).drop 120).all fun f => f.ok (He.frG (HandSHeadRun.getT s) adrs))) = some ((true, fnD1.map He.DefD.val), true) := by kernel_rfl
theorem runfalse (w : World) : HandSHeadRun.RunEq R (PySem.W.view R.prog [105]) hkL obL 40000 loose (w.withFollow "special-get-raises" false) := fun os => look_seven (k := fun s => He.frG (HandSHeadRun.getT s) adrs) (m := 120) (st := fun s => (PySem.W.staticsOk (importedModules R.prog.main.body) (PySem.W.boot_heap (w.withFollow "special-get-raises" false).params) s.abs.heap)) (gd := fun s => (PySem.W.gensDone s.abs)) (lk := fun s => (PySem.W.laidKept (PySem.W.boot_heap (w.withFollow "special-get-raises" false).params) s.abs.heap)) (fun s => rfl) (runfalseA w os) (runfalseB w os) (runfalseC w os) (join_fn (runfalseF0 w os) (look_fst (runfalseE w os))) (look_snd (runfalseE w os))
theorem runtrueA (w : World) (os : OsState) : (HandSHeadRun.endF (HandSHeadRun.stepQ (HandSHeadRun.denQ HandSHeadRun.tabQ) R.prog (w.withFollow "special-get-raises" true)) 40000 R.prog (w.withFollow "special-get-raises" true) os).map (fun s => (PySem.W.namesBound R.prog s.abs.heap)) = some true := by kernel_rfl
theorem runtrueB (w : World) (os : OsState) : (HandSHeadRun.endF (HandSHeadRun.stepQ (HandSHeadRun.denQ HandSHeadRun.tabQ) R.prog (w.withFollow "special-get-raises" true)) 40000 R.prog (w.withFollow "special-get-raises" true) os).map (fun s => ((((PySem.W.staticsOk (importedModules R.prog.main.body) (PySem.W.boot_heap (w.withFollow "special-get-raises" true).params) s.abs.heap) && (PySem.W.gensDone s.abs)) && (PySem.W.laidKept (PySem.W.boot_heap (w.withFollow "special-get-raises" true).params) s.abs.heap)), (HandSHeadRun.seenQ (PySem.W.view R.prog [105]) loose (importedModules R.prog.main.body) (fun s => PySem.W.xlAt (PySem.W.view R.prog [105]) [] s && PySem.W.recOk R.toRowW.records s) s.abs, tabO tabs (He.frG (HandSHeadRun.getT s) adrs)))) = some (true, (PySem.W.openGood (PySem.W.view R.prog [105]) loose, tabV tabs (w.withFollow "special-get-raises" true))) := by kernel_rfl
theorem runtrueC (w : World) (os : OsState) : (HandSHeadRun.endF (HandSHeadRun.stepQ (HandSHeadRun.denQ HandSHeadRun.tabQ) R.prog (w.withFollow "special-get-raises" true)) 40000 R.prog (w.withFollow "special-get-raises" true) os).map (fun s => ((((faOf defNames excNames moreF).take 120).all fun f => f.ok (He.frG (HandSHeadRun.getT s) adrs)), exB excNames consts kdVals (He.frG (HandSHeadRun.getT s) adrs))) = some (true, true) := by kernel_rfl
theorem runtrueF0 (w : World) (os : OsState) : (HandSHeadRun.endF (HandSHeadRun.stepQ (HandSHeadRun.denQ HandSHeadRun.tabQ) R.prog (w.withFollow "special-get-raises" true)) 40000 R.prog (w.withFollow "special-get-raises" true) os).map (fun s => fnObs fnD0 (He.frG (HandSHeadRun.getT s) adrs)) = some (true, fnD0.map He.DefD.val) := by kernel_rfl
theorem runtrueE (w : World) (os : OsState) : (HandSHeadRun.endF (HandSHeadRun.stepQ (HandSHeadRun.denQ HandSHeadRun.tabQ) R.prog (w.withFollow "special-get-raises" true)) 40000 R.prog (w.withFollow "special-get-raises" true) os).map (fun s => (fnObs fnD1 (He.frG (HandSHeadRun.getT s) adrs), ((faOf defNames excNames moreF).drop 120).all fun f => f.ok (He.frG (HandSHeadRun.getT s) adrs))) = some ((true, fnD1.map He.DefD.val), true) := by kernel_rfl
theorem runtrue (w : World) : HandSHeadRun.RunEq R (PySem.W.view R.prog [105]) hkL obL 40000 loose (w.withFollow "special-get-raises" true) := fun os => look_seven (k := fun s => He.frG (HandSHeadRun.getT s) adrs) (m := 120) (st := fun s => (PySem.W.staticsOk (importedModules R.prog.main.body) (PySem.W.boot_heap (w.withFollow "special-get-raises" true).params) s.abs.heap)) (gd := fun s => (PySem.W.gensDone s.abs)) (lk := fun s => (PySem.W.laidKept (PySem.W.boot_heap (w.withFollow "special-get-raises" true).params) s.abs.heap)) (fun s => rfl) (runtrueA w os) (runtrueB w os) (runtrueC w os) (join_fn (runtrueF0 w os) (look_fst (runtrueE w os))) (look_snd (runtrueE w os))
theorem runL (w : World) : HandSHeadRun.RunEq R (PySem.W.view R.prog [105]) hkL obL 40000 loose w := by
  have e := World.withFollow_self w "special-get-raises"
  have h0 := runfalse w
  have h1 := runtrue w
  cases hb : w.params.followText "special-get-raises" <;> rw [hb] at e
  · rw [e] at h0; exact h0
  · rw [e] at h1; exact h1
open PySem PySem.W PySem.Calls PyProof.Rows HandSHeadRun in
theorem zhd1 : opening R.prog = plainProg R.prog.main.scope.names := by kernel_rfl
open PySem PySem.W PySem.Calls PyProof.Rows HandSHeadRun in
theorem zhd2 : ∀ s, fenceModules? R.prog s = some s := fun s => by kernel_rfl
open PySem PySem.W PySem.Calls PyProof.Rows HandSHeadRun in
theorem zhd3 : defOf (view R.prog [105]) R.name = some ((HandSHeadRun.topDef R.prog 105), []) := by kernel_rfl
open PySem PySem.W PySem.Calls PyProof.Rows HandSHeadRun in
theorem zhd4 : R.prog.theDef R.name = some ((HandSHeadRun.topDef R.prog 105).params, (HandSHeadRun.topDef R.prog 105).body, (HandSHeadRun.topDef R.prog 105).scope) := by kernel_rfl
open PySem PySem.W PySem.Calls PyProof.Rows HandSHeadRun in
theorem zhd5 : kwWritten? (HandSHeadRun.topDef R.prog 105).params.kwonlyargs (HandSHeadRun.topDef R.prog 105).params.kw_defaults = some [] := by kernel_rfl
open PySem PySem.W PySem.Calls PyProof.Rows HandSHeadRun in
theorem zhd6 : (chainsOk (view R.prog [105]) && opensWell R.prog && (frees R.toRowW && R.within.isEmpty)) = true := by decide +kernel
theorem RoL.sq {K : PySem.W.Frag} {ρ : List Addr} {H : Hp} {p : Addr} {vs : List V} (h : RoL K ρ H p vs) : SqL K H p vs := by
  rcases h with ⟨h, _⟩ | h | h
  · exact .inl (.inl h)
  · exact .inl (.inr h)
  · exact .inr h
inductive RP {κ : Type} (c : Cc) (ρ : List Addr) (H : Hp) : List (κ × V) → List (κ × D) → Prop
  | nil : RP c ρ H [] []
  | cons {k : κ} {v : V} {d : D} {vs : List (κ × V)} {ds : List (κ × D)} : RD c ρ H v d → RP c ρ H vs ds → RP c ρ H ((k, v) :: vs) ((k, d) :: ds)
def BareT (a : Addr) (vs : List V) : HO := .ext fun h => vs.length ≤ sizeLine ∧ ∃ (its : List Value) (n : Nat), Vals vs its ∧ h.get? a = some { cls := .type "tuple", data := .seq its.toArray n }
mutual
theorem TN.ext {H H' : Hp} (t : ∀ b xs, H b = some (.tup xs) → H' b = some (.tup xs)) : ∀ {k : NestedKey} {v : V}, TN H k v → TN H' k v
  | _, _, .num i => .num i
  | _, _, .text x => .text x
  | _, _, .tup h r => .tup (t _ _ h) (TNs.ext t r)
theorem TNs.ext {H H' : Hp} (t : ∀ b xs, H b = some (.tup xs) → H' b = some (.tup xs)) : ∀ {ks : List NestedKey} {vs : List V}, TNs H ks vs → TNs H' ks vs
  | _, _, .nil => .nil
  | _, _, .cons h r => .cons (TN.ext t h) (TNs.ext t r)
end
def NDo (d : Addr) (o : Obj) : HO := .ext fun h => h.get? d = some o
def OkN (w : World) (d : Addr) (o : Obj) (xs : List (NestedKey × Addr × V)) : Prop :=
  (d == sysModules) = false ∧ xs.length ≤ sizeLine ∧ o.ExactDict ∧ (xs.map (·.1)).Nodup ∧ (∀ x ∈ xs, x.1.depth ≤ 8) ∧ ∃ (ys : List (NestedKey × Addr × Value)) (es : Array DictEntry) (ep : Nat),
    Paired (fun (p : NestedKey × Addr × V) (q : NestedKey × Addr × Value) => p.1 = q.1 ∧ p.2.1 = q.2.1 ∧ RelV p.2.2 q.2.2) xs ys ∧ o.data = .dict es ep ∧ ∀ P : Program, es.toList = ys.map (entryOfKey (nestedKind P w))
def RM (c : Cc) (ρ : List Addr) (H : Hp) (a : Addr) : MO → Prop
  | .lst ds => ∃ vs, H a = some (.lst vs) ∧ RL c ρ H vs ds
  | .dK ds => ∃ vs, H a = some (.dK vs) ∧ RP c ρ H vs ds
  | .dT ds => ∃ vs, H a = some (.dT vs) ∧ RP c ρ H vs ds
  | .ins n ds => ∃ C dx vs, c.mg n = some (.ref C) ∧ H a = some (.ins C dx vs) ∧ RP c ρ H vs ds
  | .tp ds => ∃ vs, H a = some (BareT a vs) ∧ RL c ρ H vs ds
  | .dN ds => ∃ o xs, H a = some (NDo a o) ∧ OkN c.w a o xs ∧ (∀ x ∈ xs, TN H x.1 (.ref x.2.1)) ∧ RP c ρ H (xs.map fun x => (x.1, x.2.2)) ds
structure Rel (c : Cc) (ρ : List Addr) (S : Sg) (H : Hp) : Prop where
  len : ρ.length = S.length
  nd : ρ.Nodup
  at_ : ∀ (k : Nat) (m : MO), S[k]? = some m → ∃ a, ρ[k]? = some a ∧ RM c ρ H a m
structure Ext (ρ : List Addr) (H : Hp) (ρ' : List Addr) (H' : Hp) : Prop where
  new : ∃ n, ρ' = ρ ++ n ∧ ∀ b ∈ n, H b = none
  out : ∀ b o, H b = some o → b ∉ ρ → H' b = some o
  tup : ∀ b xs, H b = some (.tup xs) → H' b = some (.tup xs)
  frz : ∀ b o u, H b = some (.frz o u) → H' b = some (.frz o u)
  gone : ∀ b, H' b = none → H b = none
theorem Ext.refl {ρ : List Addr} {H : Hp} : Ext ρ H ρ H := ⟨⟨[], by simp, fun _ h => nomatch h⟩, fun _ _ h _ => h, fun _ _ h => h, fun _ _ _ h => h, fun _ h => h⟩
theorem Ext.trans {ρ ρ1 ρ2 : List Addr} {H H1 H2 : Hp} (a : Ext ρ H ρ1 H1) (b : Ext ρ1 H1 ρ2 H2) : Ext ρ H ρ2 H2 := by
  obtain ⟨⟨n, e, hn⟩, ao, at_, af, ag⟩ := a
  obtain ⟨⟨m, e2, hm⟩, bo, bt, bf, bg⟩ := b
  have keep : ∀ b o, H b = some o → b ∉ ρ → b ∉ ρ1 := fun b o h hb => by
    rw [e, List.mem_append]
    rintro (q | q)
    · exact hb q
    · rw [hn b q] at h; cases h
  refine ⟨⟨n ++ m, by rw [e2, e, List.append_assoc], fun b hb => ?_⟩, fun b o h hb => bo b o (ao b o h hb) (keep b o h hb), fun b xs h => bt b xs (at_ b xs h), fun b o u h => bf b o u (af b o u h), fun b h => ag b (bg b h)⟩
  rcases List.mem_append.mp hb with q | q
  · exact hn b q
  · exact ag b (hm b q)
section
variable {c : Cc} {ρ ρ' : List Addr} {S S' : Sg} {H H' : Hp} {v v' : V} {d : D} {vs vs' : List V} {ds : List D} {a p : Addr}
theorem Ext.sqT {K : PySem.W.Frag} (e : Ext ρ H ρ' H') (h : SqT K H p vs) : SqT K H' p vs := by
  rcases h with (h | ⟨o, h⟩) | h
  · exact .inl (.inl (e.tup _ _ h))
  · exact .inl (.inr ⟨o, e.frz _ _ _ h⟩)
  · exact .inr h
theorem Ext.roL {K : PySem.W.Frag} (e : Ext ρ H ρ' H') (h : RoL K ρ H p vs) : RoL K ρ' H' p vs := by
  rcases h with ⟨h, n⟩ | ⟨o, h⟩ | h
  · obtain ⟨m, e1, hm⟩ := e.new
    refine .inl ⟨e.out _ _ h n, ?_⟩
    rw [e1, List.mem_append]
    rintro (q | q)
    · exact n q
    · rw [hm p q] at h; cases h
  · exact .inr (.inl ⟨o, e.frz _ _ _ h⟩)
  · exact .inr (.inr h)
theorem Ext.get (e : Ext ρ H ρ' H') {k : Nat} (h : ρ[k]? = some a) : ρ'[k]? = some a := by
  obtain ⟨m, e1, _⟩ := e.new
  rw [e1, List.getElem?_append_left (List.getElem?_eq_some_iff.mp h).1]
  exact h
mutual
theorem RD.ext (e : Ext ρ H ρ' H') : ∀ {v : V} {d : D}, RD c ρ H v d → RD c ρ' H' v d
  | _, _, .non => .non
  | _, _, .bl b => .bl b
  | _, _, .int i => .int i
  | _, _, .str s => .str s
  | _, _, .tup h r => .tup ⟨fun z => e.tup _ _ (h.1 z), e.sqT h.2⟩ (RL.ext e r)
  | _, _, .il h r => .il (e.roL h) (RL.ext e r)
  | _, _, .obj h => .obj (e.get h)
  | _, _, .fn h => .fn h
  | _, _, .ty n => .ty n
  | _, _, .kd h r => .kd h (RL.ext e r)
theorem RL.ext (e : Ext ρ H ρ' H') : ∀ {vs : List V} {ds : List D}, RL c ρ H vs ds → RL c ρ' H' vs ds
  | _, _, .nil => .nil
  | _, _, .cons h r => .cons (RD.ext e h) (RL.ext e r)
end
theorem RP.ext {κ : Type} (e : Ext ρ H ρ' H') : ∀ {vs : List (κ × V)} {ds : List (κ × D)}, RP c ρ H vs ds → RP c ρ' H' vs ds
  | _, _, .nil => .nil
  | _, _, .cons h r => .cons (h.ext e) (RP.ext e r)
mutual
theorem RD.back {n : List Addr} (hn : ρ' = ρ ++ n) : ∀ {v v' : V} {d : D}, RD c ρ H v d → RD c ρ' H' v' d → RD c ρ H' v' d
  | _, _, _, .non, .non => .non
  | _, _, _, .bl b, .bl _ => .bl b
  | _, _, _, .int i, .int _ => .int i
  | _, _, _, .str s, .str _ => .str s
  | _, _, _, .tup h r, .tup h' r' => .tup h' (RL.back hn r r')
  | _, _, _, .il h r, .il h' r' => .il (by
      rcases h' with ⟨q, z⟩ | q | q
      · refine .inl ⟨q, fun y => z ?_⟩
        rw [hn]
        exact List.mem_append_left _ y
      · exact .inr (.inl q)
      · exact .inr (.inr q)) (RL.back hn r r')
  | _, _, _, .obj h, .obj h' => .obj (by
      rw [hn, List.getElem?_append_left (List.getElem?_eq_some_iff.mp h).1] at h'
      exact h')
  | _, _, _, .fn h, .fn h' => .fn h'
  | _, _, _, .ty n, .ty _ => .ty n
  | _, _, _, .kd h r, .kd h' r' => .kd h' (RL.back hn r r')
theorem RL.back {n : List Addr} (hn : ρ' = ρ ++ n) : ∀ {vs vs' : List V} {ds : List D}, RL c ρ H vs ds → RL c ρ' H' vs' ds → RL c ρ H' vs' ds
  | _, _, _, .nil, .nil => .nil
  | _, _, _, .cons h r, .cons h' r' => .cons (RD.back hn h h') (RL.back hn r r')
end
theorem RP.back {κ : Type} {n : List Addr} (hn : ρ' = ρ ++ n) : ∀ {vs vs' : List (κ × V)} {ds : List (κ × D)}, RP c ρ H vs ds → RP c ρ' H' vs' ds → RP c ρ H' vs' ds
  | _, _, _, .nil, .nil => .nil
  | _, _, _, .cons h r, .cons h' r' => .cons (RD.back hn h h') (RP.back hn r r')
theorem RM.back {n : List Addr} {m : MO} {a' : Addr} (hn : ρ' = ρ ++ n) (h : RM c ρ H a m) (h' : RM c ρ' H' a' m) : RM c ρ H' a' m := by
  cases m with
  | lst ds =>
    obtain ⟨_, _, r⟩ := h
    obtain ⟨vs, e, r'⟩ := h'
    exact ⟨vs, e, r.back hn r'⟩
  | dK ds =>
    obtain ⟨_, _, r⟩ := h
    obtain ⟨vs, e, r'⟩ := h'
    exact ⟨vs, e, r.back hn r'⟩
  | dT ds =>
    obtain ⟨_, _, r⟩ := h
    obtain ⟨vs, e, r'⟩ := h'
    exact ⟨vs, e, r.back hn r'⟩
  | ins x ds =>
    obtain ⟨_, _, _, _, _, r⟩ := h
    obtain ⟨C, dx, vs, e1, e2, r'⟩ := h'
    exact ⟨C, dx, vs, e1, e2, r.back hn r'⟩
  | tp ds =>
    obtain ⟨_, _, r⟩ := h
    obtain ⟨vs, e, r'⟩ := h'
    exact ⟨vs, e, r.back hn r'⟩
  | dN ds =>
    obtain ⟨_, _, _, _, _, r⟩ := h
    obtain ⟨o, xs, e, ok, t, r'⟩ := h'
    exact ⟨o, xs, e, ok, t, r.back hn r'⟩
theorem Rel.back {T : Sg} (r : Rel c ρ S H) (e : Ext ρ H ρ' H') (r' : Rel c ρ' (S ++ T) H') : Rel c ρ S H' ∧ Ext ρ H ρ H' := by
  obtain ⟨n, hn, hf⟩ := e.new
  refine ⟨⟨r.len, r.nd, fun k m hk => ?_⟩, ⟨⟨[], by simp, fun _ h => nomatch h⟩, e.out, e.tup, e.frz, e.gone⟩⟩
  obtain ⟨a, ha, hm⟩ := r.at_ k m hk
  obtain ⟨a', ha', hm'⟩ := r'.at_ k m (by rw [List.getElem?_append_left (List.getElem?_eq_some_iff.mp hk).1]; exact hk)
  have : a' = a := by
    rw [e.get ha] at ha'
    exact (Option.some.inj ha').symm
  subst this
  exact ⟨a', ha, hm.back hn hm'⟩
theorem nodup_at {l : List Addr} {i j : Nat} {a : Addr} (h : l.Nodup) (x : l[i]? = Option.some a) (y : l[j]? = Option.some a) : i = j := by
  obtain ⟨h1, e1⟩ := List.getElem?_eq_some_iff.mp x
  obtain ⟨h2, e2⟩ := List.getElem?_eq_some_iff.mp y
  exact (List.getElem_inj h).mp (e1.trans e2.symm)
theorem RM.some {m : MO} (h : RM c ρ H a m) : ∃ o, H a = Option.some o ∧ (∀ xs, o ≠ .tup xs) ∧ (∀ ob u, o ≠ .frz ob u) ∧ Mut (Option.some o) := by
  cases m with
  | lst ds => obtain ⟨_, e, _⟩ := h; exact ⟨_, e, (fun _ z => nomatch z), (fun _ _ z => nomatch z), trivial⟩
  | dK ds => obtain ⟨_, e, _⟩ := h; exact ⟨_, e, (fun _ z => nomatch z), (fun _ _ z => nomatch z), trivial⟩
  | dT ds => obtain ⟨_, e, _⟩ := h; exact ⟨_, e, (fun _ z => nomatch z), (fun _ _ z => nomatch z), trivial⟩
  | ins x ds => obtain ⟨_, _, _, _, e, _⟩ := h; exact ⟨_, e, (fun _ z => nomatch z), (fun _ _ z => nomatch z), trivial⟩
  | tp ds => obtain ⟨_, e, _⟩ := h; exact ⟨_, e, (fun _ z => nomatch z), (fun _ _ z => nomatch z), trivial⟩
  | dN ds => obtain ⟨_, _, e, _⟩ := h; exact ⟨_, e, (fun _ z => nomatch z), (fun _ _ z => nomatch z), trivial⟩
theorem Rel.live (r : Rel c ρ S H) (h : a ∈ ρ) : ∃ o, H a = Option.some o ∧ (∀ xs, o ≠ .tup xs) ∧ (∀ ob u, o ≠ .frz ob u) ∧ Mut (Option.some o) := by
  obtain ⟨k, hk⟩ := List.mem_iff_getElem?.mp h
  have hl : k < S.length := by rw [← r.len]; exact (List.getElem?_eq_some_iff.mp hk).1
  obtain ⟨a', ha', hm⟩ := r.at_ k S[k] (List.getElem?_eq_getElem hl)
  rw [hk] at ha'
  cases ha'
  exact hm.some
theorem Rel.fresh (r : Rel c ρ S H) (h : H a = none) : a ∉ ρ := fun q => by
  obtain ⟨o, e, _⟩ := r.live q
  rw [h] at e; cases e
theorem Ext.lay {o : HO} (h : H p = none) : Ext ρ H ρ (upd H p o) :=
  ⟨⟨[], by simp, fun _ h => nomatch h⟩, fun b u e _ => by rw [upd_ne (ne_of_none e h)]; exact e, fun b xs e => by rw [upd_ne (ne_of_none e h)]; exact e, fun b ob u e => by rw [upd_ne (ne_of_none e h)]; exact e, fun b e => by
    by_cases q : b = p
    · subst q; exact h
    · rw [upd_ne q] at e; exact e⟩
theorem RM.ext {m : MO} (e : Ext ρ H ρ' H') (k : ∀ o, H a = Option.some o → H' a = Option.some o) (h : RM c ρ H a m) : RM c ρ' H' a m := by
  cases m with
  | lst ds => obtain ⟨vs, q, r⟩ := h; exact ⟨vs, k _ q, r.ext e⟩
  | dK ds => obtain ⟨vs, q, r⟩ := h; exact ⟨vs, k _ q, r.ext e⟩
  | dT ds => obtain ⟨vs, q, r⟩ := h; exact ⟨vs, k _ q, r.ext e⟩
  | ins x ds => obtain ⟨C, dx, vs, q1, q, r⟩ := h; exact ⟨C, dx, vs, q1, k _ q, r.ext e⟩
  | tp ds => obtain ⟨vs, q, r⟩ := h; exact ⟨vs, k _ q, r.ext e⟩
  | dN ds => obtain ⟨o, xs, q, ok, t, r⟩ := h; exact ⟨o, xs, k _ q, ok, fun x hx => (t x hx).ext e.tup, r.ext e⟩
theorem Rel.lay {o : HO} (r : Rel c ρ S H) (h : H p = none) : Rel c ρ S (upd H p o) :=
  ⟨r.len, r.nd, fun k m hk => by
    obtain ⟨a, ha, hm⟩ := r.at_ k m hk
    exact ⟨a, ha, hm.ext (Ext.lay h) fun o e => by rw [upd_ne (ne_of_none e h)]; exact e⟩⟩
theorem Rel.same (r : Rel c ρ S H) (e : Ext ρ H ρ H') (k : ∀ a ∈ ρ, ∀ o, H a = Option.some o → H' a = Option.some o) : Rel c ρ S H' :=
  ⟨r.len, r.nd, fun i m hi => by
    obtain ⟨a, ha, hm⟩ := r.at_ i m hi
    exact ⟨a, ha, hm.ext e (k a (List.mem_of_getElem? ha))⟩⟩
theorem Ext.put {o : HO} (h : H p = none) : Ext ρ H (ρ ++ [p]) (upd H p o) :=
  ⟨⟨[p], rfl, fun b hb => by simp at hb; subst hb; exact h⟩, fun b u e _ => by rw [upd_ne (ne_of_none e h)]; exact e, fun b xs e => by rw [upd_ne (ne_of_none e h)]; exact e, fun b ob u e => by rw [upd_ne (ne_of_none e h)]; exact e, fun b e => by
    by_cases q : b = p
    · subst q; exact h
    · rw [upd_ne q] at e; exact e⟩
theorem Rel.put {o : HO} {m : MO} (r : Rel c ρ S H) (h : H p = none) (hm : RM c (ρ ++ [p]) (upd H p o) p m) : Rel c (ρ ++ [p]) (S ++ [m]) (upd H p o) := by
  refine ⟨by simp [r.len], ?_, fun k m' hk => ?_⟩
  · rw [List.nodup_append]
    refine ⟨r.nd, by simp, fun a ha b hb => ?_⟩
    simp at hb
    subst hb
    exact fun q => r.fresh h (q ▸ ha)
  · by_cases hlt : k < S.length
    · rw [List.getElem?_append_left hlt] at hk
      obtain ⟨a, ha, hm'⟩ := r.at_ k m' hk
      exact ⟨a, (Ext.put (o := o) h).get ha, hm'.ext (Ext.put h) fun o e => by rw [upd_ne (ne_of_none e h)]; exact e⟩
    · have hk0 : k = S.length := by
        have := (List.getElem?_eq_some_iff.mp hk).1
        simp at this
        omega
      subst hk0
      simp at hk
      subst hk
      exact ⟨p, by rw [← r.len]; simp, hm⟩
theorem Ext.set {o : HO} (r : Rel c ρ S H) (ha : a ∈ ρ) : Ext ρ H ρ (upd H a o) := by
  obtain ⟨o', e', n1, n2, _⟩ := r.live ha
  refine ⟨⟨[], by simp, fun _ h => nomatch h⟩, fun b u e hb => ?_, fun b xs e => ?_, fun b ob u e => ?_, fun b e => ?_⟩
  · have : b ≠ a := fun q => hb (q ▸ ha)
    rw [upd_ne this]; exact e
  · have : b ≠ a := fun q => by
      subst q
      rw [e'] at e
      exact n1 _ (Option.some.inj e)
    rw [upd_ne this]; exact e
  · have : b ≠ a := fun q => by
      subst q
      rw [e'] at e
      exact n2 _ _ (Option.some.inj e)
    rw [upd_ne this]; exact e
  · by_cases q : b = a
    · subst q; rw [upd_same] at e; cases e
    · rw [upd_ne q] at e; exact e
theorem Rel.set {o : HO} {m : MO} {k : Nat} (r : Rel c ρ S H) (hk : ρ[k]? = Option.some a) (hm : RM c ρ (upd H a o) a m) : Rel c ρ (S.set k m) (upd H a o) := by
  have ha : a ∈ ρ := List.mem_of_getElem? hk
  refine ⟨by rw [List.length_set]; exact r.len, r.nd, fun j m' hj => ?_⟩
  by_cases hjk : k = j
  · subst hjk
    have hlt : k < S.length := by rw [← r.len]; exact (List.getElem?_eq_some_iff.mp hk).1
    rw [List.getElem?_set_self hlt] at hj
    cases hj
    exact ⟨a, hk, hm⟩
  · rw [List.getElem?_set_ne hjk] at hj
    obtain ⟨b, hb, hm'⟩ := r.at_ j m' hj
    refine ⟨b, hb, hm'.ext (Ext.set r ha) fun o' e => ?_⟩
    have : b ≠ a := fun q => by
      subst q
      exact hjk (nodup_at r.nd hk hb)
    rw [upd_ne this]; exact e
theorem RL.get : ∀ {vs : List V} {ds : List D} {i : Nat} {d : D}, RL c ρ H vs ds → ds[i]? = Option.some d → ∃ v, vs[i]? = Option.some v ∧ RD c ρ H v d
  | _, _, _, _, .nil, h => by simp at h
  | _, _, 0, _, .cons h r, e => by simp at e; subst e; exact ⟨_, rfl, h⟩
  | _, _, i + 1, _, .cons h r, e => by simpa using RL.get (i := i) r (by simpa using e)
theorem RL.append : ∀ {vs ws : List V} {ds es : List D}, RL c ρ H vs ds → RL c ρ H ws es → RL c ρ H (vs ++ ws) (ds ++ es)
  | _, _, _, _, .nil, s => s
  | _, _, _, _, .cons h r, s => .cons h (RL.append r s)
theorem RL.reverse {vs : List V} {ds : List D} (r : RL c ρ H vs ds) : RL c ρ H vs.reverse ds.reverse := by
  induction vs generalizing ds with
  | nil => cases r; exact .nil
  | cons v vs ih =>
    cases r with
    | cons h r =>
      rw [List.reverse_cons, List.reverse_cons]
      exact (ih r).append (.cons h .nil)
theorem RL.ints {ns : List Int} : RL c ρ H (ns.map V.int) (ns.map D.int) := by
  induction ns with
  | nil => exact .nil
  | cons n ns ih => exact .cons (.int n) ih
end
theorem Res.bind_ok {α β : Type} (a : α) (S : Sg) (g : α → Sg → Res β) : (Res.ok a S).bind g = g a S := rfl
theorem RelEnv.ext {c : Cc} {pn : List (Addr × Obj)} {ρ ρ' : List Addr} {H H' : Hp} {σ : L2.St} {env : Env} (e : Ext ρ H ρ' H') (h : RelEnv c pn ρ H σ env) : RelEnv c pn ρ' H' σ env :=
  ⟨h.len, fun i d hi => let ⟨v, a, b⟩ := h.v i d hi; ⟨v, a, b.ext e⟩, h.x⟩
def Fin (c : Cc) (W : WX) (σ : L2.St) (ρ : List Addr) (H : Hp) {α β : Type} (rel : List Addr → Hp → β → α → Prop) (r : Res α) (Q : β → Hp → Prop) : Prop := match r with
  | .ok a S => ∀ ρ' H' v, Ext ρ H ρ' H' → Rel c ρ' S H' → rel ρ' H' v a → Q v H'
  | .er n S => ∀ ρ' H' C, Ext ρ H ρ' H' → Rel c ρ' S H' → c.mg n = some (.ref C) → W (.ref C) none σ H'
  | .st => False
section
variable {c : Cc} {W : WX} {σ : L2.St} {ρ ρ' : List Addr} {S : Sg} {H H' : Hp} {α β γ δ : Type} {rel : List Addr → Hp → β → α → Prop} {rel2 : List Addr → Hp → δ → γ → Prop}
theorem Fin.mono {r : Res α} {Q Q' : β → Hp → Prop} (h : Fin c W σ ρ H rel r Q) (k : ∀ v H', Q v H' → Q' v H') : Fin c W σ ρ H rel r Q' := by
  cases r with
  | ok a S => exact fun ρ' H' v e R q => k _ _ (h ρ' H' v e R q)
  | er n S => exact h
  | st => exact h
theorem Fin.ext {r : Res α} {Q : β → Hp → Prop} (e : Ext ρ H ρ' H') (h : Fin c W σ ρ H rel r Q) : Fin c W σ ρ' H' rel r Q := by
  cases r with
  | ok a S => exact fun ρ2 H2 v e2 R q => h ρ2 H2 v (e.trans e2) R q
  | er n S => exact fun ρ2 H2 C e2 R q => h ρ2 H2 C (e.trans e2) R q
  | st => exact h
theorem Fin.bind {r : Res γ} {g : γ → Sg → Res α} {Q : β → Hp → Prop} (h : Fin c W σ ρ H rel (r.bind g) Q) :
    Fin c W σ ρ H rel2 r fun x H1 => ∃ ρ1 S1 a, Ext ρ H ρ1 H1 ∧ Rel c ρ1 S1 H1 ∧ rel2 ρ1 H1 x a ∧ Fin c W σ ρ1 H1 rel (g a S1) Q := by
  cases r with
  | ok a S => exact fun ρ1 H1 v e R q => ⟨ρ1, S, a, e, R, q, Fin.ext e h⟩
  | er n S => exact h
  | st => exact h
theorem Fin.done {a : α} {v : β} {Q : β → Hp → Prop} (h : Fin c W σ ρ H rel (.ok a S) Q) (R : Rel c ρ S H) (r : rel ρ H v a) : Q v H := h ρ H v .refl R r
end
abbrev relD (c : Cc) : List Addr → Hp → V → D → Prop := fun ρ H v d => RD c ρ H v d
abbrev relL (c : Cc) : List Addr → Hp → List V → List D → Prop := fun ρ H v d => RL c ρ H v d
abbrev relB : List Addr → Hp → Bool → Bool → Prop := fun _ _ v d => v = d
abbrev relO : List Addr → Hp → Option Int → Option Int → Prop := fun _ _ v d => v = d
def canE (c : Cc) (pn : List (Addr × Obj)) (W : WX) (f : FE) : TE := fun σ H Q => ∃ ρ env S, RelEnv c pn ρ H σ env ∧ Rel c ρ S H ∧ Fin c W σ ρ H (relD c) (f env S) Q
def canA (c : Cc) (pn : List (Addr × Obj)) (W : WX) (f : FL) : TA := fun σ H Q => ∃ ρ env S, RelEnv c pn ρ H σ env ∧ Rel c ρ S H ∧ Fin c W σ ρ H (relL c) (f env S) Q
def canT (c : Cc) (pn : List (Addr × Obj)) (W : WX) (f : FT) : TT := fun σ H Q => ∃ ρ env S, RelEnv c pn ρ H σ env ∧ Rel c ρ S H ∧ Fin c W σ ρ H relB (f env S) Q
def canO (c : Cc) (pn : List (Addr × Obj)) (W : WX) (f : FO) : TO := fun σ H Q => ∃ ρ env S, RelEnv c pn ρ H σ env ∧ Rel c ρ S H ∧ Fin c W σ ρ H relO (f env S) Q
def DE (X : Cx) (W : WX) (e : Expr) (f : FE) : Prop := PE X e (canE X.cc X.pn W f)
def DA (X : Cx) (W : WX) (es : List Expr) (f : FL) : Prop := PA X es (canA X.cc X.pn W f)
def DT (X : Cx) (W : WX) (e : Expr) (f : FT) : Prop := PT X e (canT X.cc X.pn W f)
def DW (X : Cx) (W : WX) (e : Expr) (f : FT) : Prop := PW X e (canT X.cc X.pn W f)
def DO (X : Cx) (W : WX) (e : Option Expr) (f : FO) : Prop := PO X e (canO X.cc X.pn W f)
section
variable {X : Cx} {W : WX} {e a b : Expr} {es : List Expr} {pos : Pos}
theorem PE.imp {t t' : TE} (h : PE X e t) (k : ∀ σ H Q, t' σ H Q → t σ H Q) : PE X e t' := ⟨fun pins s σ H Q I q => h.run pins s σ H Q I (k σ H Q q)⟩
theorem PT.imp {t t' : TT} (h : PT X e t) (k : ∀ σ H Q, t' σ H Q → t σ H Q) : PT X e t' := ⟨fun pins s σ H Q I q => h.run pins s σ H Q I (k σ H Q q)⟩
theorem PW.imp {t t' : TT} (h : PW X e t) (k : ∀ σ H Q, t' σ H Q → t σ H Q) : PW X e t' := ⟨fun wh pins s σ H Q I q => h.run wh pins s σ H Q I (k σ H Q q)⟩
theorem PA.imp {t t' : TA} (h : PA X es t) (k : ∀ σ H Q, t' σ H Q → t σ H Q) : PA X es t' := ⟨fun pos pins s σ H Q I q => h.run pos pins s σ H Q I (k σ H Q q)⟩
theorem PO.imp {o : Option Expr} {t t' : TO} (h : PO X o t) (k : ∀ σ H Q, t' σ H Q → t σ H Q) : PO X o t' := ⟨fun pins s σ H Q I q => h.run pins s σ H Q I (k σ H Q q)⟩
end
def fVar (i : Nat) : FE := fun env S => match env[i]? with
  | some (some (EV.v d)) => .ok d S
  | _ => .st
def fC (d : D) : FE := fun _ S => .ok d S
section
variable {X : Cx} {W : WX} {e a b cc : Expr} {es : List Expr} {pos : Pos} {fa fb fc : FE} {fs : FL}
theorem de_var {i : Nat} {x : Str} (hN : X.N[i]? = some x) (hv : Vis X.env.scope x) (hd : (x == ("__debug__" : Str)) = false) (hcd : (x == ("__classdict__" : Str)) = false) : DE X W (.Name x pos) (fVar i) := by
  refine PE.imp (pe_var hN hv hd hcd) fun σ H Q ⟨ρ, env, S, E, R, h⟩ => ?_
  unfold fVar at h
  split at h
  · rename_i d hd
    obtain ⟨v, hv, r⟩ := E.v i d hd
    exact ⟨v, hv, h.done R r⟩
  · exact h.elim
theorem de_int {i : Int} {j : Nat} : DE X W (.Constant (.int i) j pos) (fC (.int i)) := PE.imp pe_int fun σ H Q ⟨ρ, env, S, E, R, h⟩ => h.done R (.int i)
theorem de_bl {i : Bool} {j : Nat} : DE X W (.Constant (.bool i) j pos) (fC (.bl i)) := PE.imp pe_bl fun σ H Q ⟨ρ, env, S, E, R, h⟩ => h.done R (.bl i)
theorem de_non {j : Nat} : DE X W (.Constant .none j pos) (fC .non) := PE.imp pe_non fun σ H Q ⟨ρ, env, S, E, R, h⟩ => h.done R .non
theorem de_str {x : Str} {j : Nat} : DE X W (.Constant (.str x) j pos) (fC (.str x)) := PE.imp pe_str fun σ H Q ⟨ρ, env, S, E, R, h⟩ => h.done R (.str x)
def OpD (c : Cc) (r : R2) (o : D → D → Sg → Res D) : Prop := ∀ (W : WX) (σ : L2.St) (ρ : List Addr) (S : Sg) (H : Hp) (x y : V) (a b : D) (Q : VK),
  Rel c ρ S H → RD c ρ H x a → RD c ρ H y b → Fin c W σ ρ H (relD c) (o a b S) Q → r x y H Q
def fBin (o : D → D → Sg → Res D) (fa fb : FE) : FE := fun env S => (fa env S).bind fun x S1 => (fb env S1).bind fun y S2 => o x y S2
theorem can_bin {c : Cc} {pn : List (Addr × Obj)} {r : R2} {o : D → D → Sg → Res D} (ho : OpD c r o) {σ : L2.St} {H : Hp} {Q : VK} (h : canE c pn W (fBin o fa fb) σ H Q) : tOp r (canE c pn W fa) (canE c pn W fb) σ H Q := by
  obtain ⟨ρ, env, S, E, R, h⟩ := h
  refine ⟨ρ, env, S, E, R, Fin.mono h.bind fun x H1 ⟨ρ1, S1, a, e1, R1, r1, h1⟩ => ?_⟩
  refine ⟨ρ1, env, S1, E.ext e1, R1, Fin.mono h1.bind fun y H2 ⟨ρ2, S2, b, e2, R2, r2, h2⟩ => ?_⟩
  exact ho W σ ρ2 S2 H2 x y a b Q R2 (r1.ext e2) r2 h2
theorem de_bin {op : Operator} {r : R2} {o : D → D → Sg → Res D} (hr : OpR X (binaryOp op) r) (ho : OpD X.cc r o) (ha : DE X W a fa) (hb : DE X W b fb) : DE X W (.BinOp a op b pos) (fBin o fa fb) :=
  PE.imp (pe_op hr ha hb) fun _ _ _ h => can_bin ho h
theorem de_cmp {op : CmpOp} {r : R2} {o : D → D → Sg → Res D} (hr : OpR X (compareOp op) r) (ho : OpD X.cc r o) (ha : DE X W a fa) (hb : DE X W b fb) (hm : behindInMarks op b = false) : DE X W (.Compare a [op] [b] pos) (fBin o fa fb) :=
  PE.imp (pe_cmpR hr ha hb hm) fun _ _ _ h => can_bin ho h
def fB (f : FE) : FT := fun env S => (f env S).bind fun d S => match d with
  | .bl b => .ok b S
  | _ => .st
theorem can_B {c : Cc} {pn : List (Addr × Obj)} {f : FE} {σ : L2.St} {H : Hp} {Q : Bool → Hp → Prop} (h : canT c pn W (fB f) σ H Q) : canE c pn W f σ H fun x H1 => ∃ k, x = .bl k ∧ Q k H1 := by
  obtain ⟨ρ, env, S, E, R, h⟩ := h
  refine ⟨ρ, env, S, E, R, Fin.mono h.bind fun x H1 ⟨ρ1, S1, a, e1, R1, r1, h1⟩ => ?_⟩
  cases r1 with
  | bl b => exact ⟨b, rfl, h1.done R1 rfl⟩
  | _ => exact h1.elim
theorem dt_cmp {op : CmpOp} {r : R2} {o : D → D → Sg → Res D} (hr : OpR X (compareOp op) r) (ho : OpD X.cc r o) (ha : DE X W a fa) (hb : DE X W b fb) (hm : behindInMarks op b = false) : DT X W (.Compare a [op] [b] pos) (fB (fBin o fa fb)) :=
  PT.imp (pt_cmpR hr ha hb hm) fun σ H Q h => can_bin ho (can_B h)
def fChain (o o' : D → D → Sg → Res D) (fa fb fc : FE) : FE := fun env S => (fa env S).bind fun x S1 => (fb env S1).bind fun y S2 => (o x y S2).bind fun k S3 => match k with
  | .bl true => (fc env S3).bind fun z S4 => o' y z S4
  | .bl false => .ok (.bl false) S3
  | _ => .st
theorem can_chain {c : Cc} {pn : List (Addr × Obj)} {r r' : R2} {o o' : D → D → Sg → Res D} (ho : OpD c r o) (ho' : OpD c r' o') {σ : L2.St} {H : Hp} {Q : VK} (h : canE c pn W (fChain o o' fa fb fc) σ H Q) : tChain r r' (canE c pn W fa) (canE c pn W fb) (canE c pn W fc) σ H Q := by
  obtain ⟨ρ, env, S, E, R, h⟩ := h
  refine ⟨ρ, env, S, E, R, Fin.mono h.bind fun x H1 ⟨ρ1, S1, a, e1, R1, r1, h1⟩ => ?_⟩
  refine ⟨ρ1, env, S1, E.ext e1, R1, Fin.mono h1.bind fun y H2 ⟨ρ2, S2, b, e2, R2, r2, h2⟩ => ?_⟩
  refine ho W σ ρ2 S2 H2 x y a b _ R2 (r1.ext e2) r2 (Fin.mono h2.bind fun k H3 ⟨ρ3, S3, d, e3, R3, r3, h3⟩ => ?_)
  cases r3 with
  | bl k =>
    refine ⟨k, rfl, ?_⟩
    cases k with
    | true =>
      rw [if_pos rfl]
      refine ⟨ρ3, env, S3, (E.ext (e1.trans e2)).ext e3, R3, Fin.mono h3.bind fun z H4 ⟨ρ4, S4, g, e4, R4, r4, h4⟩ => ?_⟩
      exact ho' W σ ρ4 S4 H4 y z b g Q R4 ((r2.ext e3).ext e4) r4 h4
    | false =>
      rw [if_neg Bool.false_ne_true]
      exact h3.done R3 (.bl false)
  | _ => exact h3.elim
theorem de_chain {op op' : CmpOp} {r r' : R2} {o o' : D → D → Sg → Res D} (hr : OpR X (compareOp op) r) (hr' : OpR X (compareOp op') r') (ho : OpD X.cc r o) (ho' : OpD X.cc r' o') (ha : DE X W a fa) (hb : DE X W b fb) (hc : DE X W cc fc)
    (hm : lastMarks [op, op'] [b, cc] = false) : DE X W (.Compare a [op, op'] [b, cc] pos) (fChain o o' fa fb fc) :=
  PE.imp (pe_chain hr hr' ha hb hc hm) fun _ _ _ h => can_chain ho ho' h
theorem dt_chain {op op' : CmpOp} {r r' : R2} {o o' : D → D → Sg → Res D} (hr : OpR X (compareOp op) r) (hr' : OpR X (compareOp op') r') (ho : OpD X.cc r o) (ho' : OpD X.cc r' o') (ha : DE X W a fa) (hb : DE X W b fb) (hc : DE X W cc fc)
    (hm : lastMarks [op, op'] [b, cc] = false) : DT X W (.Compare a [op, op'] [b, cc] pos) (fB (fChain o o' fa fb fc)) :=
  PT.imp (pt_chain hr hr' ha hb hc hm) fun _ _ _ h => can_chain ho ho' (can_B h)
def fAnd (t u : FT) : FT := fun env S => (t env S).bind fun b S => if b = true then u env S else .ok false S
def fOr (t u : FT) : FT := fun env S => (t env S).bind fun b S => if b = true then .ok true S else u env S
def fNot (t : FT) : FT := fun env S => (t env S).bind fun b S => .ok (!b) S
variable {t u : FT} {rest : List Expr}
theorem can_and {c : Cc} {pn : List (Addr × Obj)} {σ : L2.St} {H : Hp} {Q : Bool → Hp → Prop} (h : canT c pn W (fAnd t u) σ H Q) : tAnd (canT c pn W t) (canT c pn W u) σ H Q := by
  obtain ⟨ρ, env, S, E, R, h⟩ := h
  refine ⟨ρ, env, S, E, R, Fin.mono h.bind fun x H1 ⟨ρ1, S1, a, e1, R1, r1, h1⟩ => ?_⟩
  cases r1
  cases x with
  | true =>
    rw [if_pos rfl] at h1 ⊢
    exact ⟨ρ1, env, S1, E.ext e1, R1, h1⟩
  | false =>
    rw [if_neg Bool.false_ne_true] at h1 ⊢
    exact h1.done R1 rfl
theorem can_or {c : Cc} {pn : List (Addr × Obj)} {σ : L2.St} {H : Hp} {Q : Bool → Hp → Prop} (h : canT c pn W (fOr t u) σ H Q) : tOr (canT c pn W t) (canT c pn W u) σ H Q := by
  obtain ⟨ρ, env, S, E, R, h⟩ := h
  refine ⟨ρ, env, S, E, R, Fin.mono h.bind fun x H1 ⟨ρ1, S1, a, e1, R1, r1, h1⟩ => ?_⟩
  cases r1
  cases x with
  | true =>
    rw [if_pos rfl] at h1 ⊢
    exact h1.done R1 rfl
  | false =>
    rw [if_neg Bool.false_ne_true] at h1 ⊢
    exact ⟨ρ1, env, S1, E.ext e1, R1, h1⟩
theorem can_not {c : Cc} {pn : List (Addr × Obj)} {σ : L2.St} {H : Hp} {Q : Bool → Hp → Prop} (h : canT c pn W (fNot t) σ H Q) : tNot (canT c pn W t) σ H Q := by
  obtain ⟨ρ, env, S, E, R, h⟩ := h
  refine ⟨ρ, env, S, E, R, Fin.mono h.bind fun x H1 ⟨ρ1, S1, a, e1, R1, r1, h1⟩ => ?_⟩
  cases r1
  exact h1.done R1 rfl
theorem dw_and1 (ha : DT X W a t) : DW X W (.BoolOp .And [a] pos) t := pw_and1 ha
theorem dw_or1 (ha : DT X W a t) : DW X W (.BoolOp .Or [a] pos) t := pw_or1 ha
theorem dw_and (ha : DT X W a t) (hb : DW X W (.BoolOp .And (b :: rest) pos) u) : DW X W (.BoolOp .And (a :: b :: rest) pos) (fAnd t u) := PW.imp (pw_and ha hb) fun _ _ _ h => can_and h
theorem dw_or (ha : DT X W a t) (hb : DW X W (.BoolOp .Or (b :: rest) pos) u) : DW X W (.BoolOp .Or (a :: b :: rest) pos) (fOr t u) := PW.imp (pw_or ha hb) fun _ _ _ h => can_or h
theorem dt_not (ha : DT X W a t) : DT X W (.UnaryOp .Not a pos) (fNot t) := PT.imp (pt_not ha) fun _ _ _ h => can_not h
theorem DW.dt (h : DW X W e t) : DT X W e t := PW.pt h
def truD (S : Sg) : D → Option Bool
  | .non => some false
  | .bl b => some b
  | .int i => some (decide (i ≠ 0))
  | .str x => if x.length ≤ sizeLine then some (decide (x.length ≠ 0)) else none
  | .tup _ ds => some (!ds.isEmpty)
  | .il ds => some (!ds.isEmpty)
  | .obj k => match S[k]? with
    | some (.lst ds) => some (!ds.isEmpty)
    | some (.dK ds) => some (!ds.isEmpty)
    | _ => none
  | _ => none
def fTru (f : FE) : FT := fun env S => (f env S).bind fun d S => match truD S d with
  | some b => .ok b S
  | none => .st
theorem RP.isEmpty {κ : Type} {c : Cc} {ρ : List Addr} {H : Hp} {vs : List (κ × V)} {ds : List (κ × D)} (r : RP c ρ H vs ds) : ds.isEmpty = vs.isEmpty := by
  cases r <;> rfl
theorem truD_ok {c : Cc} {ρ : List Addr} {S : Sg} {H : Hp} {x : V} {d : D} {b : Bool} (R : Rel c ρ S H) (r : RD c ρ H x d) (h : truD S d = some b) : TruV c.K x H b := by
  cases r with
  | non => exact (Option.some.inj h).symm
  | bl b => exact (Option.some.inj h).symm
  | int i =>
    refine (Option.some.inj h).symm.trans ?_
    by_cases q : i = 0 <;> simp [q]
  | str s =>
    dsimp only [truD] at h
    split at h
    · rename_i hs
      refine ⟨hs, (Option.some.inj h).symm.trans ?_⟩
      by_cases q : s.length = 0 <;> simp [q]
    · cases h
  | tup hs ha => exact .inr (.inl ⟨_, hs.2, by rw [← (Option.some.inj h), ha.isEmpty]⟩)
  | il hs ha => exact .inl ⟨_, hs.sq, by rw [← (Option.some.inj h), ha.isEmpty]⟩
  | @obj k a hk =>
    dsimp only [truD] at h
    split at h
    · rename_i ds hS
      obtain ⟨a', ha', vs, e, q⟩ := R.at_ k _ hS
      rw [hk] at ha'
      cases ha'
      exact .inl ⟨vs, .inl (.inl e), by rw [← (Option.some.inj h), q.isEmpty]⟩
    · rename_i ds hS
      obtain ⟨a', ha', vs, e, q⟩ := R.at_ k _ hS
      rw [hk] at ha'
      cases ha'
      exact .inr (.inr ⟨vs, e, by rw [← (Option.some.inj h), q.isEmpty]⟩)
    · cases h
  | fn _ => cases h
  | ty _ => cases h
  | kd _ _ => cases h
def plainT : Expr → Bool
  | .UnaryOp .Not _ _ => false
  | .BoolOp _ _ _ => false
  | .IfExp _ _ _ _ => false
  | .Compare _ _ _ _ => false
  | _ => true
theorem plainT_is {env : PySem.Env} (h : plainT e = true) : ∀ whole, isTrue e env whole = (do let v ← whole; standAt e.pos; holding [v] (truthy v)) := by
  intro whole
  cases e with
  | UnaryOp op x p => cases op <;> first | rfl | exact absurd (show false = true from h) Bool.false_ne_true
  | BoolOp _ _ _ => exact absurd (show false = true from h) Bool.false_ne_true
  | IfExp _ _ _ _ => exact absurd (show false = true from h) Bool.false_ne_true
  | Compare _ _ _ _ => exact absurd (show false = true from h) Bool.false_ne_true
  | _ => rfl
theorem dt_tru (ha : DE X W e fa) (h : plainT e = true) : DT X W e (fTru fa) := by
  refine PT.imp (pt_truth ha (plainT_is h)) fun σ H Q ⟨ρ, env, S, E, R, h⟩ => ?_
  refine ⟨ρ, env, S, E, R, Fin.mono h.bind fun x H1 ⟨ρ1, S1, a, e1, R1, r1, h1⟩ => ?_⟩
  split at h1
  · rename_i b hb
    exact ⟨b, truD_ok R1 r1 hb, h1.done R1 rfl⟩
  · exact h1.elim
def fAndV (fa fb : FE) : FE := fun env S => (fa env S).bind fun d S => match truD S d with
  | some true => fb env S
  | some false => .ok d S
  | none => .st
def fOrV (fa fb : FE) : FE := fun env S => (fa env S).bind fun d S => match truD S d with
  | some true => .ok d S
  | some false => fb env S
  | none => .st
def fNotV (fa : FE) : FE := fun env S => (fa env S).bind fun d S => match truD S d with
  | some b => .ok (.bl (!b)) S
  | none => .st
theorem de_one {op : BoolOp} (ha : DE X W a fa) : DE X W (.BoolOp op [a] pos) fa := pe_one ha
theorem de_and (ha : DE X W a fa) (hb : DE X W (.BoolOp .And (b :: rest) pos) fb) : DE X W (.BoolOp .And (a :: b :: rest) pos) (fAndV fa fb) := by
  refine PE.imp (pe_andT ha hb) fun σ H Q ⟨ρ, env, S, E, R, h⟩ => ?_
  refine ⟨ρ, env, S, E, R, Fin.mono h.bind fun x H1 ⟨ρ1, S1, a, e1, R1, r1, h1⟩ => ?_⟩
  split at h1
  · rename_i hb
    refine ⟨true, truD_ok R1 r1 hb, ?_⟩
    rw [if_pos rfl]
    exact ⟨ρ1, env, S1, E.ext e1, R1, h1⟩
  · rename_i hb
    refine ⟨false, truD_ok R1 r1 hb, ?_⟩
    rw [if_neg Bool.false_ne_true]
    exact h1.done R1 r1
  · exact h1.elim
theorem de_or (ha : DE X W a fa) (hb : DE X W (.BoolOp .Or (b :: rest) pos) fb) : DE X W (.BoolOp .Or (a :: b :: rest) pos) (fOrV fa fb) := by
  refine PE.imp (pe_orT ha hb) fun σ H Q ⟨ρ, env, S, E, R, h⟩ => ?_
  refine ⟨ρ, env, S, E, R, Fin.mono h.bind fun x H1 ⟨ρ1, S1, a, e1, R1, r1, h1⟩ => ?_⟩
  split at h1
  · rename_i hb
    refine ⟨true, truD_ok R1 r1 hb, ?_⟩
    rw [if_pos rfl]
    exact h1.done R1 r1
  · rename_i hb
    refine ⟨false, truD_ok R1 r1 hb, ?_⟩
    rw [if_neg Bool.false_ne_true]
    exact ⟨ρ1, env, S1, E.ext e1, R1, h1⟩
  · exact h1.elim
theorem de_not (ha : DE X W a fa) : DE X W (.UnaryOp .Not a pos) (fNotV fa) := by
  refine PE.imp (pe_notT ha) fun σ H Q ⟨ρ, env, S, E, R, h⟩ => ?_
  refine ⟨ρ, env, S, E, R, Fin.mono h.bind fun x H1 ⟨ρ1, S1, a, e1, R1, r1, h1⟩ => ?_⟩
  split at h1
  · rename_i b hb
    exact ⟨b, truD_ok R1 r1 hb, h1.done R1 (.bl _)⟩
  · exact h1.elim
def fNeg (fa : FE) : FE := fun env S => (fa env S).bind fun d S => match d with
  | .int i => .ok (.int (-i)) S
  | _ => .st
theorem de_neg (ha : DE X W a fa) : DE X W (.UnaryOp .USub a pos) (fNeg fa) := by
  refine PE.imp (pe_un un_neg ha) fun σ H Q ⟨ρ, env, S, E, R, h⟩ => ?_
  refine ⟨ρ, env, S, E, R, Fin.mono h.bind fun x H1 ⟨ρ1, S1, a, e1, R1, r1, h1⟩ => ?_⟩
  cases r1 with
  | int i => exact ⟨i, rfl, h1.done R1 (.int _)⟩
  | _ => exact h1.elim
def fNil : FL := fun _ S => .ok [] S
def fCons (fa : FE) (fs : FL) : FL := fun env S => (fa env S).bind fun d S => (fs env S).bind fun ds S => .ok (d :: ds) S
theorem da_nil : DA X W [] fNil := PA.imp pa_nil fun σ H Q ⟨ρ, env, S, E, R, h⟩ => h.done R .nil
theorem da_cons (he : DE X W e fa) (hr : DA X W es fs) (hs : starEach (e :: es) X.env = (false, eval e X.env) :: starEach es X.env) : DA X W (e :: es) (fCons fa fs) := by
  refine PA.imp (pa_cons he hr hs) fun σ H Q ⟨ρ, env, S, E, R, h⟩ => ?_
  refine ⟨ρ, env, S, E, R, Fin.mono h.bind fun x H1 ⟨ρ1, S1, a, e1, R1, r1, h1⟩ => ?_⟩
  refine ⟨ρ1, env, S1, E.ext e1, R1, Fin.mono h1.bind fun y H2 ⟨ρ2, S2, b, e2, R2, r2, h2⟩ => ?_⟩
  exact h2.done R2 (.cons (r1.ext e2) r2)
end
mutual
def toP : D → Option PyData
  | .non => some .none
  | .bl b => some (.bool b)
  | .int i => some (.int i)
  | .str s => some (.str s)
  | .tup _ ds => (toPs ds).map .tuple
  | .il ds => (toPs ds).map .list
  | _ => none
def toPs : List D → Option (List PyData)
  | [] => some []
  | d :: ds => (toP d).bind fun x => (toPs ds).bind fun xs => some (x :: xs)
end
def toPS (S : Sg) (d : D) : Option PyData := match d with
  | .obj k => match S[k]? with
    | some (.lst ds) => (toPs ds).map .list
    | _ => none
  | d => toP d
section
variable {c : Cc} {ρ : List Addr} {S : Sg} {H : Hp}
mutual
theorem toP_ok : ∀ {v : V} {d : D} {p : PyData}, RD c ρ H v d → toP d = some p → Dp c.K H v p ∧ p.plain = true
  | _, _, _, .non, h => by cases h; exact ⟨.non, rfl⟩
  | _, _, _, .bl b, h => by cases h; exact ⟨.bl b, rfl⟩
  | _, _, _, .int b, h => by cases h; exact ⟨.int b, rfl⟩
  | _, _, _, .str b, h => by cases h; exact ⟨.str b, rfl⟩
  | _, .tup _ ds, p, .tup hs ha, h => by
    simp only [toP] at h
    cases e : toPs ds with
    | none => rw [e] at h; cases h
    | some ps =>
      rw [e] at h
      cases h
      obtain ⟨h1, h2⟩ := toPs_ok ha e
      exact ⟨.tup hs.2 h1, h2⟩
  | _, .il ds, p, .il hs ha, h => by
    simp only [toP] at h
    cases e : toPs ds with
    | none => rw [e] at h; cases h
    | some ps =>
      rw [e] at h
      cases h
      obtain ⟨h1, h2⟩ := toPs_ok ha e
      exact ⟨.lst hs.sq h1, h2⟩
  | _, _, _, .obj _, h => by cases h
  | _, _, _, .fn _, h => by cases h
  | _, _, _, .ty _, h => by cases h
  | _, _, _, .kd _ _, h => by cases h
theorem toPs_ok : ∀ {vs : List V} {ds : List D} {ps : List PyData}, RL c ρ H vs ds → toPs ds = some ps → DpAll c.K H vs ps ∧ PyData.plainAll ps = true
  | _, _, _, .nil, h => by cases h; exact ⟨.nil, rfl⟩
  | _, d :: ds, ps, .cons h1 h2, h => by
    simp only [toPs] at h
    cases e : toP d with
    | none => rw [e] at h; cases h
    | some x =>
      rw [e] at h
      cases e2 : toPs ds with
      | none => rw [e2] at h; cases h
      | some xs =>
        rw [e2] at h
        cases h
        obtain ⟨a1, a2⟩ := toP_ok h1 e
        obtain ⟨b1, b2⟩ := toPs_ok h2 e2
        exact ⟨.cons a1 b1, by rw [PyData.plainAll, a2, b2]; rfl⟩
end
theorem toPS_ok {v : V} {d : D} {p : PyData} (R : Rel c ρ S H) (r : RD c ρ H v d) (h : toPS S d = some p) : Dp c.K H v p ∧ p.plain = true := by
  cases r with
  | @obj k a hk =>
    dsimp only [toPS] at h
    split at h
    · rename_i ds hS
      obtain ⟨a', ha', vs, e, q⟩ := R.at_ k _ hS
      rw [hk] at ha'
      cases ha'
      cases e2 : toPs ds with
      | none => rw [e2] at h; cases h
      | some ps =>
        rw [e2] at h
        cases h
        obtain ⟨h1, h2⟩ := toPs_ok q e2
        exact ⟨.lst (.inl (.inl e)) h1, h2⟩
    · cases h
  | non => exact toP_ok (ρ := ρ) .non h
  | bl b => exact toP_ok (ρ := ρ) (.bl b) h
  | int b => exact toP_ok (ρ := ρ) (.int b) h
  | str b => exact toP_ok (ρ := ρ) (.str b) h
  | tup a b => exact toP_ok (ρ := ρ) (.tup a b) h
  | il a b => exact toP_ok (ρ := ρ) (.il a b) h
  | fn a => exact toP_ok (ρ := ρ) (.fn a) h
  | ty a => exact toP_ok (ρ := ρ) (.ty a) h
  | kd a b => exact toP_ok (ρ := ρ) (.kd a b) h
end
def eqO (S : Sg) (a b : D) : Option Bool := match toPS S a, toPS S b with
  | some x, some y => if min x.depth y.depth ≤ 64 then some (PyData.eqv x y) else none
  | _, _ => none
def rEqP (K : PySem.W.Frag) : R2 := fun x y H Q => ∃ d e, Dp K H x d ∧ Dp K H y e ∧ d.plain = true ∧ e.plain = true ∧ min d.depth e.depth ≤ 64 ∧ Q (.bl (PyData.eqv d e)) H
def rNeP (K : PySem.W.Frag) : R2 := fun x y H Q => ∃ d e, Dp K H x d ∧ Dp K H y e ∧ d.plain = true ∧ e.plain = true ∧ min d.depth e.depth ≤ 64 ∧ Q (.bl (!PyData.eqv d e)) H
section
variable {X : Cx}
theorem op_eqP (hu : X.A.units + 64 < cLine) : OpR X (compareOp .Eq) (rEqP X.K) := by
  intro pins s σ H x y v u Q I rx ry h
  obtain ⟨d, e, hd, he, sd, se, hm, q⟩ := h
  obtain ⟨as, r1⟩ := Dp.reads I d x v hd rx
  obtain ⟨bs, r2⟩ := Dp.reads I e y u he ry
  exact PySem.SeqAt.eq_plain r1 r2 sd se (by omega) ⟨.bl _, H, I, rfl, q⟩
theorem op_neP (hu : X.A.units + 64 < cLine) : OpR X (compareOp .NotEq) (rNeP X.K) := by
  intro pins s σ H x y v u Q I rx ry h
  obtain ⟨d, e, hd, he, sd, se, hm, q⟩ := h
  obtain ⟨as, r1⟩ := Dp.reads I d x v hd rx
  obtain ⟨bs, r2⟩ := Dp.reads I e y u he ry
  exact PySem.SeqAt.ne_plain r1 r2 sd se (by omega) ⟨.bl _, H, I, rfl, q⟩
end
mutual
inductive QR (S : Sg) : D → PyData → Prop
  | non : QR S .non .none
  | bl (b : Bool) : QR S (.bl b) (.bool b)
  | int (i : Int) : QR S (.int i) (.int i)
  | str (z : Str) : QR S (.str z) (.str z)
  | tup {w : Bool} {ds : List D} {ps : List PyData} (h : QL S ds ps) : QR S (.tup w ds) (.tuple ps)
  | obj {k : Nat} {ds : List D} {ps : List PyData} (hk : S[k]? = some (.lst ds)) (h : QL S ds ps) : QR S (.obj k) (.list ps)
inductive QL (S : Sg) : List D → List PyData → Prop
  | nil : QL S [] []
  | cons {d : D} {ds : List D} {p : PyData} {ps : List PyData} (h : QR S d p) (hs : QL S ds ps) : QL S (d :: ds) (p :: ps)
end
section
variable {c : Cc} {ρ : List Addr} {S : Sg} {H : Hp}
theorem QR.dp (R : Rel c ρ S H) {v : V} {d : D} {p : PyData} (r : RD c ρ H v d) (h : QR S d p) : Dp c.K H v p ∧ p.plain = true := by
  refine QR.rec (motive_1 := fun d p _ => ∀ v, RD c ρ H v d → Dp c.K H v p ∧ p.plain = true) (motive_2 := fun ds ps _ => ∀ vs, RL c ρ H vs ds → DpAll c.K H vs ps ∧ PyData.plainAll ps = true) ?_ ?_ ?_ ?_ ?_ ?_ ?_ ?_ h v r
  · intro v r; cases r; exact ⟨.non, rfl⟩
  · intro b v r; cases r; exact ⟨.bl b, rfl⟩
  · intro i v r; cases r; exact ⟨.int i, rfl⟩
  · intro z v r; cases r; exact ⟨.str z, rfl⟩
  · intro w ds ps _ ih v r
    cases r with
    | tup hs ha =>
      obtain ⟨h1, h2⟩ := ih _ ha
      exact ⟨.tup hs.2 h1, h2⟩
  · intro k ds ps hS _ ih v r
    cases r with
    | obj hk =>
      obtain ⟨a', ha', vs, e, q⟩ := R.at_ k _ hS
      rw [hk] at ha'
      cases ha'
      obtain ⟨h1, h2⟩ := ih _ q
      exact ⟨.lst (.inl (.inl e)) h1, h2⟩
  · intro vs r; cases r; exact ⟨.nil, rfl⟩
  · intro d ds p ps _ _ i1 i2 vs r
    cases r with
    | cons h1 h2 =>
      obtain ⟨a1, a2⟩ := i1 _ h1
      obtain ⟨b1, b2⟩ := i2 _ h2
      exact ⟨.cons a1 b1, by rw [PyData.plainAll, a2, b2]; rfl⟩
end
def EqW (S : Sg) (a b : D) (k : Bool) : Prop := ∃ p q, QR S a p ∧ QR S b q ∧ min p.depth q.depth ≤ 64 ∧ PyData.eqv p q = k
open Classical in
noncomputable def dEq (a b : D) (S : Sg) : Res D := match eqO S a b with
  | some k => .ok (.bl k) S
  | none => if EqW S a b true then .ok (.bl true) S else if EqW S a b false then .ok (.bl false) S else .st
open Classical in
noncomputable def dNe (a b : D) (S : Sg) : Res D := match eqO S a b with
  | some k => .ok (.bl (!k)) S
  | none => if EqW S a b true then .ok (.bl false) S else if EqW S a b false then .ok (.bl true) S else .st
section
variable {c : Cc} {ρ : List Addr} {S : Sg} {H : Hp}
theorem eqO_ok {x y : V} {a b : D} {k : Bool} (R : Rel c ρ S H) (r1 : RD c ρ H x a) (r2 : RD c ρ H y b) (h : eqO S a b = some k) :
    ∃ d e, Dp c.K H x d ∧ Dp c.K H y e ∧ d.plain = true ∧ e.plain = true ∧ min d.depth e.depth ≤ 64 ∧ PyData.eqv d e = k := by
  unfold eqO at h
  split at h
  · rename_i p q hp hq
    split at h
    · rename_i hm
      obtain ⟨a1, a2⟩ := toPS_ok R r1 hp
      obtain ⟨b1, b2⟩ := toPS_ok R r2 hq
      exact ⟨p, q, a1, b1, a2, b2, hm, Option.some.inj h⟩
    · cases h
  · cases h
theorem dEq_ok : OpD c (rEqP c.K) dEq := by
  intro W σ ρ S H x y a b Q R r1 r2 h
  unfold dEq at h
  split at h
  · rename_i k hk
    obtain ⟨d, e, h1, h2, h3, h4, h5, h6⟩ := eqO_ok R r1 r2 hk
    exact ⟨d, e, h1, h2, h3, h4, h5, by rw [h6]; exact h.done R (.bl _)⟩
  · split at h
    · rename_i hw
      obtain ⟨p, q, q1, q2, h5, h6⟩ := hw
      obtain ⟨h1, h3⟩ := QR.dp R r1 q1
      obtain ⟨h2, h4⟩ := QR.dp R r2 q2
      exact ⟨p, q, h1, h2, h3, h4, h5, by rw [h6]; exact h.done R (.bl _)⟩
    · split at h
      · rename_i hw
        obtain ⟨p, q, q1, q2, h5, h6⟩ := hw
        obtain ⟨h1, h3⟩ := QR.dp R r1 q1
        obtain ⟨h2, h4⟩ := QR.dp R r2 q2
        exact ⟨p, q, h1, h2, h3, h4, h5, by rw [h6]; exact h.done R (.bl _)⟩
      · exact h.elim
theorem dNe_ok : OpD c (rNeP c.K) dNe := by
  intro W σ ρ S H x y a b Q R r1 r2 h
  unfold dNe at h
  split at h
  · rename_i k hk
    obtain ⟨d, e, h1, h2, h3, h4, h5, h6⟩ := eqO_ok R r1 r2 hk
    exact ⟨d, e, h1, h2, h3, h4, h5, by rw [h6]; exact h.done R (.bl _)⟩
  · split at h
    · rename_i hw
      obtain ⟨p, q, q1, q2, h5, h6⟩ := hw
      obtain ⟨h1, h3⟩ := QR.dp R r1 q1
      obtain ⟨h2, h4⟩ := QR.dp R r2 q2
      exact ⟨p, q, h1, h2, h3, h4, h5, by rw [h6]; exact h.done R (.bl _)⟩
    · split at h
      · rename_i hw
        obtain ⟨p, q, q1, q2, h5, h6⟩ := hw
        obtain ⟨h1, h3⟩ := QR.dp R r1 q1
        obtain ⟨h2, h4⟩ := QR.dp R r2 q2
        exact ⟨p, q, h1, h2, h3, h4, h5, by rw [h6]; exact h.done R (.bl _)⟩
      · exact h.elim
end
def dOrd (f : Int → Int → Bool) (a b : D) (S : Sg) : Res D := match a, b with
  | .int i, .int j => .ok (.bl (f i j)) S
  | _, _ => .st
theorem dOrd_ok {c : Cc} (f : Int → Int → Bool) : OpD c (rI0 fun i j => .bl (f i j)) (dOrd f) := by
  intro W σ ρ S H x y a b Q R r1 r2 h
  unfold dOrd at h
  split at h
  · cases r1
    cases r2
    exact ⟨_, _, rfl, rfl, h.done R (.bl _)⟩
  · exact h.elim
def dIs (a b : D) (S : Sg) : Res D := match a, b with
  | .non, .non => .ok (.bl true) S
  | _, .non => .ok (.bl false) S
  | .bl x, .bl y => .ok (.bl (decide (x = y))) S
  | _, _ => .st
theorem dIs_ok {c : Cc} : OpD c (fun x y H Q => (y = .non ∧ Q (.bl (decide (x = .non))) H) ∨ rIsB x y H Q) dIs := by
  intro W σ ρ S H x y a b Q R r1 r2 h
  unfold dIs at h
  split at h
  · cases r1; cases r2; exact .inl ⟨rfl, by simpa using h.done R (.bl true)⟩
  · rename_i hn
    cases r2
    refine .inl ⟨rfl, ?_⟩
    have : x ≠ .non := by
      rintro rfl
      cases r1
      exact hn rfl
    rw [decide_eq_false this]
    exact h.done R (.bl false)
  · cases r1; cases r2; exact .inr ⟨_, _, rfl, rfl, h.done R (.bl _)⟩
  · exact h.elim
def keyD : D → Option Key
  | .int i => some (.inl i)
  | .str x => some (.inr x)
  | _ => none
def keysD : List D → Option (List Key)
  | [] => some []
  | d :: ds => (keyD d).bind fun k => (keysD ds).bind fun ks => some (k :: ks)
section
variable {κ : Type} [DecidableEq κ]
def putD (kvs : List (κ × D)) (k : κ) (v : D) : List (κ × D) := if kvs.any (fun kv => decide (kv.1 = k)) then kvs.map (fun kv => if kv.1 = k then (kv.1, v) else kv) else kvs ++ [(k, v)]
def dropD (kvs : List (κ × D)) (k : κ) : List (κ × D) := kvs.filter fun kv => decide (kv.1 ≠ k)
end
section
variable {κ : Type} [DecidableEq κ] {c : Cc} {ρ : List Addr} {S : Sg} {H : Hp}
theorem RP.val (k : κ) : ∀ {vs : List (κ × V)} {ds : List (κ × D)}, RP c ρ H vs ds → (valV vs k = none ∧ valD ds k = none) ∨ ∃ v d, valV vs k = some v ∧ valD ds k = some d ∧ RD c ρ H v d
  | _, _, .nil => .inl ⟨rfl, rfl⟩
  | _, _, .cons (k := k') (v := v) (d := d) (vs := vs) (ds := ds) h r => by
    by_cases e : k' = k
    · refine .inr ⟨v, d, valV_pos (p := (k', v)) e, ?_, h⟩
      simp [valD, List.find?_cons, e]
    · rw [valV_neg (p := (k', v)) e]
      have : valD ((k', d) :: ds) k = valD ds k := by simp [valD, List.find?_cons, e]
      rw [this]
      exact RP.val k r
theorem RP.any (k : κ) : ∀ {vs : List (κ × V)} {ds : List (κ × D)}, RP c ρ H vs ds → (vs.any fun kv => decide (kv.1 = k)) = ds.any fun kv => decide (kv.1 = k)
  | _, _, .nil => rfl
  | _, _, .cons h r => by rw [List.any_cons, List.any_cons, RP.any k r]
theorem RP.repl (k : κ) {x : V} {y : D} (q : RD c ρ H x y) : ∀ {vs : List (κ × V)} {ds : List (κ × D)}, RP c ρ H vs ds → RP c ρ H (vs.map fun kv => if kv.1 = k then (kv.1, x) else kv) (ds.map fun kv => if kv.1 = k then (kv.1, y) else kv)
  | _, _, .nil => .nil
  | _, _, .cons (k := k') h r => by
    rw [List.map_cons, List.map_cons]
    by_cases e : k' = k
    · rw [if_pos e, if_pos e]; exact .cons q (RP.repl k q r)
    · rw [if_neg e, if_neg e]; exact .cons h (RP.repl k q r)
theorem RP.snoc {k : κ} {x : V} {y : D} (q : RD c ρ H x y) : ∀ {vs : List (κ × V)} {ds : List (κ × D)}, RP c ρ H vs ds → RP c ρ H (vs ++ [(k, x)]) (ds ++ [(k, y)])
  | _, _, .nil => .cons q .nil
  | _, _, .cons h r => .cons h (RP.snoc q r)
theorem RP.put (k : κ) {x : V} {y : D} (q : RD c ρ H x y) {vs : List (κ × V)} {ds : List (κ × D)} (r : RP c ρ H vs ds) : RP c ρ H (putK vs k x) (putD ds k y) := by
  unfold putK putD
  rw [r.any k]
  split
  · exact r.repl k q
  · exact r.snoc q
theorem RP.drop (k : κ) : ∀ {vs : List (κ × V)} {ds : List (κ × D)}, RP c ρ H vs ds → RP c ρ H (dropK vs k) (dropD ds k)
  | _, _, .nil => .nil
  | _, _, .cons (k := k') h r => by
    unfold dropK dropD
    rw [List.filter_cons, List.filter_cons]
    by_cases e : k' = k
    · rw [if_neg (by simp [e]), if_neg (by simp [e])]; exact RP.drop k r
    · rw [if_pos (by simp [e]), if_pos (by simp [e])]; exact .cons h (RP.drop k r)
theorem RP.len : ∀ {vs : List (κ × V)} {ds : List (κ × D)}, RP c ρ H vs ds → vs.length = ds.length
  | _, _, .nil => rfl
  | _, _, .cons _ r => congrArg (· + 1) (RP.len r)
theorem keyD_ok {v : V} {d : D} {k : Key} (r : RD c ρ H v d) (h : keyD d = some k) : v = kV k := by
  cases r <;> first | (cases h; rfl) | exact nomatch h
theorem keysD_ok : ∀ {vs : List V} {ds : List D} {ks : List Key}, RL c ρ H vs ds → keysD ds = some ks → vs = ks.map kV
  | _, _, _, .nil, h => by cases h; rfl
  | _, d :: ds, ks, .cons h1 h2, h => by
    simp only [keysD] at h
    cases e : keyD d with
    | none => rw [e] at h; cases h
    | some x =>
      rw [e] at h
      cases e2 : keysD ds with
      | none => rw [e2] at h; cases h
      | some xs =>
        rw [e2] at h
        cases h
        rw [keyD_ok h1 e, keysD_ok h2 e2]
        rfl
def getD? (S : Sg) (k : Nat) (y : D) : Option (Option D) := match S[k]? with
  | some (.dK kvs) => (keyD y).map fun z => valD kvs z
  | some (.dT kvs) => match y with
    | .tup true ds => (keysD ds).map fun z => valD kvs z
    | _ => none
  | _ => none
theorem getD?_ok {k : Nat} {a : Addr} {y : V} {d : D} {o : Option D} (R : Rel c ρ S H) (hk : ρ[k]? = some a) (r : RD c ρ H y d) (h : getD? S k d = some o) :
    (o = none ∧ DGet H a y none) ∨ ∃ z v, o = some z ∧ DGet H a y (some v) ∧ RD c ρ H v z := by
  unfold getD? at h
  split at h
  · rename_i kvs hS
    obtain ⟨a', ha', vs, e, q⟩ := R.at_ k _ hS
    rw [hk] at ha'; cases ha'
    cases e2 : keyD d with
    | none => rw [e2] at h; cases h
    | some z =>
      rw [e2] at h
      cases h
      have hy := keyD_ok r e2
      subst hy
      rcases q.val z with ⟨h1, h2⟩ | ⟨v, w, h1, h2, h3⟩
      · exact .inl ⟨h2, by rw [← h1]; exact DGet.k e⟩
      · exact .inr ⟨w, v, h2, by rw [← h1]; exact DGet.k e, h3⟩
  · rename_i kvs hS
    obtain ⟨a', ha', vs, e, q⟩ := R.at_ k _ hS
    rw [hk] at ha'; cases ha'
    split at h
    · rename_i ds
      cases r with
      | tup ht hl =>
        cases e2 : keysD ds with
        | none => rw [e2] at h; cases h
        | some z =>
          rw [e2] at h
          cases h
          have hy := keysD_ok hl e2
          subst hy
          have hb := ht.1 rfl
          rcases q.val z with ⟨h1, h2⟩ | ⟨v, w, h1, h2, h3⟩
          · exact .inl ⟨h2, by rw [← h1]; exact DGet.t e hb⟩
          · exact .inr ⟨w, v, h2, by rw [← h1]; exact DGet.t e hb, h3⟩
    · cases h
  · cases h
end
def seqD (S : Sg) : D → Option (List D)
  | .tup _ ds => some ds
  | .il ds => some ds
  | .obj k => match S[k]? with
    | some (.lst ds) => some ds
    | _ => none
  | _ => none
def inO (S : Sg) (a b : D) : Option Bool := match a, b with
  | .str x, .str z => match x.cps.toList with
    | [n] => some (decide (n ∈ z.cps.toList))
    | _ => some (!(Builtin.Str.occurrences z x 0 z.length 1).isEmpty)
  | a, b => match seqD S b with
    | some ds => match toPs ds, toP a with
      | some xs, some d => if min (PyData.depthAll xs) d.depth ≤ 60 then some (xs.any fun y => PyData.eqv y d) else none
      | _, _ => none
    | none => match b with
      | .obj k => (getD? S k a).map (·.isSome)
      | _ => none
def dIn (a b : D) (S : Sg) : Res D := match inO S a b with
  | some k => .ok (.bl k) S
  | none => .st
def rInG (K : PySem.W.Frag) (g : Bool → Bool) : R2 := fun x y H Q =>
  (∃ (c : Nat) (z : Str), x = .str ⟨#[c]⟩ ∧ y = .str z ∧ Q (.bl (g (decide (c ∈ z.cps.toList)))) H) ∨
  (∃ i j, x = .str i ∧ y = .str j ∧ Q (.bl (g (!(Builtin.Str.occurrences j i 0 j.length 1).isEmpty))) H) ∨
  (∃ d ps, Dp K H x d ∧ (Dp K H y (.list ps) ∨ Dp K H y (.tuple ps)) ∧ d.plain = true ∧ PyData.plainAll ps = true ∧ min (PyData.depthAll ps) d.depth ≤ 60 ∧ Q (.bl (g (ps.any fun z => PyData.eqv z d))) H) ∨
  (∃ a o, y = .ref a ∧ DGet H a x o ∧ Q (.bl (g o.isSome)) H)
section
variable {X : Cx}
theorem op_inG (hu : X.A.units + 64 < cLine) : OpR X (compareOp .In) (rInG X.K id) := by
  refine OpR.or op_in_sign (OpR.or op_in_str (OpR.or ?_ ?_))
  · intro pins s σ H x y v u Q I rx ry h
    obtain ⟨d, ps, hd, hp, sd, sp, hm, q⟩ := h
    obtain ⟨as, r1⟩ := Dp.reads I d x v hd rx
    rcases hp with hp | hp
    · obtain ⟨bs, r2⟩ := Dp.reads I _ y u hp ry
      exact PySem.SeqAt.in_list_data r2 r1 sp sd (by omega) ⟨.bl _, H, I, rfl, q⟩
    · obtain ⟨bs, r2⟩ := Dp.reads I _ y u hp ry
      exact PySem.SeqAt.in_tuple_data r2 r1 sp sd (by omega) ⟨.bl _, H, I, rfl, q⟩
  · intro pins s σ H x y v u Q I rx ry h
    obtain ⟨a, o, rfl, g, q⟩ := h
    cases ry
    exact d_in (by omega) I g rx fun s3 I3 => ⟨.bl o.isSome, H, I3, rfl, q⟩
end
section
variable {c : Cc} {ρ : List Addr} {S : Sg} {H : Hp}
theorem seqD_ok {v : V} {d : D} {ds : List D} (R : Rel c ρ S H) (r : RD c ρ H v d) (h : seqD S d = some ds) : ∃ p vs, v = .ref p ∧ (SqL c.K H p vs ∨ SqT c.K H p vs) ∧ RL c ρ H vs ds := by
  cases r with
  | tup ht hl => cases h; exact ⟨_, _, rfl, .inr ht.2, hl⟩
  | il ht hl => cases h; exact ⟨_, _, rfl, .inl ht.sq, hl⟩
  | @obj k a hk =>
    dsimp only [seqD] at h
    split at h
    · rename_i es hS
      cases h
      obtain ⟨a', ha', vs, e, q⟩ := R.at_ k _ hS
      rw [hk] at ha'; cases ha'
      exact ⟨_, _, rfl, .inl (.inl (.inl e)), q⟩
    · cases h
  | _ => exact nomatch h
theorem inO_ok {g : Bool → Bool} {x y : V} {a b : D} {k : Bool} {Q : VK} (R : Rel c ρ S H) (r1 : RD c ρ H x a) (r2 : RD c ρ H y b) (h : inO S a b = some k) (q : Q (.bl (g k)) H) : rInG c.K g x y H Q := by
  unfold inO at h
  split at h
  · rename_i xs z
    cases r1
    cases r2
    split at h
    · rename_i n hn
      cases h
      refine .inl ⟨n, z, ?_, rfl, q⟩
      congr 1
      exact Str.ext' (Array.toList_inj.mp (by rw [hn]))
    · cases h
      exact .inr (.inl ⟨_, _, rfl, rfl, q⟩)
  · split at h
    · rename_i ds hds
      split at h
      · rename_i xs d hxs hd
        split at h
        · rename_i hm
          cases h
          obtain ⟨p, vs, rfl, hs, hl⟩ := seqD_ok R r2 hds
          obtain ⟨a1, a2⟩ := toP_ok r1 hd
          obtain ⟨b1, b2⟩ := toPs_ok hl hxs
          exact .inr (.inr (.inl ⟨d, xs, a1, hs.imp (fun z => .lst z b1) (fun z => .tup z b1), a2, b2, hm, q⟩))
        · cases h
      · cases h
    · cases r2 with
      | @obj kk _ hk =>
        dsimp only at h
        cases e : getD? S kk a with
        | none => rw [e] at h; cases h
        | some o =>
          rw [e] at h
          cases h
          rcases getD?_ok R hk r1 e with ⟨rfl, h2⟩ | ⟨z, v, rfl, h2, _⟩
          · exact .inr (.inr (.inr ⟨_, _, rfl, h2, q⟩))
          · exact .inr (.inr (.inr ⟨_, _, rfl, h2, q⟩))
      | _ => exact nomatch h
theorem dIn_ok : OpD c (rInG c.K id) dIn := by
  intro W σ ρ S H x y a b Q R r1 r2 h
  unfold dIn at h
  split at h
  · rename_i k hk
    exact inO_ok R r1 r2 hk (h.done R (.bl _))
  · exact h.elim
end
def okMul (i j : Int) : Bool := (decide (-(2 ^ 64) < i) && decide (i < 2 ^ 64)) || (decide (-(2 ^ 64) < j) && decide (j < 2 ^ 64)) || decide (i.natAbs.log2 + j.natAbs.log2 < 1000000)
def okDiv (j : Int) : Bool := decide (0 < j) && decide (j.natAbs.log2 < 9000)
def okPow (i j : Int) : Bool := decide (0 ≤ j) && decide (j ≤ 1000000) && decide (i.natAbs < 2 ^ 64)
def dInt (ok : Int → Int → Bool) (f : Int → Int → Int) (a b : D) (S : Sg) : Res D := match a, b with
  | .int i, .int j => if ok i j = true then .ok (.int (f i j)) S else .st
  | _, _ => .st
def dMul := dInt okMul fun i j => i * j
def dDiv := dInt (fun _ j => okDiv j) fun i j => i / j
def dMod := dInt (fun _ j => decide (0 < j)) fun i j => i % j
def dPow := dInt okPow fun i j => i ^ j.toNat
def dSub := dInt (fun _ _ => true) fun i j => i - j
def dAdd (a b : D) (S : Sg) : Res D := match a, b with
  | .int i, .int j => .ok (.int (i + j)) S
  | .str x, .str y => if x.length + y.length ≤ sizeLine then .ok (.str (x ++ y)) S else .st
  | .tup w xs, .tup u ys => if xs.length + ys.length ≤ sizeLine then .ok (.tup (w && u) (xs ++ ys)) S else .st
  | .obj k, .obj l => match S[k]?, S[l]? with
    | some (.lst xs), some (.lst ys) => if xs.length + ys.length ≤ sizeLine then .ok (.obj S.length) (S ++ [.lst (xs ++ ys)]) else .st
    | _, _ => .st
  | _, _ => .st
def rMul : R2 := fun x y H Q => rI CMul (fun i j => .int (i * j)) x y H Q ∨ rI CMulW (fun i j => .int (i * j)) x y H Q
theorem op_mulA {X : Cx} : OpR X (binaryOp .Mult) rMul := OpR.or op_mul op_mulW
section
variable {c : Cc}
theorem dInt_ok {C : Int → Int → Prop} {ok : Int → Int → Bool} {f : Int → Int → Int} (h : ∀ i j, ok i j = true → C i j) : OpD c (rI C fun i j => .int (f i j)) (dInt ok f) := by
  intro W σ ρ S H x y a b Q R r1 r2 q
  unfold dInt at q
  split at q
  · cases r1
    cases r2
    split at q
    · rename_i hk
      exact ⟨_, _, rfl, rfl, h _ _ hk, q.done R (.int _)⟩
    · exact q.elim
  · exact q.elim
theorem dInt0_ok {f : Int → Int → Int} : OpD c (rI0 fun i j => .int (f i j)) (dInt (fun _ _ => true) f) := by
  intro W σ ρ S H x y a b Q R r1 r2 q
  unfold dInt at q
  split at q
  · cases r1
    cases r2
    rw [if_pos rfl] at q
    exact ⟨_, _, rfl, rfl, q.done R (.int _)⟩
  · exact q.elim
theorem dMul_ok : OpD c rMul dMul := by
  intro W σ ρ S H x y a b Q R r1 r2 q
  unfold dMul dInt at q
  split at q
  · rename_i i j
    cases r1
    cases r2
    split at q
    · rename_i hk
      unfold okMul at hk
      simp only [Bool.or_eq_true, Bool.and_eq_true, decide_eq_true_eq] at hk
      rcases hk with (hk | hk) | hk
      · exact .inl ⟨i, j, rfl, rfl, .inl hk, q.done R (.int _)⟩
      · exact .inl ⟨i, j, rfl, rfl, .inr hk, q.done R (.int _)⟩
      · exact .inr ⟨i, j, rfl, rfl, hk, q.done R (.int _)⟩
    · exact q.elim
  · exact q.elim
theorem dDiv_ok : OpD c (rI CDivW fun i j => .int (i / j)) dDiv := dInt_ok fun i j h => by
  unfold okDiv at h
  simp only [Bool.and_eq_true, decide_eq_true_eq] at h
  exact h
theorem dMod_ok : OpD c (rI (fun _ j => 0 < j) fun i j => .int (i % j)) dMod := dInt_ok fun i j h => of_decide_eq_true h
theorem dPow_ok : OpD c (rI CPow fun i j => .int (i ^ j.toNat)) dPow := dInt_ok fun i j h => by
  unfold okPow at h
  simp only [Bool.and_eq_true, decide_eq_true_eq] at h
  exact ⟨h.1.1, h.1.2, h.2⟩
def rAddG (K : PySem.W.Frag) : R2 := fun x y H Q => rI0 (fun i j => .int (i + j)) x y H Q ∨ (∃ i j, x = .str i ∧ y = .str j ∧ i.length + j.length ≤ sizeLine ∧ Q (.str (i ++ j)) H) ∨ rCatA K x y H Q ∨ rCat x y H Q
theorem op_addG {X : Cx} : OpR X (binaryOp .Add) (rAddG X.K) := OpR.or op_add (OpR.or op_add_str (OpR.or op_catA op_cat))
theorem TupAt.weak {K : PySem.W.Frag} {H : Hp} {p : Addr} {vs : List V} {w u : Bool} (h : TupAt K H p vs w) (k : u = true → w = true) : TupAt K H p vs u := ⟨fun z => h.1 (k z), h.2⟩
theorem TupAt.new {K : PySem.W.Frag} {H : Hp} {p : Addr} {vs : List V} {w : Bool} : TupAt K (upd H p (.tup vs)) p vs w := ⟨fun _ => upd_same, SqT.of upd_same⟩
theorem RL.nil_iff {ρ : List Addr} {H : Hp} {vs : List V} {ds : List D} (r : RL c ρ H vs ds) : vs = [] ↔ ds = [] := by
  cases r with
  | nil => simp
  | cons _ _ => simp
theorem dAdd_ok : OpD c (rAddG c.K) dAdd := by
  intro W σ ρ S H x y a b Q R r1 r2 q
  unfold dAdd at q
  split at q
  · cases r1
    cases r2
    exact .inl ⟨_, _, rfl, rfl, q.done R (.int _)⟩
  · cases r1
    cases r2
    split at q
    · rename_i hz
      exact .inr (.inl ⟨_, _, rfl, rfl, hz, q.done R (.str _)⟩)
    · exact q.elim
  · rename_i w xs u ys
    cases r1 with
    | tup h1 l1 =>
      cases r2 with
      | tup h2 l2 =>
        split at q
        · rename_i hz
          refine .inr (.inr (.inl ⟨_, _, _, _, rfl, rfl, h1.2, h2.2, by rw [l1.len, l2.len]; exact hz, fun e => ?_, fun _ e => ?_, fun _ _ p hp => ?_⟩))
          · have e' := l1.nil_iff.mp e
            subst e'
            exact q.done R (.tup (h2.weak fun z => (Bool.and_eq_true_iff.mp z).2) l2)
          · have e' := l2.nil_iff.mp e
            subst e'
            rw [List.append_nil] at q
            exact q.done R (.tup (h1.weak fun z => (Bool.and_eq_true_iff.mp z).1) l1)
          · exact q _ _ _ (Ext.lay hp) (R.lay hp) (.tup .new ((l1.append l2).ext (Ext.lay hp)))
        · exact q.elim
  · rename_i k l
    cases r1 with
    | obj hk =>
      cases r2 with
      | obj hl =>
        split at q
        · rename_i xs ys hx hy
          split at q
          · rename_i hz
            obtain ⟨a', ha', vs, e, l1⟩ := R.at_ k _ hx
            rw [hk] at ha'; cases ha'
            obtain ⟨b', hb', ws, e2, l2⟩ := R.at_ l _ hy
            rw [hl] at hb'; cases hb'
            refine .inr (.inr (.inr ⟨_, _, _, _, rfl, rfl, e, e2, by rw [l1.len, l2.len]; exact hz, fun p hp => ?_⟩))
            refine q _ _ _ (Ext.put hp) (R.put hp ⟨_, upd_same, (l1.append l2).ext (Ext.put hp)⟩) (.obj ?_)
            rw [← R.len]
            simp
          · exact q.elim
        · exact q.elim
  · exact q.elim
end
section
variable {X : Cx} {W : WX} {e a b : Expr} {es : List Expr} {pos : Pos} {fa fb : FE} {fs : FL}
def fTup (fs : FL) : FE := fun env S => (fs env S).bind fun ds S => if ds.length ≤ sizeLine then .ok (.tup true ds) S else .st
def fLst (fs : FL) : FE := fun env S => (fs env S).bind fun ds S => if ds.length ≤ sizeLine then .ok (.obj S.length) (S ++ [.lst ds]) else .st
theorem de_tup {k : Nat} (h : DA X W es fs) : DE X W (.Tuple es k pos) (fTup fs) := by
  refine PE.imp (pe_tup h) fun σ H Q ⟨ρ, env, S, E, R, h⟩ => ?_
  refine ⟨ρ, env, S, E, R, Fin.mono h.bind fun x H1 ⟨ρ1, S1, ds, e1, R1, r1, h1⟩ => ?_⟩
  split at h1
  · rename_i hz
    exact ⟨by rw [r1.len]; exact hz, fun p hp => h1 _ _ _ (Ext.lay hp) (R1.lay hp) (.tup .new (r1.ext (Ext.lay hp)))⟩
  · exact h1.elim
theorem de_lst (h : DA X W es fs) : DE X W (.List es pos) (fLst fs) := by
  refine PE.imp (pe_lst h) fun σ H Q ⟨ρ, env, S, E, R, h⟩ => ?_
  refine ⟨ρ, env, S, E, R, Fin.mono h.bind fun x H1 ⟨ρ1, S1, ds, e1, R1, r1, h1⟩ => ?_⟩
  split at h1
  · rename_i hz
    refine ⟨by rw [r1.len]; exact hz, fun p hp => h1 _ _ _ (Ext.put hp) (R1.put hp ⟨_, upd_same, r1.ext (Ext.put hp)⟩) (.obj ?_)⟩
    rw [← R1.len]
    simp
  · exact h1.elim
def dIx (a b : D) (S : Sg) : Res D := match a, b with
  | .str z, .int i => if z.length ≤ sizeLine then match atI z.cps.toList i with
      | some n => .ok (.str ⟨#[n]⟩) S
      | none => .st
    else .st
  | a, b => match seqD S a with
    | some ds => match b with
      | .int i => match atI ds i with
        | some d => .ok d S
        | none => .st
      | _ => .st
    | none => match a with
      | .obj k => match getD? S k b with
        | some (some d) => .ok d S
        | _ => .st
      | _ => .st
theorem ix_dict (hu : X.A.units + 1 < cLine) : IxR X (fun x y H Q => ∃ a v, x = .ref a ∧ DGet H a y (some v) ∧ Q v H) := by
  intro value slice pins s σ H x y v u Q I rx ry h hs
  obtain ⟨a, w, rfl, g, q⟩ := h
  cases rx
  exact PyProof.Rows.tail_any (dict_typeIs I g) PySem.F.slot_dict_getitem.lookup (d_getItem hu I g ry fun w' s3 I3 rw' => ⟨w, H, I3, rw', q⟩) hs
def rIxG (K : PySem.W.Frag) : R2 := fun x y H Q => rIx K x y H Q ∨ ∃ a v, x = .ref a ∧ DGet H a y (some v) ∧ Q v H
theorem ix_G (hu : X.A.units + 1 < cLine) : IxR X (rIxG X.K) := IxR.or ix_seq (ix_dict hu)
theorem atI_RL {c : Cc} {ρ : List Addr} {H : Hp} {vs : List V} {ds : List D} {i : Int} {d : D} (r : RL c ρ H vs ds) (h : atI ds i = some d) : ∃ v, atI vs i = some v ∧ RD c ρ H v d := by
  unfold atI at h ⊢
  rw [r.len]
  cases e : ixN ds.length i with
  | none => rw [e] at h; cases h
  | some j =>
    rw [e] at h
    obtain ⟨v, h1, h2⟩ := r.get (show ds[j]? = some d from h)
    exact ⟨v, h1, h2⟩
theorem dIx_ok {c : Cc} : OpD c (rIxG c.K) dIx := by
  intro W σ ρ S H x y a b Q R r1 r2 q
  unfold dIx at q
  split at q
  · cases r1
    cases r2
    split at q
    · rename_i hz
      split at q
      · rename_i n hn
        exact .inl (.inr (.inr ⟨_, _, n, rfl, rfl, hz, hn, q.done R (.str _)⟩))
      · exact q.elim
    · exact q.elim
  · split at q
    · rename_i ds hds
      cases r2 with
      | int i =>
        dsimp only at q
        split at q
        · rename_i d hd
          obtain ⟨p, vs, rfl, hs, hl⟩ := seqD_ok R r1 hds
          obtain ⟨v, hv, rv⟩ := atI_RL hl hd
          rcases hs with hs | hs
          · exact .inl (.inl ⟨p, vs, i, v, rfl, rfl, hs, hv, q.done R rv⟩)
          · exact .inl (.inr (.inl ⟨p, vs, i, v, rfl, rfl, hs, hv, q.done R rv⟩))
        · exact q.elim
      | _ => exact q.elim
    · cases r1 with
      | @obj kk _ hk =>
        dsimp only at q
        cases e : getD? S kk b with
        | none => rw [e] at q; exact q.elim
        | some o =>
          rw [e] at q
          rcases getD?_ok R hk r2 e with ⟨rfl, _⟩ | ⟨z, v, rfl, h2, h3⟩
          · exact q.elim
          · exact .inr ⟨_, v, rfl, h2, q.done R h3⟩
      | _ => exact q.elim
def plainI : Expr → Bool
  | .Slice _ _ none _ => false
  | _ => true
theorem plainI_is (h : plainI b = true) : PlainIx b := by
  intro o i
  cases b with
  | Slice l u s p => cases s <;> first | rfl | exact absurd (show false = true from h) Bool.false_ne_true
  | _ => rfl
theorem de_ix (hu : X.A.units + 1 < cLine) (ha : DE X W a fa) (hb : DE X W b fb) (hs : plainI b = true) : DE X W (.Subscript a b pos) (fBin dIx fa fb) :=
  PE.imp (pe_ix (ix_G hu) ha hb (plainI_is hs)) fun _ _ _ h => can_bin dIx_ok h
def fO0 : FO := fun _ S => .ok none S
def fO1 (f : FE) : FO := fun env S => (f env S).bind fun d S => match d with
  | .int i => .ok (some i) S
  | _ => .st
theorem do_none : DO X W none fO0 := PO.imp po_none fun σ H Q ⟨ρ, env, S, E, R, h⟩ => h.done R rfl
theorem do_some (h : DE X W e fa) : DO X W (some e) (fO1 fa) := PO.imp (po_some h) fun σ H Q ⟨ρ, env, S, E, R, h⟩ => by
  refine ⟨ρ, env, S, E, R, Fin.mono h.bind fun x H1 ⟨ρ1, S1, d, e1, R1, r1, h1⟩ => ?_⟩
  cases r1 with
  | int i => exact ⟨i, rfl, h1.done R1 rfl⟩
  | _ => exact h1.elim
def cutD (xs : List D) (lo hi : Option Int) : List D := (xs.drop (HT.sIx xs.length 0 lo)).take (HT.sIx xs.length xs.length hi - HT.sIx xs.length 0 lo)
def lstD (S : Sg) : D → Option (List D)
  | .il ds => some ds
  | .obj k => match S[k]? with
    | some (.lst ds) => some ds
    | _ => none
  | _ => none
theorem lstD_ok {c : Cc} {ρ : List Addr} {S : Sg} {H : Hp} {v : V} {d : D} {ds : List D} (R : Rel c ρ S H) (r : RD c ρ H v d) (h : lstD S d = some ds) : ∃ p vs, v = .ref p ∧ SqL c.K H p vs ∧ RL c ρ H vs ds := by
  cases r with
  | il ht hl => cases h; exact ⟨_, _, rfl, ht.sq, hl⟩
  | @obj k a hk =>
    dsimp only [lstD] at h
    split at h
    · rename_i es hS
      cases h
      obtain ⟨a', ha', vs, e, q⟩ := R.at_ k _ hS
      rw [hk] at ha'; cases ha'
      exact ⟨_, _, rfl, .inl (.inl e), q⟩
    · cases h
  | _ => exact nomatch h
def newL (ds : List D) (S : Sg) : Res D := .ok (.obj S.length) (S ++ [.lst ds])
theorem newL_ok {c : Cc} {W : WX} {σ : L2.St} {ρ : List Addr} {S : Sg} {H : Hp} {vs : List V} {ds : List D} {p : Addr} {Q : VK} (R : Rel c ρ S H) (r : RL c ρ H vs ds) (hp : H p = none) (h : Fin c W σ ρ H (relD c) (newL ds S) Q) : Q (.ref p) (upd H p (.lst vs)) := by
  refine h _ _ _ (Ext.put hp) (R.put hp ⟨_, upd_same, r.ext (Ext.put hp)⟩) (.obj ?_)
  rw [← R.len]
  simp
def dCut (d : D) (lo hi : Option Int) (S : Sg) : Res D := match d with
  | .str z => if z.length ≤ sizeLine then .ok (.str (cutS z lo hi)) S else .st
  | .tup w ds => .ok (.tup w (cutD ds lo hi)) S
  | d => match lstD S d with
    | some ds => newL (cutD ds lo hi) S
    | none => .st
def fCut (f : FE) (l h : FO) : FE := fun env S => (f env S).bind fun d S => (l env S).bind fun lo S => (h env S).bind fun hi S => dCut d lo hi S
def rSlG (K : PySem.W.Frag) : V → Option Int → Option Int → Hp → VK → Prop := fun x lo hi H Q => rSlS x lo hi H Q ∨ rSlA K x lo hi H Q ∨ rSlL K x lo hi H Q
theorem sl_G : SlR X (rSlG X.K) := SlR.or sl_str (SlR.or sl_tupA sl_list)
theorem RL.cut {c : Cc} {ρ : List Addr} {H : Hp} {vs : List V} {ds : List D} {lo hi : Option Int} (r : RL c ρ H vs ds) : RL c ρ H (cutV vs lo hi) (cutD ds lo hi) := by
  unfold cutV cutD
  rw [r.len]
  exact (r.drop _).take _
theorem de_cut {p2 : Pos} {lo hi : Option Expr} {fl fh : FO} (he : DE X W e fa) (hl : DO X W lo fl) (hh : DO X W hi fh) : DE X W (.Subscript e (.Slice lo hi none p2) pos) (fCut fa fl fh) := by
  refine PE.imp (pe_slice sl_G he hl hh) fun σ H Q ⟨ρ, env, S, E, R, h⟩ => ?_
  refine ⟨ρ, env, S, E, R, Fin.mono h.bind fun x H1 ⟨ρ1, S1, d, e1, R1, r1, h1⟩ => ?_⟩
  refine ⟨ρ1, env, S1, E.ext e1, R1, Fin.mono h1.bind fun l H2 ⟨ρ2, S2, lo', e2, R2, r2, h2⟩ => ?_⟩
  refine ⟨ρ2, env, S2, E.ext (e1.trans e2), R2, Fin.mono h2.bind fun u H3 ⟨ρ3, S3, hi', e3, R3, r3, h3⟩ => ?_⟩
  cases r2
  cases r3
  have r1' := (r1.ext e2).ext e3
  have lst : ∀ ds, lstD S3 d = some ds → Fin X.cc W σ ρ3 H3 (relD X.cc) (newL (cutD ds l u) S3) Q → rSlG X.K x l u H3 Q := fun ds hds h => by
    obtain ⟨p, vs, rfl, hs, hl⟩ := lstD_ok R3 r1' hds
    exact .inr (.inr ⟨p, vs, rfl, hs, fun q hq => newL_ok R3 hl.cut hq h⟩)
  cases r1' with
  | str z =>
    dsimp only [dCut] at h3
    split at h3
    · rename_i hz
      exact .inl ⟨_, rfl, hz, h3.done R3 (.str _)⟩
    · exact h3.elim
  | @tup p vs w ds ht hl =>
    dsimp only [dCut] at h3
    refine .inr (.inl ⟨_, _, rfl, ht.2, fun hw => ?_, fun _ q hq => ?_⟩)
    · have e : cutD ds l u = ds := by
        unfold cutD
        rw [← hl.len, hw.1, hw.2, List.drop_zero, Nat.sub_zero, hl.len, List.take_length]
      rw [e] at h3
      exact h3.done R3 (.tup ht hl)
    · exact h3 _ _ _ (Ext.lay hq) (R3.lay hq) (.tup .new (hl.cut.ext (Ext.lay hq)))
  | _ =>
    dsimp only [dCut] at h3
    split at h3
    · rename_i ds hds
      exact lst ds hds h3
    · exact h3.elim
end
end G
namespace HT
open PySem PySem.Spec PyProof.Rows L2
section
variable {prog : Program} {w : World} {A : Around} {E : Value → Shared → Prop} {s : Shared}
end
end HT
namespace L2
open PySem PySem.Spec PyProof.Rows
variable {X : Cx}
end L2
namespace G
open PySem PySem.Spec L2
def CallD (c : Cc) (r : List V → Hp → VK → Prop) (o : List D → Sg → Res D) : Prop := ∀ (W : WX) (σ : L2.St) (ρ : List Addr) (S : Sg) (H : Hp) (vs : List V) (ds : List D) (Q : VK),
  Rel c ρ S H → RL c ρ H vs ds → Fin c W σ ρ H (relD c) (o ds S) Q → r vs H Q
def fCall (o : List D → Sg → Res D) (fs : FL) : FE := fun env S => (fs env S).bind o
section
variable {X : Cx} {W : WX} {e a b : Expr} {es : List Expr} {pos : Pos} {fa fb : FE} {fs : FL} {c : Cc} {x : Str} {p : Pos} {r : List V → Hp → VK → Prop} {o : List D → Sg → Res D}
theorem can_call {pn : List (Addr × Obj)} (ho : CallD c r o) {σ : L2.St} {H : Hp} {Q : VK} (h : canE c pn W (fCall o fs) σ H Q) : tCB r (canA c pn W fs) σ H Q := by
  obtain ⟨ρ, env, S, E, R, h⟩ := h
  refine ⟨ρ, env, S, E, R, Fin.mono h.bind fun x H1 ⟨ρ1, S1, a, e1, R1, r1, h1⟩ => ?_⟩
  exact ho W σ ρ1 S1 H1 x a Q R1 r1 h1
theorem de_callB {id : String} (hc : CallR X (.builtin id) r) (ho : CallD X.cc r o) (hg : Gl X x) (hm : X.mg x = none) (hv : bootBuiltins x = some (.builtin id)) (ha : DA X W (e :: es) fs) (hn : x ≠ "__name__") (hdb : (x == ("__debug__" : Str)) = false)
    (he : starEach (e :: es) X.env = (false, eval e X.env) :: starEach es X.env) (hpl : (backTo pos (starEach es X.env)).any (·.1) = false) : DE X W (.Call (.Name x p) (e :: es) [] pos) (fCall o fs) :=
  PE.imp (pe_callB hc hg hm hv ha hn hdb he hpl) fun _ _ _ h => can_call ho h
theorem de_callTy {T : String} (hc : CallR X (.type T) r) (ho : CallD X.cc r o) (hg : Gl X x) (hm : X.mg x = none) (hv : bootBuiltins x = some (.type T)) (ha : DA X W (e :: es) fs) (hn : x ≠ "__name__") (hdb : (x == ("__debug__" : Str)) = false)
    (he : starEach (e :: es) X.env = (false, eval e X.env) :: starEach es X.env) (hpl : (backTo pos (starEach es X.env)).any (·.1) = false) : DE X W (.Call (.Name x p) (e :: es) [] pos) (fCall o fs) :=
  PE.imp (pe_callTy hc hg hm hv ha hn hdb he hpl) fun _ _ _ h => can_call ho h
def lenD (S : Sg) (d : D) : Option Nat := match d with
  | .str z => if z.length ≤ sizeLine then some z.length else none
  | d => match seqD S d with
    | some ds => some ds.length
    | none => match d with
      | .obj k => match S[k]? with
        | some (.dK kvs) => some kvs.length
        | _ => none
      | _ => none
def oLen (ds : List D) (S : Sg) : Res D := match ds with
  | [d] => match lenD S d with
    | some n => .ok (.int n) S
    | none => .st
  | _ => .st
def rLenG (K : PySem.W.Frag) : List V → Hp → VK → Prop := fun xs H Q => (∃ x n, xs = [x] ∧ LenV K x H n ∧ Q (.int n) H) ∨ ∃ a kvs, xs = [.ref a] ∧ H a = some (.dK kvs) ∧ Q (.int kvs.length) H
theorem call_lenG : CallR X (.builtin "len") (rLenG X.K) := by
  refine CallR.or call_len ?_
  intro pins s σ H xs us Q I r h
  obtain ⟨a, kvs, rfl, h1, q⟩ := h
  obtain ⟨u, rfl, rx⟩ := vals1 r
  cases rx
  exact d_len I (.inl h1) fun t s3 I3 => ⟨.int kvs.length, H, I3, ⟨_, rfl⟩, q⟩
theorem lenD_ok {ρ : List Addr} {S : Sg} {H : Hp} {v : V} {d : D} {n : Nat} (R : Rel c ρ S H) (r : RD c ρ H v d) (h : lenD S d = some n) : LenV c.K v H n ∨ ∃ a kvs, v = .ref a ∧ H a = some (.dK kvs) ∧ n = kvs.length := by
  have sq : ∀ ds, seqD S d = some ds → n = ds.length → LenV c.K v H n := fun ds hds hn => by
    obtain ⟨p, vs, rfl, hs, hl⟩ := seqD_ok R r hds
    rcases hs with hs | hs
    · exact .inl ⟨vs, hs, by rw [hn, hl.len]⟩
    · exact .inr ⟨vs, hs, by rw [hn, hl.len]⟩
  cases r with
  | str z =>
    dsimp only [lenD] at h
    split at h
    · rename_i hz
      cases h
      exact .inl ⟨hz, rfl⟩
    · cases h
  | tup ht hl => cases h; exact .inl (sq _ rfl rfl)
  | il ht hl => cases h; exact .inl (sq _ rfl rfl)
  | @obj k a hk =>
    dsimp only [lenD] at h
    split at h
    · rename_i ds hds
      cases h
      exact .inl (sq _ hds rfl)
    · split at h
      · rename_i kvs hS
        cases h
        obtain ⟨a', ha', vs, e, q⟩ := R.at_ k _ hS
        rw [hk] at ha'; cases ha'
        exact .inr ⟨_, vs, rfl, e, q.len.symm⟩
      · cases h
  | _ => exact nomatch h
theorem oLen_ok : CallD c (rLenG c.K) oLen := by
  intro W σ ρ S H vs ds Q R r h
  unfold oLen at h
  split at h
  · cases r with
    | cons r1 r2 =>
      cases r2
      split at h
      · rename_i n hn
        rcases lenD_ok R r1 hn with h1 | ⟨a, kvs, rfl, h1, rfl⟩
        · exact .inl ⟨_, n, rfl, h1, h.done R (.int _)⟩
        · exact .inr ⟨a, kvs, rfl, h1, h.done R (.int _)⟩
      · exact h.elim
  · exact h.elim
def oInt (ds : List D) (S : Sg) : Res D := match ds with
  | [.int i] => .ok (.int i) S
  | [.bl k] => .ok (.int (if k = true then 1 else 0)) S
  | [.str a] => if a.length ≤ 640 then match PySem.intText? a with
      | some n => .ok (.int n) S
      | none => .st
    else .st
  | _ => .st
def rIntG : List V → Hp → VK → Prop := fun xs H Q => ((∃ i, xs = [.int i] ∧ Q (.int i) H) ∨ ∃ k, xs = [.bl k] ∧ Q (.int (if k then 1 else 0)) H) ∨ ∃ a n, xs = [.str a] ∧ PySem.intText? a = some n ∧ a.length ≤ 640 ∧ Q (.int n) H
theorem call_intG : CallR X (.type "int") rIntG := CallR.or call_int1 call_int_str
theorem oInt_ok : CallD c rIntG oInt := by
  intro W σ ρ S H vs ds Q R r h
  unfold oInt at h
  split at h
  · cases r with | cons r1 r2 => cases r2; cases r1; exact .inl (.inl ⟨_, rfl, h.done R (.int _)⟩)
  · cases r with | cons r1 r2 => cases r2; cases r1; exact .inl (.inr ⟨_, rfl, h.done R (.int _)⟩)
  · cases r with
    | cons r1 r2 =>
      cases r2; cases r1
      split at h
      · rename_i hz
        split at h
        · rename_i n hn
          exact .inr ⟨_, n, rfl, hn, hz, h.done R (.int _)⟩
        · exact h.elim
      · exact h.elim
  · exact h.elim
def oAbs (ds : List D) (S : Sg) : Res D := match ds with
  | [.int i] => .ok (.int (if i < 0 then -i else i)) S
  | _ => .st
theorem oAbs_ok : CallD c (fun xs H Q => ∃ i, xs = [.int i] ∧ Q (.int (if i < 0 then -i else i)) H) oAbs := by
  intro W σ ρ S H vs ds Q R r h
  unfold oAbs at h
  split at h
  · cases r with | cons r1 r2 => cases r2; cases r1; exact ⟨_, rfl, h.done R (.int _)⟩
  · exact h.elim
def blsD : List D → Option (List Bool)
  | [] => some []
  | .bl b :: ds => (blsD ds).map (b :: ·)
  | _ :: _ => none
theorem blsD_ok {ρ : List Addr} {H : Hp} : ∀ {vs : List V} {ds : List D} {bs : List Bool}, RL c ρ H vs ds → blsD ds = some bs → vs = bs.map V.bl
  | _, _, _, .nil, h => by cases h; rfl
  | _, _, _, .cons (.bl b) r, h => by
    simp only [blsD, Option.map_eq_some_iff] at h
    obtain ⟨bs', h1, rfl⟩ := h
    rw [blsD_ok r h1]
    rfl
  | _, _, _, .cons .non r, h => nomatch h
  | _, _, _, .cons (.int _) r, h => nomatch h
  | _, _, _, .cons (.str _) r, h => nomatch h
  | _, _, _, .cons (.tup _ _) r, h => nomatch h
  | _, _, _, .cons (.il _ _) r, h => nomatch h
  | _, _, _, .cons (.obj _) r, h => nomatch h
  | _, _, _, .cons (.fn _) r, h => nomatch h
  | _, _, _, .cons (.ty _) r, h => nomatch h
  | _, _, _, .cons (.kd _ _) r, h => nomatch h
def oAll (ds : List D) (S : Sg) : Res D := match ds with
  | [d] => match (lstD S d).bind blsD with
    | some bs => .ok (.bl (bs.all id)) S
    | none => .st
  | _ => .st
theorem oAll_ok : CallD c (rAll c.K) oAll := by
  intro W σ ρ S H vs ds Q R r h
  unfold oAll at h
  split at h
  · cases r with
    | cons r1 r2 =>
      cases r2
      split at h
      · rename_i d _ bs hb
        obtain ⟨es, he, hb⟩ := Option.bind_eq_some_iff.mp hb
        obtain ⟨p, vs, rfl, hs, hl⟩ := lstD_ok R r1 he
        rw [blsD_ok hl hb] at hs
        exact ⟨p, bs, rfl, hs, h.done R (.bl _)⟩
      · exact h.elim
  · exact h.elim
def oTuple (ds : List D) (S : Sg) : Res D := match ds with
  | [.tup w es] => .ok (.tup w es) S
  | [d] => match lstD S d with
    | some es => .ok (.tup true es) S
    | none => .st
  | _ => .st
theorem oTuple_ok : CallD c (fun xs H Q => ∃ p ys, xs = [.ref p] ∧ ((SqL c.K H p ys ∧ ∀ l, H l = none → Q (.ref l) (upd H l (.tup ys))) ∨ (SqT c.K H p ys ∧ Q (.ref p) H))) oTuple := by
  intro W σ ρ S H vs ds Q R r h
  unfold oTuple at h
  split at h
  · cases r with
    | cons r1 r2 =>
      cases r2
      cases r1 with
      | tup ht hl => exact ⟨_, _, rfl, .inr ⟨ht.2, h.done R (.tup ht hl)⟩⟩
  · cases r with
    | cons r1 r2 =>
      cases r2
      split at h
      · rename_i es he
        obtain ⟨p, vs, rfl, hs, hl⟩ := lstD_ok R r1 he
        exact ⟨p, vs, rfl, .inl ⟨hs, fun l hn => h _ _ _ (Ext.lay hn) (R.lay hn) (.tup .new (hl.ext (Ext.lay hn)))⟩⟩
      · exact h.elim
  · exact h.elim
def oMin (ds : List D) (S : Sg) : Res D := match ds with
  | [.int i, .int j] => .ok (.int (if j < i then j else i)) S
  | _ => .st
theorem oMin_ok : CallD c (fun xs H Q => ∃ i j, xs = [.int i, .int j] ∧ Q (.int (if j < i then j else i)) H) oMin := by
  intro W σ ρ S H vs ds Q R r h
  unfold oMin at h
  split at h
  · cases r with | cons r1 r2 => cases r2 with | cons r2 r3 => cases r3; cases r1; cases r2; exact ⟨_, _, rfl, h.done R (.int _)⟩
  · exact h.elim
def tyD (S : Sg) : D → Option String
  | .non => some "NoneType"
  | .bl _ => some "bool"
  | .int _ => some "int"
  | .str _ => some "str"
  | .tup _ _ => some "tuple"
  | .il _ => some "list"
  | .obj k => match S[k]? with
    | some (.lst _) => some "list"
    | some (.dK _) => some "dict"
    | some (.dT _) => some "dict"
    | _ => none
  | _ => none
theorem tyD_ok {ρ : List Addr} {S : Sg} {H : Hp} {v : V} {d : D} {n : String} (R : Rel c ρ S H) (r : RD c ρ H v d) (h : tyD S d = some n) : TyX c.K H v (.type n) := by
  cases r with
  | non => cases h; exact .base .non
  | bl b => cases h; exact .base (.bl _)
  | int b => cases h; exact .base (.int _)
  | str b => cases h; exact .base (.str _)
  | tup ht hl =>
    cases h
    rcases ht.2 with (q | ⟨o, q⟩) | ⟨o, its, n, h1, h2, _⟩
    · exact .base (.tup q)
    · exact .fTuple q
    · exact .kTuple h1 h2
  | il ht hl =>
    cases h
    rcases ht with ⟨q, _⟩ | ⟨o, q⟩ | ⟨o, its, n, h1, h2, _⟩
    · exact .base (.lst q)
    · exact .base (.frz q)
    · exact .kList h1 h2
  | @obj k a hk =>
    dsimp only [tyD] at h
    split at h
    · rename_i ds hS
      cases h
      obtain ⟨a', ha', vs, e, q⟩ := R.at_ k _ hS
      rw [hk] at ha'; cases ha'
      exact .base (.lst e)
    · rename_i ds hS
      cases h
      obtain ⟨a', ha', vs, e, q⟩ := R.at_ k _ hS
      rw [hk] at ha'; cases ha'
      exact .base (.dK e)
    · rename_i ds hS
      cases h
      obtain ⟨a', ha', vs, e, q⟩ := R.at_ k _ hS
      rw [hk] at ha'; cases ha'
      exact .base (.dT e)
    · cases h
  | _ => exact nomatch h
def subTy (a b : String) : Bool := a == b || (a == "bool" && b == "int")
def knownTy : List String := ["NoneType", "bool", "int", "str", "tuple", "list", "dict"]
theorem kit_sub {K : PySem.W.Frag} {a b : String} (ha : a ∈ knownTy) (hb : b ∈ ["bool", "int", "str", "tuple", "list", "dict"]) : PySem.W.kitOne K (.type a) (.type b) = some (subTy a b) := by
  refine kit_ty ?_
  have all : ∀ a ∈ knownTy, ∀ b ∈ ["bool", "int", "str", "tuple", "list", "dict"], kitB a b = some (subTy a b) := by decide +kernel
  exact all a ha b hb
theorem tyD_known {S : Sg} {d : D} {n : String} (h : tyD S d = some n) : n ∈ knownTy := by
  cases d with
  | obj k =>
    dsimp only [tyD] at h
    split at h <;> first | (cases h; decide) | cases h
  | _ => first | (cases h; decide) | cases h
def oIsi (ds : List D) (S : Sg) : Res D := match ds with
  | [d, .ty b] => if b ∈ ["bool", "int", "str", "tuple", "list", "dict"] then match tyD S d with
      | some a => .ok (.bl (subTy a b)) S
      | none => .st
    else .st
  | _ => .st
theorem oIsi_ok : CallD c (rIsi c.K) oIsi := by
  intro W σ ρ S H vs ds Q R r h
  unfold oIsi at h
  split at h
  · cases r with
    | cons r1 r2 =>
      cases r2 with
      | cons r2 r3 =>
        cases r3; cases r2
        split at h
        · rename_i hb
          split at h
          · rename_i a ha
            exact ⟨_, _, _, _, _, rfl, .ty _, tyD_ok R r1 ha, kit_sub (tyD_known ha) hb, h.done R (.bl _)⟩
          · exact h.elim
        · exact h.elim
  · exact h.elim
end
end G
namespace PySem
open Sem (wp)
open AutoSeq1 (wpAny_loadPart')
set_option maxHeartbeats 1000000 in
theorem meets_enumerate_newB1 {v : Value} {o : Obj} {H : Heap → Prop} (B : Begins v o H) :
    Meets (Builtin.«enumerate.__new__» ⟨[.type "enumerate", v], []⟩) (fun _ R s => H s.heap ∧
      R (.ok (.ret (.ref (s.heap.push o).objs.size))) { s with heap := (s.heap.push o).push { cls := .type "enumerate", data := .fields #[.none, .bool false, .ref s.heap.objs.size, rawInt 0, .none, .none] } }) :=
  .of_wp fun prog w A R s h => by
    obtain ⟨hp, g, d, tk, os⟩ := s; obtain ⟨h1, h⟩ := h
    have hsub := sub_enumerate
    have q1 : ∀ {A' : Around} {E : Value → Shared → Prop} {Q : Value → Shared → Prop}, Q (.ref hp.objs.size) ⟨hp.push o, g, d, tk, os⟩ → wpAny (model prog w) A' (pyIter v) Q E ⟨hp, g, d, tk, os⟩ :=
      fun q => B.iter prog w _ _ ⟨hp, g, d, tk, os⟩ _ h1 q
    wp_walk using q1
    refine wpAny_stack_any fun st => wpAny_pure ?_
    split
    · rename_i c _ _ _ _ _
      cases (c == Value.type "enumerate")
      · wp_walk using q1
        exact ⟨_, rfl, h⟩
      · wp_walk using q1
        exact ⟨_, rfl, h⟩
    · wp_walk using q1
      exact ⟨_, rfl, h⟩
section
variable {prog : Program} {w : World} {A : Around} {E : Value → Shared → Prop} {s : Shared}
theorem call_enumB {v : Value} {o : Obj} {H : Heap → Prop} {Q : Value → Shared → Prop} (B : Begins v o H) (h1 : H s.heap)
    (h : ∀ h', IsEnum h' (s.heap.objs.size + 1) s.heap.objs.size 0 .none → h'.get? s.heap.objs.size = some o → h'.objs.size = s.heap.objs.size + 2 →
      (∀ b o, s.heap.get? b = some o → h'.get? b = some o) → Q (.ref (s.heap.objs.size + 1)) { s with heap := h' }) :
    wpAny (model prog w) A (call (.type "enumerate") [v]) Q E s := by
  refine callType_new F.called_enumerate (by decide) (F.typeCall_enumerate_1 _) (F.newCall_enumerate_1 _) (fun obj => F.args_object_init_2 obj _) F.entry_enumerate_new
    (meets_enumerate_newB1 B) ⟨h1, ?_⟩
  have hz : (s.heap.push o).objs.size = s.heap.objs.size + 1 := Heap.size_push ..
  show _ ∧ _
  rw [hz]
  have he : IsEnum ((s.heap.push o).push { cls := .type "enumerate", data := .fields #[.none, .bool false, .ref s.heap.objs.size, rawInt 0, .none, .none] }) (s.heap.objs.size + 1) s.heap.objs.size 0 .none := by
    have := Heap.get?_push_size (s.heap.push o) (o := { cls := .type "enumerate", data := .fields #[.none, .bool false, .ref s.heap.objs.size, rawInt 0, .none, .none] }) rfl
    rw [hz] at this; exact this
  refine ⟨⟨_, he, rfl⟩, h _ he (Heap.get?_push_of_some _ (Heap.get?_push_size _ B.free)) (by rw [Heap.size_push, hz]) fun b o x => Heap.get?_push_of_some _ (Heap.get?_push_of_some _ x)⟩
end
end PySem
namespace L2
open PySem PySem.Spec PyProof.Rows
def IteT (K : PySem.W.Frag) (a : Addr) : It :=
  ⟨fun i H => ∃ (xs : List V) (x : V), SqT K H a xs ∧ xs[i]? = some x, fun i H v H' => ∃ T x, v = .ref T ∧ H T = none ∧ H' = upd H T (.tup [.int (i : Nat), x]) ∧ ∀ xs, SqT K H a xs → xs[i]? = some x, fun i H => ∃ xs : List V, SqT K H a xs ∧ xs.length = i⟩
theorem isTuple_of {h : Heap} {a : Addr} {its : Array Value} (p : IsTup h a its) : h.IsTuple a its := p
theorem turn_enumT {P : Program} {w : World} {K : PySem.W.Frag} {elts : List Expr} {kk : Nat} {tpos : Pos} (a e it : Addr) (hai : a ≠ it) (hae : e ≠ a) :
    Turn P w K (.Tuple elts kk tpos) (IteT K a) [e, it] e (fun i h => (∃ old, IsEnum h e it ((i : Nat) : Int) old) ∧ h.IsTupleIter it a i ∧ e ≠ it) where
  mem := by simp
  obj := fun i h st b hb => by
    obtain ⟨⟨old, he⟩, ⟨o, ho, hc, hd⟩, _⟩ := st
    have e' : b = e ∨ b = it := by simpa using hb
    rcases e' with z | z
    · rw [z]; exact ⟨_, he, fun v q => nomatch q⟩
    · rw [z]; exact ⟨o, ho, fun v q => by rw [hd] at q; cases q⟩
  keep := fun i h h' st k => let ⟨⟨old, he⟩, hi, hne⟩ := st; ⟨⟨old, k e (by simp) _ he⟩, hi.at fun o q => k it (by simp) o q, hne⟩
  item := by
    intro X hP hw hK hc i pins s σ H E I hf st hg
    subst hP hw hK
    obtain ⟨⟨old, he⟩, hit, hne⟩ := st
    obtain ⟨xs, x, hq, hx⟩ := hg
    obtain ⟨its, rv, p, hz⟩ := I.tuple hq
    obtain ⟨u, hu, ru⟩ := rv.get hx
    have hel : e < s.heap.objs.size := Heap.lt_size he
    have hil : it < s.heap.objs.size := by obtain ⟨_, q, _⟩ := hit; exact Heap.lt_size q
    refine wpAny_pyNext_enum_itemD (Draws.tuple (A := X.A.in1) (I.ok.hd hc) it a hai its.toArray) he ⟨hit, isTuple_of p⟩ (by
      have := (List.getElem?_eq_some_iff.mp hu).1
      simpa using this) hne (by simp [hne, hae]) fun x' h' tk hx' ho hst hT hsz hk => ?_
    have hxu : x' = u := by
      have h1 : its.toArray[i]? = some x' := hx'
      simp only [List.getElem?_toArray] at h1
      rw [hu] at h1
      exact (Option.some.inj h1).symm
    subst hxu
    obtain ⟨hit', hpt⟩ := hst
    refine ⟨_, rfl, wpAny_letOwnedTupleGo_enum (s := { s with heap := h', toks := tk + 1 }) ho fun h'' he' sb => ?_⟩
    have hT2 : h''.get? s.heap.objs.size = some { cls := .type "tuple", data := .seq #[.int i tk, x'] } := (sb.2 _ (Nat.ne_of_gt hel)).trans hT
    have new : ObjOk X.prog X.w (upd H s.heap.objs.size (.tup [.int (i : Nat), x])) h'' s.heap.objs.size (.tup [.int (i : Nat), x]) :=
      ⟨by show 2 ≤ sizeLine; decide, [.int i tk, x'], .cons ⟨_, rfl⟩ (.cons ru .nil), ⟨_, hT2, rfl, _, rfl⟩⟩
    have I1 : Inv X pins σ (upd H s.heap.objs.size (.tup [.int (i : Nat), x])) { s with heap := h'', toks := tk + 1 } :=
      I.turnedNew (ch := [e, it]) (fun b ob hb q => (sb.2 b (fun z => hb (by simp [z]))).trans (hk b ob (fun z => hb (by simp [z])) (fun z => hb (by simp [z])) q)) hf (Nat.le_refl _) new
    refine ⟨.ref s.heap.objs.size, _, I1, rfl, ⟨_, x, rfl, I.hok.fresh (Nat.le_refl _), rfl, fun ys hy => by rw [I.tuple_inj hy hq]; exact hx⟩, ⟨⟨x', ?_⟩, hit'.at fun o q => (sb.2 it (Ne.symm hne)).trans q, hne⟩, fun b hb => ?_⟩
    · have e1 : ((i + 1 : Nat) : Int) = (i : Int) + 1 := by omega
      rw [e1]; exact he'
    · have hb' : b < s.heap.objs.size := by
        have e' : b = e ∨ b = it := by simpa using hb
        rcases e' with z | z
        · rw [z]; exact hel
        · rw [z]; exact hil
      rw [upd_ne (Nat.ne_of_lt hb')]
      exact (hf b hb).1
  done := by
    intro X hP hw hK hc i pins s σ H E I hf st hg
    subst hP hw hK
    obtain ⟨⟨old, he⟩, hit, hne⟩ := st
    obtain ⟨xs, hq, hx⟩ := hg
    obtain ⟨its, rv, p, hz⟩ := I.tuple hq
    obtain ⟨f0, f1, f2, f3, f4, f5⟩ := hf it (by simp)
    have hl := rv.length
    have hsz : its.toArray.size = i := by rw [List.size_toArray, ← hl]; exact hx
    exact wpAny_pyNext_enum_endD (Draws.tuple (A := X.A.in1) (I.ok.hd hc) it a hai its.toArray) he ⟨by rw [hsz]; exact hit, isTuple_of p⟩ fun h' eb => ⟨rfl, I.turned (t' := s.toks) (fun b o hb q => eb b o hb q) f0 f1 f3 f4 f5⟩
  self := fun A i s Q E st h => let ⟨⟨_, he⟩, _⟩ := st; wpAny_pyIter_enum he h
def iEnumT (K : PySem.W.Frag) (ta : TA) : TI := fun σ H R => ta σ H fun vs H1 => ∃ a xs, vs = [.ref a] ∧ ((SqL K H1 a xs ∧ R (Ite K a) H1) ∨ (SqT K H1 a xs ∧ R (IteT K a) H1))
theorem pi_enumT {X : Cx} {e : Expr} {ta : TA} {p pos tpos : Pos} {elts : List Expr} {kk : Nat} (hg : Gl X "enumerate") (hm : X.mg "enumerate" = none) (ha : PA X [e] ta) (hs : starEach [e] X.env = [(false, eval e X.env)]) :
    PI X (.Tuple elts kk tpos) (.Call (.Name "enumerate" p) [e] [] pos) (iEnumT X.K ta) := by
  refine ⟨fun pins s σ H R I h => ?_⟩
  refine Call_ (ld_blt I hg hm boot_enumerate (PyProof.Rows.callWith_type1 (thn (ha.run pos pins s σ H _ I h) fun us s1 ⟨vs, H1, I1, r1, q1⟩ => ?_) hs rfl))
  obtain ⟨a, xs, ex, hq⟩ := q1
  subst ex
  cases r1 with
  | cons r rr =>
    cases rr
    cases r
    rcases hq with ⟨hq, q⟩ | ⟨hq, q⟩
    · obtain ⟨its, rv, p', hz⟩ := I1.list hq
      refine call_enumerate_list p'.isList fun h' he hit hsz hk => wpAny_pyIter_enum he ?_
      have I2 : Inv X pins σ H1 { s1 with heap := h' } := I1.kept (t' := s1.toks) hk
      refine ⟨s1.heap.objs.size + 1, [s1.heap.objs.size + 1, s1.heap.objs.size], _, _, H1, rfl, I2, turn_enum a (s1.heap.objs.size + 1) s1.heap.objs.size, ⟨⟨.none, he⟩, hit, Nat.succ_ne_self _⟩, fun b hb => ?_, q⟩
      have e' : b = s1.heap.objs.size + 1 ∨ b = s1.heap.objs.size := by simpa using hb
      have hle : s1.heap.objs.size ≤ b := by
        rcases e' with z | z
        · rw [z]; exact Nat.le_add_right _ _
        · rw [z]; exact Nat.le_refl _
      exact I1.fpOk hle (I1.hok.fresh hle)
    · obtain ⟨its, rv, p', hz⟩ := I1.tuple hq
      have hal : a < s1.heap.objs.size := p'.lt
      refine call_enumB (begins_tuple a its.toArray) (isTuple_of p') fun h' he hit hsz hk => wpAny_pyIter_enum he ?_
      have I2 : Inv X pins σ H1 { s1 with heap := h' } := I1.kept (t' := s1.toks) hk
      refine ⟨s1.heap.objs.size + 1, [s1.heap.objs.size + 1, s1.heap.objs.size], _, _, H1, rfl, I2, turn_enumT a (s1.heap.objs.size + 1) s1.heap.objs.size (Nat.ne_of_lt hal) (Nat.ne_of_gt (Nat.lt_succ_of_lt hal)), ⟨⟨.none, he⟩, ⟨_, hit, rfl, rfl⟩, Nat.succ_ne_self _⟩, fun b hb => ?_, q⟩
      have e' : b = s1.heap.objs.size + 1 ∨ b = s1.heap.objs.size := by simpa using hb
      have hle : s1.heap.objs.size ≤ b := by
        rcases e' with z | z
        · rw [z]; exact Nat.le_add_right _ _
        · rw [z]; exact Nat.le_refl _
      exact I1.fpOk hle (I1.hok.fresh hle)
end L2
namespace G
open PySem PySem.Spec L2
def tyM (S : Sg) : D → Option String
  | .str _ => some "str"
  | .il _ => some "list"
  | .obj k => match S[k]? with
    | some (.lst _) => some "list"
    | some (.dK _) => some "dict"
    | some (.dT _) => some "dict"
    | _ => none
  | _ => none
theorem tyM_ok {c : Cc} {ρ : List Addr} {S : Sg} {H : Hp} {v : V} {d : D} {T : String} (R : Rel c ρ S H) (r : RD c ρ H v d) (h : tyM S d = some T) : tyV c.K T v H := by
  cases r with
  | str z => cases h; exact rfl
  | il ht hl => cases h; exact .inl ⟨rfl, _, ht.sq⟩
  | @obj k a hk =>
    dsimp only [tyM] at h
    split at h
    · rename_i ds hS
      cases h
      obtain ⟨a', ha', vs, e, q⟩ := R.at_ k _ hS
      rw [hk] at ha'; cases ha'
      exact .inl ⟨rfl, _, .inl (.inl e)⟩
    · rename_i ds hS
      cases h
      obtain ⟨a', ha', vs, e, q⟩ := R.at_ k _ hS
      rw [hk] at ha'; cases ha'
      exact .inr (.inr (.inl ⟨rfl, .inl ⟨_, e⟩⟩))
    · rename_i ds hS
      cases h
      obtain ⟨a', ha', vs, e, q⟩ := R.at_ k _ hS
      rw [hk] at ha'; cases ha'
      exact .inr (.inr (.inl ⟨rfl, .inr ⟨_, e⟩⟩))
    · cases h
  | _ => exact nomatch h
def MthD (c : Cc) (r : V → List V → Hp → VK → Prop) (o : D → List D → Sg → Res D) : Prop := ∀ (W : WX) (σ : L2.St) (ρ : List Addr) (S : Sg) (H : Hp) (x : V) (d : D) (vs : List V) (ds : List D) (Q : VK),
  Rel c ρ S H → RD c ρ H x d → RL c ρ H vs ds → Fin c W σ ρ H (relD c) (o d ds S) Q → r x vs H Q
def fMth (T : String) (o : D → List D → Sg → Res D) (fa : FE) (fs : FL) : FE := fun env S => (fa env S).bind fun d S => if tyM S d = some T then (fs env S).bind fun ds S => o d ds S else .st
section
variable {X : Cx} {W : WX} {e a b : Expr} {es : List Expr} {pos apos : Pos} {fa fb : FE} {fs : FL} {c : Cc} {r : V → List V → Hp → VK → Prop} {o : D → List D → Sg → Res D} {T id : String} {name : Str}
theorem de_mth (pa : PlainAttrs T) (slot : Slot T name id) (hty : typeOf (.builtin id) = pure (.type "method_descriptor")) (hm : MtR X id r) (ho : MthD X.cc r o) (ha : DE X W a fa) (hs : DA X W (e :: es) fs)
    (hbase : attributeBase a name X.env (eval a X.env) = eval a X.env)
    (hfew : ((backTo pos (starEach (e :: es) X.env)).all (fun x => !x.1) && (backToKw pos (keywordEach [] X.env)).all (fun x => x.1.isSome)
      && decide ((e :: es).length + ([] : List Keyword).length + (if ([] : List Keyword).isEmpty then 0 else 1) < 30)) = true)
    (hline : (apos.endLine == pos.line) = true) (hse : starEach (e :: es) X.env = (false, eval e X.env) :: starEach es X.env) (hplain : (backTo pos (starEach es X.env)).any (·.1) = false) :
    DE X W (.Call (.Attribute a name apos) (e :: es) [] pos) (fMth T o fa fs) := by
  refine PE.imp (pe_bm pa slot hty hm ha hs hbase hfew hline hse hplain) fun σ H Q ⟨ρ, env, S, E, R, h⟩ => ?_
  refine ⟨ρ, env, S, E, R, Fin.mono h.bind fun x H1 ⟨ρ1, S1, d, e1, R1, r1, h1⟩ => ?_⟩
  split at h1
  · rename_i hT
    refine ⟨tyM_ok R1 r1 hT, ρ1, env, S1, E.ext e1, R1, Fin.mono h1.bind fun y H2 ⟨ρ2, S2, ds, e2, R2, r2, h2⟩ => ?_⟩
    exact ho W σ ρ2 S2 H2 x d y ds Q R2 (r1.ext e2) r2 h2
  · exact h1.elim
theorem lst_at {ρ : List Addr} {S : Sg} {H : Hp} {k : Nat} {a : Addr} {ds : List D} (R : Rel c ρ S H) (hk : ρ[k]? = some a) (h : S[k]? = some (.lst ds)) : ∃ vs, H a = some (.lst vs) ∧ RL c ρ H vs ds := by
  obtain ⟨a', ha', vs, e, q⟩ := R.at_ k _ h
  rw [hk] at ha'; cases ha'
  exact ⟨vs, e, q⟩
theorem setL_ok {ρ : List Addr} {S : Sg} {H : Hp} {σ : L2.St} {k : Nat} {a : Addr} {vs : List V} {ds : List D} {v : V} {d : D} {Q : VK} (R : Rel c ρ S H) (hk : ρ[k]? = some a) (r : RL c ρ H vs ds) (rv : RD c ρ H v d)
    (h : Fin c W σ ρ H (relD c) (.ok d (S.set k (.lst ds))) Q) : Q v (upd H a (.lst vs)) := by
  have e := Ext.set (o := .lst vs) R (List.mem_of_getElem? hk)
  exact h _ _ _ e (R.set hk ⟨vs, upd_same, r.ext e⟩) (rv.ext e)
def oAppend (d : D) (ds : List D) (S : Sg) : Res D := match d, ds with
  | .obj k, [y] => match S[k]? with
    | some (.lst xs) => if xs.length < sizeLine then .ok .non (S.set k (.lst (xs ++ [y]))) else .st
    | _ => .st
  | _, _ => .st
theorem oAppend_ok : MthD c rAppend oAppend := by
  intro W σ ρ S H x d vs ds Q R r1 r2 h
  unfold oAppend at h
  split at h
  · cases r1 with
    | obj hk =>
      cases r2 with
      | cons ry r2 =>
        cases r2
        split at h
        · rename_i xs hS
          split at h
          · rename_i hz
            obtain ⟨vs, e, q⟩ := lst_at R hk hS
            exact ⟨_, vs, _, rfl, rfl, e, by rw [q.len]; exact hz, setL_ok R hk (q.append (.cons ry .nil)) .non h⟩
          · exact h.elim
        · exact h.elim
  · exact h.elim
def oGet (d : D) (ds : List D) (S : Sg) : Res D := match d, ds with
  | .obj k, [y] => match getD? S k y with
    | some o => .ok (o.getD .non) S
    | none => .st
  | .obj k, [y, z] => match getD? S k y with
    | some o => .ok (o.getD z) S
    | none => .st
  | _, _ => .st
theorem mt_dget (hu : X.A.units + 1 < cLine) : MtR X "dict.get" (fun x xs H Q => (∃ a y o, x = .ref a ∧ xs = [y] ∧ DGet H a y o ∧ Q (o.getD .non) H) ∨ ∃ a y z o, x = .ref a ∧ xs = [y, z] ∧ DGet H a y o ∧ Q (o.getD z) H) := by
  intro pins s σ H x xs v us Q I rx rs h
  rcases h with ⟨a, y, o, rfl, rfl, g, q⟩ | ⟨a, y, z, o, rfl, rfl, g, q⟩
  · cases rx
    obtain ⟨u, rfl, ru⟩ := rs.one
    exact d_get1 hu I g ru fun w' s3 I3 rw' => ⟨_, H, I3, rw', q⟩
  · cases rx
    obtain ⟨u, u2, rfl, ru, ru2⟩ := rs.two
    exact d_get2 hu I g ru ru2 fun w' s3 I3 rw' => ⟨_, H, I3, rw', q⟩
theorem oGet_ok : MthD c (fun x xs H Q => (∃ a y o, x = .ref a ∧ xs = [y] ∧ DGet H a y o ∧ Q (o.getD .non) H) ∨ ∃ a y z o, x = .ref a ∧ xs = [y, z] ∧ DGet H a y o ∧ Q (o.getD z) H) oGet := by
  intro W σ ρ S H x d vs ds Q R r1 r2 h
  unfold oGet at h
  split at h
  · cases r1 with
    | obj hk =>
      cases r2 with
      | cons ry r2 =>
        cases r2
        split at h
        · rename_i o ho
          rcases getD?_ok R hk ry ho with ⟨rfl, g⟩ | ⟨z, v, rfl, g, rz⟩
          · exact .inl ⟨_, _, none, rfl, rfl, g, h.done R .non⟩
          · exact .inl ⟨_, _, some v, rfl, rfl, g, h.done R rz⟩
        · exact h.elim
  · cases r1 with
    | obj hk =>
      cases r2 with
      | cons ry r2 =>
        cases r2 with
        | cons rx r2 =>
          cases r2
          split at h
          · rename_i o ho
            rcases getD?_ok R hk ry ho with ⟨rfl, g⟩ | ⟨z, v, rfl, g, rz⟩
            · exact .inr ⟨_, _, _, none, rfl, rfl, g, h.done R rx⟩
            · exact .inr ⟨_, _, _, some v, rfl, rfl, g, h.done R rz⟩
          · exact h.elim
  · exact h.elim
end
def SR.andThen (r : SR) (k : FS) : SR := match r with
  | .nx env S => k env S
  | r => r
def FinS (c : Cc) (pn : List (Addr × Obj)) (W : WX) (ρ : List Addr) (H : Hp) (r : SR) (D : Ends) : Prop := match r with
  | .nx env S => ∀ ρ' σ' H', Ext ρ H ρ' H' → Rel c ρ' S H' → RelEnv c pn ρ' H' σ' env → D.nx σ' H'
  | .rt d S => ∀ ρ' H' v, Ext ρ H ρ' H' → Rel c ρ' S H' → RD c ρ' H' v d → D.rt v H'
  | .bk env S => ∀ ρ' σ' H', Ext ρ H ρ' H' → Rel c ρ' S H' → RelEnv c pn ρ' H' σ' env → D.bk σ' H'
  | .ct env S => ∀ ρ' σ' H', Ext ρ H ρ' H' → Rel c ρ' S H' → RelEnv c pn ρ' H' σ' env → D.ct σ' H'
  | .er n env S => ∀ ρ' σ' H' C, Ext ρ H ρ' H' → Rel c ρ' S H' → RelEnv c pn ρ' H' σ' env → c.mg n = some (.ref C) → W (.ref C) none σ' H'
  | .st => False
section
variable {c : Cc} {pn : List (Addr × Obj)} {W : WX} {σ : L2.St} {ρ ρ' : List Addr} {S : Sg} {H H' : Hp} {env : Env} {D D' : Ends}
theorem FinS.ext {r : SR} (e : Ext ρ H ρ' H') (h : FinS c pn W ρ H r D) : FinS c pn W ρ' H' r D := by
  cases r with
  | nx env S => exact fun ρ2 σ2 H2 e2 R E => h ρ2 σ2 H2 (e.trans e2) R E
  | rt d S => exact fun ρ2 H2 v e2 R q => h ρ2 H2 v (e.trans e2) R q
  | bk env S => exact fun ρ2 σ2 H2 e2 R E => h ρ2 σ2 H2 (e.trans e2) R E
  | ct env S => exact fun ρ2 σ2 H2 e2 R E => h ρ2 σ2 H2 (e.trans e2) R E
  | er n env S => exact fun ρ2 σ2 H2 C e2 R E => h ρ2 σ2 H2 C (e.trans e2) R E
  | st => exact h
theorem FinS.done (h : FinS c pn W ρ H (.nx env S) D) (R : Rel c ρ S H) (E : RelEnv c pn ρ H σ env) : D.nx σ H := h ρ σ H .refl R E
theorem FinS.bind {α β : Type} {rel : List Addr → Hp → β → α → Prop} {r : Res α} {k : α → Sg → SR} (E : RelEnv c pn ρ H σ env) (h : FinS c pn W ρ H (r.s env k) D) :
    Fin c W σ ρ H rel r fun x H1 => ∃ ρ1 S1 a, Ext ρ H ρ1 H1 ∧ Rel c ρ1 S1 H1 ∧ rel ρ1 H1 x a ∧ FinS c pn W ρ1 H1 (k a S1) D := by
  cases r with
  | ok a S => exact fun ρ1 H1 v e R q => ⟨ρ1, S, a, e, R, q, FinS.ext e h⟩
  | er n S => exact fun ρ1 H1 C e R q => h ρ1 σ H1 C e R (E.ext e) q
  | st => exact h
theorem FinS.mono {r : SR} (h : FinS c pn W ρ H r D) (k1 : ∀ σ H, D.nx σ H → D'.nx σ H) (k2 : ∀ v H, D.rt v H → D'.rt v H) (k3 : ∀ σ H, D.bk σ H → D'.bk σ H) (k4 : ∀ σ H, D.ct σ H → D'.ct σ H) : FinS c pn W ρ H r D' := by
  cases r with
  | nx env S => exact fun ρ2 σ2 H2 e2 R E => k1 _ _ (h ρ2 σ2 H2 e2 R E)
  | rt d S => exact fun ρ2 H2 v e2 R q => k2 _ _ (h ρ2 H2 v e2 R q)
  | bk env S => exact fun ρ2 σ2 H2 e2 R E => k3 _ _ (h ρ2 σ2 H2 e2 R E)
  | ct env S => exact fun ρ2 σ2 H2 e2 R E => k4 _ _ (h ρ2 σ2 H2 e2 R E)
  | er n env S => exact h
  | st => exact h
end
def canS (c : Cc) (pn : List (Addr × Obj)) (W : WX) (g : FS) : TS := fun D σ H => ∃ ρ env S, RelEnv c pn ρ H σ env ∧ Rel c ρ S H ∧ FinS c pn W ρ H (g env S) D
def DS (X : Cx) (W : WX) (st : Stmt) (g : FS) : Prop := PS X st (canS X.cc X.pn W g)
def DSs (X : Cx) (W : WX) (st : List Stmt) (g : FS) : Prop := PSs X st (canS X.cc X.pn W g)
section
variable {X : Cx} {W : WX} {st : Stmt} {sts : List Stmt}
theorem PS.imp {t t' : TS} (h : PS X st t) (k : ∀ D σ H, t' D σ H → t D σ H) : PS X st t' := ⟨fun pins s σ H D I q => h.run pins s σ H D I (k D σ H q)⟩
theorem PSs.imp {t t' : TS} (h : PSs X sts t) (k : ∀ D σ H, t' D σ H → t D σ H) : PSs X sts t' := ⟨fun pins s σ H D I q => h.run pins s σ H D I (k D σ H q)⟩
end
section
variable {X : Cx} {W : WX} {st : Stmt} {rest : List Stmt} {e a b : Expr} {pos pos' : Pos} {fa fb : FE} {fs : FL} {g g2 : FS} {t : FT} {x : Str} {i : Nat}
def sNil : FS := fun env S => .nx env S
def sSeq (g g2 : FS) : FS := fun env S => (g env S).andThen g2
theorem dss_nil : DSs X W [] sNil := PSs.imp pss_nil fun D σ H ⟨ρ, env, S, E, R, h⟩ => h.done R E
theorem dss_cons (h1 : DS X W st g) (h2 : DSs X W rest g2) : DSs X W (st :: rest) (sSeq g g2) := by
  refine PSs.imp (pss_cons h1 h2) fun D σ H ⟨ρ, env, S, E, R, h⟩ => ⟨ρ, env, S, E, R, ?_⟩
  unfold sSeq at h
  cases r : g env S with
  | nx env' S' =>
    rw [r] at h
    exact fun ρ' σ' H' e' R' E' => ⟨ρ', env', S', E', R', FinS.ext e' h⟩
  | _ => rw [r] at h; exact h
def sRet (fa : FE) : FS := fun env S => (fa env S).s env fun d S => .rt d S
theorem ds_ret (h : DE X W e fa) : DS X W (.Return (some e) pos) (sRet fa) := by
  refine PS.imp (ps_ret h) fun D σ H ⟨ρ, env, S, E, R, h⟩ => ⟨ρ, env, S, E, R, Fin.mono (h.bind E) fun x H1 ⟨ρ1, S1, a, e1, R1, r1, h1⟩ => ?_⟩
  exact h1 _ _ _ .refl R1 r1
def sDrop (fa : FE) : FS := fun env S => (fa env S).s env fun _ S => .nx env S
theorem ds_expr (h : DE X W e fa) (hs : swapsWith e none pos.line X.env = pure false) : DS X W (.Expr e pos) (sDrop fa) := by
  refine PS.imp (ps_expr h hs) fun D σ H ⟨ρ, env, S, E, R, h⟩ => ⟨ρ, env, S, E, R, Fin.mono (h.bind E) fun x H1 ⟨ρ1, S1, a, e1, R1, r1, h1⟩ => ?_⟩
  exact h1.done R1 (E.ext e1)
def sIf (t : FT) (g g2 : FS) : FS := fun env S => (t env S).s env fun b S => if b = true then g env S else g2 env S
theorem ds_if {p q : List Stmt} (hc : DT X W e t) (ha : DSs X W p g) (hb : DSs X W q g2) : DS X W (.If e p q pos) (sIf t g g2) := by
  refine PS.imp (ps_if hc ha hb) fun D σ H ⟨ρ, env, S, E, R, h⟩ => ⟨ρ, env, S, E, R, Fin.mono (h.bind E) fun x H1 ⟨ρ1, S1, a, e1, R1, r1, h1⟩ => ?_⟩
  cases r1
  cases x with
  | true =>
    rw [if_pos rfl] at h1 ⊢
    exact ⟨ρ1, env, S1, E.ext e1, R1, h1⟩
  | false =>
    rw [if_neg Bool.false_ne_true] at h1 ⊢
    exact ⟨ρ1, env, S1, E.ext e1, R1, h1⟩
def canG (c : Cc) (pn : List (Addr × Obj)) (f : FG) : TG := fun v σ H Q => ∃ ρ env d env', RelEnv c pn ρ H σ env ∧ RD c ρ H v d ∧ f d env = some env' ∧ ∀ σ', RelEnv c pn ρ H σ' env' → Q σ' H
def DG (X : Cx) (tg : Expr) (f : FG) : Prop := PG X tg (canG X.cc X.pn f)
theorem PG.imp {tg : Expr} {t t' : TG} (h : PG X tg t) (k : ∀ v σ H Q, t' v σ H Q → t v σ H Q) : PG X tg t' := ⟨fun pins s σ H v u Q I r q => h.run pins s σ H v u Q I r (k v σ H Q q)⟩
theorem dg_name (hN : X.N.Nodup) (hi : X.N[i]? = some x) (hx : Loc X.env.scope x) (hf : X.fn x = true ∨ X.env.scope.names.lookup x = some .local) : DG X (.Name x pos) (gNm i) := by
  refine PG.imp (pg_name hN hi hx hf) fun v σ H Q ⟨ρ, env, d, env', E, r, h, k⟩ => ?_
  cases h
  exact k _ (E.set i r)
inductive NmTs (X : Cx) : List Expr → List Nat → Prop
  | nil : NmTs X [] []
  | cons {x : Str} {p : Pos} {i : Nat} {es : List Expr} {is : List Nat} (hi : X.N[i]? = some x) (hx : Loc X.env.scope x) (hf : X.fn x = true ∨ X.env.scope.names.lookup x = some .local) (t : NmTs X es is) : NmTs X (.Name x p :: es) (i :: is)
theorem pgs_names (hN : X.N.Nodup) : ∀ {es : List Expr} {is : List Nat}, NmTs X es is → PGs X es (tNms is)
  | _, _, .nil => pgs_nil
  | _, _, .cons hi hx hf t => pgs_cons (pg_name hN hi hx hf) (pgs_names hN t) rfl
theorem NmTs.plain : ∀ {es : List Expr} {is : List Nat}, NmTs X es is → (assignEach es X.env).length = is.length ∧ (assignEach es X.env).findIdx? (·.1) = none
  | _, _, .nil => ⟨rfl, rfl⟩
  | _, _, .cons (x := x) (p := p) (es := es) hi hx hf t => by
    obtain ⟨h1, h2⟩ := NmTs.plain t
    have e : assignEach (Expr.Name x p :: es) X.env = (false, assign (.Name x p) X.env) :: assignEach es X.env := rfl
    rw [e]
    refine ⟨by simp [h1], ?_⟩
    rw [List.findIdx?_cons]
    simp [h2]
theorem tNms_ok {c : Cc} {pn : List (Addr × Obj)} {ρ : List Addr} {H : Hp} {Q : L2.St → Hp → Prop} : ∀ {is : List Nat} {vs : List V} {ds : List D} {σ : L2.St} {env env' : Env}, RelEnv c pn ρ H σ env → RL c ρ H vs ds → gNms is ds env = some env' →
    (∀ σ', RelEnv c pn ρ H σ' env' → Q σ' H) → tNms is vs σ H Q
  | [], _, _, _, _, _, E, .nil, h, k => by cases h; exact ⟨rfl, k _ E⟩
  | i :: is, _, _, _, _, _, E, .cons h1 h2, h, k => ⟨_, _, rfl, tNms_ok (E.set i h1) h2 h k⟩
  | [], _, _, _, _, _, E, .cons _ _, h, k => nomatch h
  | _ :: _, _, _, _, _, _, E, .nil, h, k => nomatch h
theorem dg_tup {es : List Expr} {is : List Nat} {k : Nat} (hc : X.calm = true) (hN : X.N.Nodup) (h : NmTs X es is) : DG X (.Tuple es k pos) (gTupN is) := by
  obtain ⟨h1, h2⟩ := h.plain
  refine PG.imp (pg_tup (n := is.length) hc (pgs_names hN h) h1 h2) fun v σ H Q ⟨ρ, env, d, env', E, r, h, k⟩ => ?_
  cases r with
  | @tup p vs w ds ht hl =>
    exact ⟨p, vs, rfl, ht.2, by rw [hl.len, gNms_len h], tNms_ok E hl h fun σ' E' => k σ' E'⟩
  | _ => cases h
def sAsg (fa : FE) (f : FG) : FS := fun env S => (fa env S).s env fun d S => match f d env with
  | some env' => .nx env' S
  | none => .st
theorem can_asg {te : TE} {tg : TG} {f : FG} (he : ∀ σ H Q, canE X.cc X.pn W fa σ H Q → te σ H Q) (hg : ∀ v σ H Q, canG X.cc X.pn f v σ H Q → tg v σ H Q) {D : Ends} {σ : L2.St} {H : Hp} (h : canS X.cc X.pn W (sAsg fa f) D σ H) : tAsg te tg D σ H := by
  obtain ⟨ρ, env, S, E, R, h⟩ := h
  refine he _ _ _ ⟨ρ, env, S, E, R, Fin.mono (h.bind E) fun x H1 ⟨ρ1, S1, a, e1, R1, r1, h1⟩ => ?_⟩
  split at h1
  · rename_i env' hf
    exact hg _ _ _ _ ⟨ρ1, env, a, env', E.ext e1, r1, hf, fun σ' E' => h1 ρ1 σ' H1 .refl R1 E'⟩
  · exact h1.elim
theorem ds_set (hN : X.N.Nodup) (hi : X.N[i]? = some x) (hx : Loc X.env.scope x) (he : DE X W e fa) (hs : swapsWith e (some (.Name x pos')) pos.line X.env = pure false) (hf : X.fn x = true ∨ X.env.scope.names.lookup x = some .local) :
    DS X W (.Assign [.Name x pos'] e pos) (sAsg fa (gNm i)) :=
  PS.imp (ps_set hN hi hx he hs hf) fun D σ H h => can_asg (fun _ _ _ q => q) (fun v σ H Q ⟨ρ, env, d, env', E, r, h, k⟩ => by
    cases h
    exact k _ (E.set i r)) h
theorem ds_asg {tg : Expr} {f : FG} (he : DE X W e fa) (hg : DG X tg f) (hs : swapsWithSole [tg] e pos.line X.env = pure false) (hw : swappedStores [tg] e X.env = pure none) (h1 : (assignEach [tg] X.env).map (·.2) = [assign tg X.env]) :
    DS X W (.Assign [tg] e pos) (sAsg fa f) :=
  PS.imp (ps_asg he hg hs hw h1) fun D σ H h => can_asg (fun _ _ _ q => q) (fun _ _ _ _ q => q) h
def sPar (is : List Nat) (fs : FL) : FS := fun env S => (fs env S).s env fun ds S => match gNms is ds env with
  | some env' => .nx env' S
  | none => .st
theorem ds_par {i j : Nat} {x y : Str} {px py pt : Pos} {kt k2 : Nat} {pt2 : Pos} (hc : X.calm = true) (hN : X.N.Nodup) (hi : X.N[i]? = some x) (hj : X.N[j]? = some y) (hij : i ≠ j)
    (hx : X.env.scope.names.lookup x = some .local) (hy : X.env.scope.names.lookup y = some .local) (ha : DA X W [a, b] fs)
    (hw : swappedStores [.Tuple [.Name x px, .Name y py] kt pt] (.Tuple [a, b] k2 pt2) X.env = pure (some [x, y]))
    (hs : swapsWithSole [.Tuple [.Name x px, .Name y py] kt pt] (.Tuple [a, b] k2 pt2) pos.line X.env = pure false) :
    DS X W (.Assign [.Tuple [.Name x px, .Name y py] kt pt] (.Tuple [a, b] k2 pt2) pos) (sPar [i, j] fs) := by
  refine PS.imp (ps_par hc hN hi hj hij hx hy ha hw hs) fun D σ H ⟨ρ, env, S, E, R, h⟩ => ⟨ρ, env, S, E, R, Fin.mono (h.bind E) fun vs H1 ⟨ρ1, S1, ds, e1, R1, r1, h1⟩ => ?_⟩
  split at h1
  · rename_i env' he
    cases r1 with
    | nil => cases he
    | cons q1 r1 =>
      cases r1 with
      | nil => cases he
      | cons q2 r1 =>
        cases r1 with
        | nil =>
          cases he
          exact ⟨_, _, rfl, h1 ρ1 _ H1 .refl R1 (((E.ext e1).set i q1).set j q2)⟩
        | cons _ _ => cases he
  · exact h1.elim
def setIx (o i d : D) (S : Sg) : Option Sg := match o with
  | .obj k => match S[k]? with
    | some (.lst ds) => match i with
      | .int z => (ixN ds.length z).map fun j => S.set k (.lst (ds.set j d))
      | _ => none
    | some (.dK kvs) => if kvs.length < sizeLine then (keyD i).map fun z => S.set k (.dK (putD kvs z d)) else none
    | some (.dT kvs) => match i with
      | .tup true ds => if kvs.length < sizeLine then (keysD ds).map fun z => S.set k (.dT (putD kvs z d)) else none
      | _ => none
    | _ => none
  | _ => none
def rSetG : TSet := fun o i v H Q => rSetL o i v H Q ∨ ∃ a H4, o = .ref a ∧ DPut H a i v H4 ∧ Q H4
theorem set_G (hu : X.A.units + 1 < cLine) : PSet X rSetG := by
  intro pins s σ H o i v ov iv u Q I ro ri rv h
  rcases h with h | ⟨a, H4, rfl, g, q⟩
  · exact set_list pins s σ H o i v ov iv u Q I ro ri rv h
  · cases ro
    exact d_setItem hu I g ri rv fun s3 I3 => ⟨H4, I3, q⟩
theorem setIx_ok {c : Cc} {ρ : List Addr} {S S' : Sg} {H : Hp} {o i v : V} {dO dI d : D} {Q : Hp → Prop} (R : Rel c ρ S H) (ro : RD c ρ H o dO) (ri : RD c ρ H i dI) (rv : RD c ρ H v d) (h : setIx dO dI d S = some S')
    (k : ∀ H', Ext ρ H ρ H' → Rel c ρ S' H' → Q H') : rSetG o i v H Q := by
  cases ro with
  | @obj kk a hk =>
    dsimp only [setIx] at h
    split at h
    · rename_i ds hS
      cases ri with
      | int z =>
        dsimp only at h
        obtain ⟨j, hj, h⟩ := Option.map_eq_some_iff.mp h
        subst h
        obtain ⟨vs, e, q⟩ := lst_at R hk hS
        have ee := Ext.set (o := .lst (vs.set j v)) R (List.mem_of_getElem? hk)
        exact .inl ⟨_, vs, z, j, rfl, rfl, e, by rw [q.len]; exact hj, k _ ee (R.set hk ⟨_, upd_same, (RL.set rv j q).ext ee⟩)⟩
      | _ => cases h
    · rename_i kvs hS
      split at h
      · rename_i hz
        obtain ⟨z, hz2, h⟩ := Option.map_eq_some_iff.mp h
        subst h
        obtain ⟨a', ha', vs, e, q⟩ := R.at_ kk _ hS
        rw [hk] at ha'; cases ha'
        have hi := keyD_ok ri hz2
        subst hi
        have ee := Ext.set (o := .dK (putK vs z v)) R (List.mem_of_getElem? hk)
        exact .inr ⟨_, _, rfl, DPut.k e (by rw [q.len]; exact hz), k _ ee (R.set hk ⟨_, upd_same, (q.put z rv).ext ee⟩)⟩
      · cases h
    · rename_i kvs hS
      split at h
      · rename_i ds
        split at h
        · rename_i hz
          obtain ⟨z, hz2, h⟩ := Option.map_eq_some_iff.mp h
          subst h
          obtain ⟨a', ha', vs, e, q⟩ := R.at_ kk _ hS
          rw [hk] at ha'; cases ha'
          cases ri with
          | tup ht hl =>
            have hi := keysD_ok hl hz2
            subst hi
            have ee := Ext.set (o := .dT (putK vs z v)) R (List.mem_of_getElem? hk)
            exact .inr ⟨_, _, rfl, DPut.t e (ht.1 rfl) (by rw [q.len]; exact hz), k _ ee (R.set hk ⟨_, upd_same, (q.put z rv).ext ee⟩)⟩
        · cases h
      · cases h
    · cases h
  | _ => cases h
def sSetIx (fo fi fv : FE) : FS := fun env S => (fv env S).s env fun d S => (fo env S).s env fun o S => (fi env S).s env fun i S => match setIx o i d S with
  | some S' => .nx env S'
  | none => .st
theorem ds_setIx {o i : Expr} {fo fi fv : FE} (hu : X.A.units + 1 < cLine) (ho : DE X W o fo) (hi : DE X W i fi) (hv : DE X W e fv) (hs : swapsWithSole [.Subscript o i pos'] e pos.line X.env = pure false)
    (hw : swappedStores [.Subscript o i pos'] e X.env = pure none)
    (ha : ∀ v, assign (.Subscript o i pos') X.env v = (do
      let ov ← holding [v] (eval o X.env)
      let iv ← holding [v, ov] (eval i X.env)
      standAt pos'
      holding [v, ov, iv] (setItem ov iv v)
      release [v, ov, iv] [])) : DS X W (.Assign [.Subscript o i pos'] e pos) (sSetIx fo fi fv) := by
  refine PS.imp (ps_asg hv (pg_sub ho hi (set_G hu) ha) hs hw rfl) fun D σ H ⟨ρ, env, S, E, R, h⟩ => ⟨ρ, env, S, E, R, Fin.mono (h.bind E) fun x H1 ⟨ρ1, S1, d, e1, R1, r1, h1⟩ => ?_⟩
  have E1 := E.ext e1
  refine ⟨ρ1, env, S1, E1, R1, Fin.mono (h1.bind E1) fun y H2 ⟨ρ2, S2, o', e2, R2, r2, h2⟩ => ?_⟩
  have E2 := E1.ext e2
  refine ⟨ρ2, env, S2, E2, R2, Fin.mono (h2.bind E2) fun z H3 ⟨ρ3, S3, i', e3, R3, r3, h3⟩ => ?_⟩
  split at h3
  · rename_i S' hS
    exact setIx_ok R3 (r2.ext e3) r3 ((r1.ext e2).ext e3) hS fun H' ee R' => h3 ρ3 _ H' ee R' ((E2.ext e3).ext ee)
  · exact h3.elim
def sAug (i : Nat) (o : D → D → Sg → Res D) (fa : FE) : FS := fun env S => match env[i]? with
  | some (some (.v x)) => (fa env S).s env fun y S => (o x y S).s env fun z S => .nx (env.set i (some (.v z))) S
  | _ => .st
theorem ds_aug {op : Operator} {r : R2} {o : D → D → Sg → Res D} (hN : X.N.Nodup) (hi : X.N[i]? = some x) (hx : Loc X.env.scope x) (he : DE X W e fa) (hr : PIp X op r) (ho : OpD X.cc r o) (hf : X.fn x = true ∨ X.env.scope.names.lookup x = some .local) :
    DS X W (.AugAssign (.Name x pos') op e pos) (sAug i o fa) := by
  refine PS.imp (ps_aug hN hi hx he hr hf) fun D σ H ⟨ρ, env, S, E, R, h⟩ => ?_
  unfold sAug at h
  split at h
  · rename_i d hd
    obtain ⟨v, hv, rv⟩ := E.v i d hd
    refine ⟨v, hv, ρ, env, S, E, R, Fin.mono (h.bind E) fun y H1 ⟨ρ1, S1, a, e1, R1, r1, h1⟩ => ?_⟩
    refine ho W σ ρ1 S1 H1 v y d a _ R1 (rv.ext e1) r1 (Fin.mono (FinS.bind (E.ext e1) h1) fun z H2 ⟨ρ2, S2, d2, e2, R2, r2, h2⟩ => ?_)
    exact h2 ρ2 _ H2 .refl R2 (((E.ext e1).ext e2).set i r2)
  · exact h.elim
def rIAddG : R2 := fun x y H Q => rI0 (fun i j => .int (i + j)) x y H Q ∨ (∃ i j, x = .str i ∧ y = .str j ∧ i.length + j.length ≤ sizeLine ∧ Q (.str (i ++ j)) H)
theorem iop_addG : PIp X .Add rIAddG := fun pins s σ H x y v u Q I rx ry h => OpR.or iop_add iop_add_str pins s σ H x y v u Q I rx ry h
def dIAdd (a b : D) (S : Sg) : Res D := match a, b with
  | .int i, .int j => .ok (.int (i + j)) S
  | .str x, .str y => if x.length + y.length ≤ sizeLine then .ok (.str (x ++ y)) S else .st
  | _, _ => .st
theorem dIAdd_ok {c : Cc} : OpD c rIAddG dIAdd := by
  intro W σ ρ S H x y a b Q R r1 r2 q
  unfold dIAdd at q
  split at q
  · cases r1; cases r2
    exact .inl ⟨_, _, rfl, rfl, q.done R (.int _)⟩
  · cases r1; cases r2
    split at q
    · rename_i hz
      exact .inr ⟨_, _, rfl, rfl, hz, q.done R (.str _)⟩
    · exact q.elim
  · exact q.elim
end
structure ExcK (K : PySem.W.Frag) (mg : Str → Option Value) (x : Str) : Prop where
  ex : ∃ C, mg x = some (.ref C) ∧ PySem.W.excIn K C [.type "ValueError", .type "Exception", .type "BaseException", .type "object"] "ValueError.__new__" = true ∧ PySem.W.keepIn K (.ref C) = true ∧ PySem.W.subIn K (.ref C) (.type "BaseException") = some true ∧ PySem.W.typeIn K (.ref C) = some (.type "type")
def sRaise (x : Str) : FS := fun env S => .er x env S
section
variable {X : Cx} {W : WX} {x m : Str} {pos p p2 pos' : Pos} {j : Nat}
theorem ds_raise (hc : X.calm = true) (tk : Takes X W) (hx : ExcK X.K X.mg x) (hg : Gl X x) (hdb : (x == ("__debug__" : Str)) = false) :
    DS X W (.Raise (some (.Call (.Name x p) [.Constant (.str m) j p2] [] pos')) none pos) (sRaise x) := by
  obtain ⟨C, h1, h2, h3, h4, h5⟩ := hx.ex
  refine PS.imp (ps_raise hc tk (pmk_own PySem.F.excBase_ValueError h2 h1 h3 (raises_own h4 h5) hg hdb)) fun D σ H ⟨ρ, env, S, E, R, h⟩ => ?_
  exact h ρ σ H C .refl R E h1
end
def sLoop (t : FT) (g : FS) : Nat → FS
  | 0 => fun _ _ => .st
  | n + 1 => fun env S => (t env S).s env fun b S => if b = true then match g env S with
      | .nx env S => sLoop t g n env S
      | .ct env S => sLoop t g n env S
      | .bk env S => .nx env S
      | r => r
    else .nx env S
def mostTurns : Nat := 100000
def sWhile (t : FT) (g : FS) : FS := sLoop t g mostTurns
section
variable {X : Cx} {W : WX} {e : Expr} {body : List Stmt} {pos : Pos} {t : FT} {g : FS}
theorem ds_while (hp : PassesOwn (model X.prog X.w) X.A X.env X.xe) (hc : DT X W e t) (hb : DSs X W body g) : DS X W (.While e body [] pos) (sWhile t g) := by
  refine PS.imp (ps_while hp hc hb) fun D σ H ⟨ρ, env, S, E, R, h⟩ => ?_
  refine ⟨fun m σ H => ∃ ρ env S, RelEnv X.cc X.pn ρ H σ env ∧ Rel X.cc ρ S H ∧ FinS X.cc X.pn W ρ H (sLoop t g m env S) D, ⟨mostTurns, ρ, env, S, E, R, h⟩, ?_⟩
  rintro m σ H ⟨ρ, env, S, E, R, h⟩
  cases m with
  | zero => exact h.elim
  | succ m =>
    refine ⟨ρ, env, S, E, R, Fin.mono (FinS.bind E h) fun b H1 ⟨ρ1, S1, b', e1, R1, r1, h1⟩ => ?_⟩
    cases r1
    cases b with
    | false =>
      rw [if_neg Bool.false_ne_true] at h1 ⊢
      exact h1.done R1 (E.ext e1)
    | true =>
      rw [if_pos rfl] at h1 ⊢
      refine ⟨fun σ H => ∃ ρ env S, RelEnv X.cc X.pn ρ H σ env ∧ Rel X.cc ρ S H ∧ FinS X.cc X.pn W ρ H (sLoop t g m env S) D, fun σ' H' q => ⟨m, Nat.lt_succ_self m, q⟩, ρ1, env, S1, E.ext e1, R1, ?_⟩
      cases r : g env S1 with
      | nx env' S' => rw [r] at h1; exact fun ρ' σ' H' e' R' E' => ⟨ρ', env', S', E', R', FinS.ext e' h1⟩
      | ct env' S' => rw [r] at h1; exact fun ρ' σ' H' e' R' E' => ⟨ρ', env', S', E', R', FinS.ext e' h1⟩
      | bk env' S' => rw [r] at h1; exact h1
      | rt d S' => rw [r] at h1; exact h1
      | er n env' S' => rw [r] at h1; exact h1
      | st => rw [r] at h1; exact h1
end
def IsItems (c : Cc) (ρ : List Addr) (H : Hp) (J : It) (I : Items) : Prop :=
  ∀ ρ' S' H' (i : Nat), Ext ρ H ρ' H' → Rel c ρ' S' H' → I.ok S' →
    (i = I.ds.length → J.stop i H') ∧ (∀ d, I.ds[i]? = some d → J.go i H' ∧ ∀ x H2, J.yld i H' x H2 → Ext ρ' H' ρ' H2 ∧ Rel c ρ' S' H2 ∧ RD c ρ' H2 x d)
def canI (c : Cc) (pn : List (Addr × Obj)) (W : WX) (f : FI) : TI := fun σ H R => ∃ ρ env S, RelEnv c pn ρ H σ env ∧ Rel c ρ S H ∧ Fin c W σ ρ H (fun ρ H J I => IsItems c ρ H J I) (f env S) R
def DI (X : Cx) (W : WX) (tg it : Expr) (f : FI) : Prop := PI X tg it (canI X.cc X.pn W f)
theorem PI.imp {X : Cx} {tg it : Expr} {t t' : TI} (h : PI X tg it t) (k : ∀ σ H R, t' σ H R → t σ H R) : PI X tg it t' := ⟨fun pins s σ H R I q => h.run pins s σ H R I (k σ H R q)⟩
def still (d : D) (ds : List D) : Sg → Prop := match d with
  | .obj k => fun S => S[k]? = some (.lst ds)
  | _ => fun _ => True
def iSeq (d : D) (S : Sg) : Res Items := match d with
  | .tup _ ds => .ok ⟨ds, fun _ => True⟩ S
  | .str z => .ok ⟨z.cps.toList.map fun n => .str ⟨#[n]⟩, fun _ => True⟩ S
  | d => match lstD S d with
    | some ds => .ok ⟨ds, still d ds⟩ S
    | none => .st
def fSeq (fa : FE) : FI := fun env S => (fa env S).bind iSeq
section
variable {X : Cx} {W : WX} {e tg : Expr} {es : List Expr} {pos p : Pos} {fa : FE} {fs : FL}
theorem lst_still {S S' : Sg} {d : D} {ds : List D} (h : lstD S d = some ds) (ok : still d ds S') : lstD S' d = some ds := by
  cases d with
  | il es => exact h
  | obj k =>
    have : S'[k]? = some (.lst ds) := ok
    simp only [lstD, this]
  | _ => cases h
theorem items_list {c : Cc} {ρ : List Addr} {S : Sg} {H : Hp} {p : Addr} {vs : List V} {d : D} {ds : List D} (R : Rel c ρ S H) (r : RD c ρ H (.ref p) d) (h : lstD S d = some ds) : IsItems c ρ H (Itl c.K p) ⟨ds, still d ds⟩ := by
  intro ρ' S' H' i e R' ok
  have hd := lst_still h ok
  obtain ⟨q, ws, eq, hs, hl⟩ := lstD_ok R' (r.ext e) hd
  cases eq
  refine ⟨fun hi => ⟨ws, hs, by rw [hl.len, hi]; exact Nat.le_refl _⟩, fun x hx => ?_⟩
  obtain ⟨v, hv, rv⟩ := hl.get hx
  refine ⟨⟨ws, v, hs, hv⟩, fun y H2 hy => ?_⟩
  obtain ⟨rfl, hy⟩ := hy
  have := hy ws hs
  rw [hv] at this
  cases this
  exact ⟨.refl, R', rv⟩
theorem items_tup {c : Cc} {ρ : List Addr} {H : Hp} {p : Addr} {vs : List V} {w : Bool} {ds : List D} (ht : TupAt c.K H p vs w) (hl : RL c ρ H vs ds) : IsItems c ρ H (Itt c.K p) ⟨ds, fun _ => True⟩ := by
  intro ρ' S' H' i e R' ok
  have hs := e.sqT ht.2
  have hl' := hl.ext e
  refine ⟨fun hi => ⟨vs, hs, by rw [hl.len, hi]; exact Nat.le_refl _⟩, fun x hx => ?_⟩
  obtain ⟨v, hv, rv⟩ := hl'.get hx
  refine ⟨⟨vs, v, hs, hv⟩, fun y H2 hy => ?_⟩
  obtain ⟨rfl, hy⟩ := hy
  have := hy vs hs
  rw [hv] at this
  cases this
  exact ⟨.refl, R', rv⟩
theorem items_str {c : Cc} {ρ : List Addr} {H : Hp} {z : Str} : IsItems c ρ H (Its z) ⟨z.cps.toList.map fun n => .str ⟨#[n]⟩, fun _ => True⟩ := by
  intro ρ' S' H' i e R' ok
  refine ⟨fun hi => ?_, fun x hx => ?_⟩
  · have : i = z.cps.size := by simpa using hi
    exact Nat.le_of_eq this.symm
  · have hx' : (z.cps.toList.map fun n => D.str ⟨#[n]⟩)[i]? = some x := hx
    rw [List.getElem?_map] at hx'
    obtain ⟨n, hn, rfl⟩ := Option.map_eq_some_iff.mp hx'
    have hn' : z.cps[i]? = some n := by simpa using hn
    have hi : i < z.cps.size := (Array.getElem?_eq_some_iff.mp hn').1
    refine ⟨hi, fun y H2 hy => ?_⟩
    obtain ⟨rfl, m, hm, rfl⟩ := hy
    rw [hn'] at hm
    cases hm
    exact ⟨.refl, R', .str _⟩
def iSeqR (K : PySem.W.Frag) (te : TE) : TI := fun σ H R => te σ H fun x H1 => (∃ a xs, x = .ref a ∧ SqL K H1 a xs ∧ R (Itl K a) H1) ∨ (∃ a xs, x = .ref a ∧ SqT K H1 a xs ∧ R (Itt K a) H1) ∨ ∃ z, x = .str z ∧ R (Its z) H1
theorem pi_seq {te : TE} (he : PE X e te) : PI X tg e (iSeqR X.K te) := by
  refine ⟨fun pins s σ H R I h => ?_⟩
  refine thn (he.run pins s σ H _ I h) fun v s1 ⟨x, H1, I1, r1, q1⟩ => ?_
  rcases q1 with ⟨a, xs, rfl, hq, q⟩ | ⟨a, xs, rfl, hq, q⟩ | ⟨z, rfl, q⟩
  · cases r1
    obtain ⟨its, rv, p, hz⟩ := I1.list hq
    refine wpAny_pyIter_list p.isList ?_
    refine ⟨s1.heap.objs.size, [s1.heap.objs.size], _, _, H1, rfl, I1.kept (t' := s1.toks) fun b o e => Heap.get?_push_of_some _ e, turn_list a _, ⟨_, Heap.get?_push_size _ rfl, rfl, rfl⟩, fun b hb => ?_, q⟩
    have e : b = s1.heap.objs.size := by simpa using hb
    subst e
    exact I1.fpOk (Nat.le_refl _) (I1.hok.fresh (Nat.le_refl _))
  · cases r1
    obtain ⟨its, rv, p, hz⟩ := I1.tuple hq
    refine wpAny_pyIter_tuple (show s1.heap.IsTuple a its.toArray from p) ?_
    refine ⟨s1.heap.objs.size, [s1.heap.objs.size], _, _, H1, rfl, I1.kept (t' := s1.toks) fun b o e => Heap.get?_push_of_some _ e, turn_tuple a _, ⟨_, Heap.get?_push_size _ rfl, rfl, rfl⟩, fun b hb => ?_, q⟩
    have e : b = s1.heap.objs.size := by simpa using hb
    subst e
    exact I1.fpOk (Nat.le_refl _) (I1.hok.fresh (Nat.le_refl _))
  · obtain ⟨t, rfl⟩ := r1
    cases ha : z.cps.all (· < 128)
    · exact wpAny_pyIter_wide ha (pi_one (tk := s1.toks) I1 _ (turn_str _ z t "str_iterator" (.inr rfl)) ⟨_, Heap.get?_push_size _ rfl, rfl, rfl⟩ q)
    · exact wpAny_pyIter_ascii ha (pi_one (tk := s1.toks) I1 _ (turn_str _ z t "str_ascii_iterator" (.inl rfl)) ⟨_, Heap.get?_push_size _ rfl, rfl, rfl⟩ q)
theorem di_seq (he : DE X W e fa) : DI X W tg e (fSeq fa) := by
  refine PI.imp (pi_seq he) fun σ H Rr ⟨ρ, env, S, E, R, h⟩ => ?_
  refine ⟨ρ, env, S, E, R, Fin.mono h.bind fun x H1 ⟨ρ1, S1, d, e1, R1, r1, h1⟩ => ?_⟩
  have lst : ∀ ds, lstD S1 d = some ds → Fin X.cc W σ ρ1 H1 (fun ρ H J I => IsItems X.cc ρ H J I) (.ok ⟨ds, still d ds⟩ S1) Rr → ∃ a xs, x = .ref a ∧ SqL X.K H1 a xs ∧ Rr (Itl X.K a) H1 := fun ds hds h => by
    obtain ⟨p, vs, rfl, hs, hl⟩ := lstD_ok R1 r1 hds
    exact ⟨p, vs, rfl, hs, h.done R1 (items_list (vs := vs) R1 r1 hds)⟩
  cases r1 with
  | tup ht hl => exact .inr (.inl ⟨_, _, rfl, ht.2, h1.done R1 (items_tup ht hl)⟩)
  | str z => exact .inr (.inr ⟨_, rfl, h1.done R1 items_str⟩)
  | _ =>
    dsimp only [iSeq] at h1
    split at h1
    · rename_i ds hds
      exact .inl (lst ds hds h1)
    · exact h1.elim
def rangeD (lo st : Int) (n : Nat) : List D := (List.range n).map fun i => .int (lo + (i : Nat) * st)
def iRange1 (ds : List D) (S : Sg) : Res Items := match ds with
  | [.int j] => if -(2 ^ 62) ≤ j ∧ j < 2 ^ 62 then .ok ⟨rangeD 0 1 j.toNat, fun _ => True⟩ S else .st
  | _ => .st
def fIt (o : List D → Sg → Res Items) (fs : FL) : FI := fun env S => (fs env S).bind o
theorem items_range {c : Cc} {ρ : List Addr} {H : Hp} {lo : Int} {n : Nat} : IsItems c ρ H (Itr lo n) ⟨rangeD lo 1 n, fun _ => True⟩ := by
  intro ρ' S' H' i e R' ok
  refine ⟨fun hi => ?_, fun x hx => ?_⟩
  · have : i = n := by simpa [rangeD] using hi
    exact Nat.le_of_eq this.symm
  · have hx' : ((List.range n).map fun i => D.int (lo + (i : Nat) * 1))[i]? = some x := hx
    rw [List.getElem?_map] at hx'
    obtain ⟨m, hm, rfl⟩ := Option.map_eq_some_iff.mp hx'
    obtain ⟨h1, h2⟩ := List.getElem?_eq_some_iff.mp hm
    have him : m = i := by simpa using h2.symm
    subst him
    have hmn : m < n := by simpa using h1
    refine ⟨hmn, fun y H2 hy => ?_⟩
    obtain ⟨rfl, rfl⟩ := hy
    refine ⟨.refl, R', ?_⟩
    have e : lo + (m : Int) = lo + (m : Nat) * 1 := by omega
    rw [e]
    exact .int _
theorem di_range1 {a : Expr} (hg : Gl X "range") (hm : X.mg "range" = none) (ha : DA X W [a] fs) (hs : starEach [a] X.env = [(false, eval a X.env)]) : DI X W tg (.Call (.Name "range" p) [a] [] pos) (fIt iRange1 fs) := by
  refine PI.imp (pi_range1 hg hm ha hs) fun σ H Rr ⟨ρ, env, S, E, R, h⟩ => ⟨ρ, env, S, E, R, Fin.mono h.bind fun x H1 ⟨ρ1, S1, ds, e1, R1, r1, h1⟩ => ?_⟩
  unfold iRange1 at h1
  split at h1
  · cases r1 with
    | cons q r1 =>
      cases r1; cases q
      split at h1
      · rename_i hz
        exact ⟨_, rfl, hz.1, hz.2, h1.done R1 items_range⟩
      · exact h1.elim
  · exact h1.elim
def enumD (ds : List D) : List D := (List.range ds.length).map fun i => .tup true [.int (i : Nat), ds.getD i .non]
def iEnumD (ds : List D) (S : Sg) : Res Items := match ds with
  | [.tup _ es] => .ok ⟨enumD es, fun _ => True⟩ S
  | [d] => match lstD S d with
    | some es => .ok ⟨enumD es, still d es⟩ S
    | none => .st
  | _ => .st
theorem items_enum {c : Cc} {ρ : List Addr} {H : Hp} {J : It} {sq : Hp → List V → Prop} {es : List D} {ok : Sg → Prop}
    (hsq : ∀ ρ' S' H', Ext ρ H ρ' H' → Rel c ρ' S' H' → ok S' → ∃ ws, sq H' ws ∧ RL c ρ' H' ws es)
    (hst : ∀ i H' ws, sq H' ws → ws.length = i → J.stop i H') (hgo : ∀ (i : Nat) H' ws x, sq H' ws → ws[i]? = some x → J.go i H')
    (hy : ∀ i H' v H2, J.yld i H' v H2 → ∃ T x, v = .ref T ∧ H' T = none ∧ H2 = upd H' T (.tup [.int (i : Nat), x]) ∧ ∀ ws, sq H' ws → ws[i]? = some x) : IsItems c ρ H J ⟨enumD es, ok⟩ := by
  intro ρ' S' H' i e R' hok
  obtain ⟨ws, hs, hl⟩ := hsq ρ' S' H' e R' hok
  refine ⟨fun hi => hst i H' ws hs ?_, fun x hx => ?_⟩
  · have hi' : i = (enumD es).length := hi
    rw [hl.len, hi']
    simp [enumD]
  · have hx' : ((List.range es.length).map fun i => D.tup true [.int (i : Nat), es.getD i .non])[i]? = some x := hx
    rw [List.getElem?_map] at hx'
    obtain ⟨m, hm, rfl⟩ := Option.map_eq_some_iff.mp hx'
    obtain ⟨h1, h2⟩ := List.getElem?_eq_some_iff.mp hm
    have him : m = i := by simpa using h2.symm
    subst him
    have hmn : m < es.length := by simpa using h1
    have hde : es[m]? = some (es.getD m .non) := by simp [List.getD, hmn]
    obtain ⟨v, hv, rv⟩ := hl.get hde
    refine ⟨hgo m H' ws v hs hv, fun y H2 hyl => ?_⟩
    obtain ⟨T, x, rfl, hT, rfl, hxx⟩ := hy m H' y H2 hyl
    have := hxx ws hs
    rw [hv] at this
    cases this
    exact ⟨Ext.lay hT, R'.lay hT, .tup .new (.cons (.int _) (.cons (rv.ext (Ext.lay hT)) .nil))⟩
theorem di_enum {a : Expr} {elts : List Expr} {kk : Nat} {tpos : Pos} (hg : Gl X "enumerate") (hm : X.mg "enumerate" = none) (ha : DA X W [a] fs) (hs : starEach [a] X.env = [(false, eval a X.env)]) :
    DI X W (.Tuple elts kk tpos) (.Call (.Name "enumerate" p) [a] [] pos) (fIt iEnumD fs) := by
  refine PI.imp (pi_enumT hg hm ha hs) fun σ H Rr ⟨ρ, env, S, E, R, h⟩ => ⟨ρ, env, S, E, R, Fin.mono h.bind fun x H1 ⟨ρ1, S1, ds, e1, R1, r1, h1⟩ => ?_⟩
  unfold iEnumD at h1
  split at h1
  · cases r1 with
    | cons q r1 =>
      cases r1
      cases q with
      | @tup p vs w es ht hl =>
        refine ⟨p, vs, rfl, .inr ⟨ht.2, h1.done R1 (items_enum (sq := fun H ws => SqT X.K H p ws) (fun ρ' S' H' e R' _ => ⟨vs, e.sqT ht.2, hl.ext e⟩) (fun i H' ws h1 h2 => ⟨ws, h1, h2⟩) (fun i H' ws x h1 h2 => ⟨ws, x, h1, h2⟩) fun i H' v H2 hy => hy)⟩⟩
  · cases r1 with
    | cons rq r1 =>
      cases r1
      split at h1
      · rename_i es hes
        obtain ⟨p, vs, rfl, hsq, hl⟩ := lstD_ok R1 rq hes
        refine ⟨p, vs, rfl, .inl ⟨hsq, h1.done R1 (items_enum (sq := fun H ws => SqL X.K H p ws) (fun ρ' S' H' e R' ok => ?_) (fun i H' ws h1 h2 => ⟨ws, h1, Nat.le_of_eq h2⟩) (fun i H' ws x h1 h2 => ⟨ws, x, h1, h2⟩) fun i H' v H2 hy => hy)⟩⟩
        have hd := lst_still hes ok
        obtain ⟨q, ws, eq, hs2, hl2⟩ := lstD_ok R' (rq.ext e) hd
        cases eq
        exact ⟨ws, hs2, hl2⟩
      · exact h1.elim
  · exact h1.elim
open Classical in
noncomputable def forL (ok : Sg → Prop) (f : FG) (g : FS) : List D → FS
  | [] => fun env S => if ok S then .nx env S else .st
  | d :: ds => fun env S => if ok S then match f d env with
      | some env1 => match g env1 S with
        | .nx env2 S2 => forL ok f g ds env2 S2
        | .ct env2 S2 => forL ok f g ds env2 S2
        | .bk env2 S2 => .nx env2 S2
        | r => r
      | none => .st
    else .st
noncomputable def sFor (fi : FI) (f : FG) (g : FS) : FS := fun env S => (fi env S).s env fun I S => forL I.ok f g I.ds env S
theorem ds_for {iter : Expr} {body : List Stmt} {fi : FI} {f : FG} {g : FS} (hp : PassesOwn (model X.prog X.w) X.A X.env X.xe) (hc : X.calm = true) (hi : DI X W tg iter fi) (hg : DG X tg f) (hb : DSs X W body g)
    (hs : ∀ x, foldedSetIterable iter X.env x = pure x) : DS X W (.For tg iter body [] pos) (sFor fi f g) := by
  refine PS.imp (ps_for hp hc hi hg hb hs) fun D σ H ⟨ρ, env, S, E, R, h⟩ => ?_
  refine ⟨ρ, env, S, E, R, Fin.mono (FinS.bind E h) fun J H1 ⟨ρ1, S1, I, e1, R1, hI, h1⟩ => ?_⟩
  have hI' : IsItems X.cc ρ1 H1 J I := hI
  refine ⟨fun i m σ H => m = I.ds.length - i ∧ i ≤ I.ds.length ∧ ∃ ρ env S, Ext ρ1 H1 ρ H ∧ RelEnv X.cc X.pn ρ H σ env ∧ Rel X.cc ρ S H ∧ FinS X.cc X.pn W ρ H (forL I.ok f g (I.ds.drop i) env S) D, ⟨I.ds.length, by simp, Nat.zero_le _, ρ1, env, S1, .refl, E.ext e1, R1, h1⟩, ?_⟩
  rintro i m σ H ⟨rfl, hi, ρ, env, S, e, E, R, h⟩
  by_cases hlt : i < I.ds.length
  · have hdr : I.ds.drop i = I.ds[i] :: I.ds.drop (i + 1) := List.drop_eq_getElem_cons hlt
    rw [hdr] at h
    unfold forL at h
    by_cases hok : I.ok S
    · rw [if_pos hok] at h
      obtain ⟨_, hy⟩ := hI' ρ S H i e R hok
      obtain ⟨hgo, hyl⟩ := hy I.ds[i] (by simp [hlt])
      refine .inr ⟨hgo, fun σ H => ∃ ρ env S, Ext ρ1 H1 ρ H ∧ RelEnv X.cc X.pn ρ H σ env ∧ Rel X.cc ρ S H ∧ FinS X.cc X.pn W ρ H (forL I.ok f g (I.ds.drop (i + 1)) env S) D, fun σ' H' q => ⟨I.ds.length - (i + 1), by omega, rfl, hlt, q⟩, fun x H2 hx => ?_⟩
      obtain ⟨e2, R2, r2⟩ := hyl x H2 hx
      cases hf : f I.ds[i] env with
      | none => rw [hf] at h; exact h.elim
      | some env1 =>
        rw [hf] at h
        refine ⟨ρ, env, _, env1, E.ext e2, r2, hf, fun σ' E' => ⟨ρ, env1, S, E', R2, ?_⟩⟩
        cases r : g env1 S with
        | nx env' S' => dsimp only at h; rw [r] at h; exact fun ρ' σ' H' e' R' E' => ⟨ρ', env', S', (e.trans e2).trans e', E', R', FinS.ext (e2.trans e') h⟩
        | ct env' S' => dsimp only at h; rw [r] at h; exact fun ρ' σ' H' e' R' E' => ⟨ρ', env', S', (e.trans e2).trans e', E', R', FinS.ext (e2.trans e') h⟩
        | bk env' S' => dsimp only at h; rw [r] at h; exact FinS.ext e2 h
        | rt d S' => dsimp only at h; rw [r] at h; exact FinS.ext e2 h
        | er n env' S' => dsimp only at h; rw [r] at h; exact FinS.ext e2 h
        | st => dsimp only at h; rw [r] at h; exact h.elim
    · rw [if_neg hok] at h
      exact h.elim
  · have hie : i = I.ds.length := by omega
    have hdr : I.ds.drop i = [] := List.drop_eq_nil_of_le (by omega)
    rw [hdr] at h
    unfold forL at h
    by_cases hok : I.ok S
    · rw [if_pos hok] at h
      obtain ⟨hst, _⟩ := hI' ρ S H i e R hok
      exact .inl ⟨hst hie, h.done R E⟩
    · rw [if_neg hok] at h
      exact h.elim
end
section
variable {c : Cc} {ρ ρ' : List Addr} {H : Hp}
mutual
theorem RD.less {n : List Addr} (hn : ρ' = ρ ++ n) : ∀ {v : V} {d : D}, RD c ρ' H v d → d.free = true → RD c ρ H v d
  | _, _, .non, _ => .non
  | _, _, .bl b, _ => .bl b
  | _, _, .int i, _ => .int i
  | _, _, .str s, _ => .str s
  | _, _, .tup h r, q => .tup h (RL.less hn r (by simpa [D.free] using q))
  | _, _, .il h r, q => .il (by
      rcases h with ⟨h, z⟩ | h | h
      · refine .inl ⟨h, fun y => z ?_⟩
        rw [hn]
        exact List.mem_append_left _ y
      · exact .inr (.inl h)
      · exact .inr (.inr h)) (RL.less hn r (by simpa [D.free] using q))
  | _, _, .obj h, q => by simp [D.free] at q
  | _, _, .fn h, _ => .fn h
  | _, _, .ty n, _ => .ty n
  | _, _, .kd h r, q => .kd h (RL.less hn r (by simpa [D.free] using q))
theorem RL.less {n : List Addr} (hn : ρ' = ρ ++ n) : ∀ {vs : List V} {ds : List D}, RL c ρ' H vs ds → D.frees ds = true → RL c ρ H vs ds
  | _, _, .nil, _ => .nil
  | _, _, .cons h r, q => by
    simp only [D.frees, Bool.and_eq_true] at q
    exact .cons (RD.less hn h q.1) (RL.less hn r q.2)
end
end
theorem wipe_wipe {σ : L2.St} : ∀ (vs ws : List Nat), (∀ v ∈ ws, v ∈ vs) → L2.wipe (L2.wipe σ ws) vs = L2.wipe σ vs
  | vs, [], _ => rfl
  | vs, w :: ws, h => by
    show L2.wipe ((L2.wipe σ ws).set w none) vs = _
    rw [wipe_set (h w List.mem_cons_self), wipe_wipe vs ws fun v hv => h v (List.mem_cons_of_mem _ hv)]
open Classical in
noncomputable def lcL (ok : Sg → Prop) (f : FG) (t : FT) (fe : FE) (env : Env) (k : Nat) : List D → Sg → Res Unit
  | [] => fun S => if ok S then .ok () S else .st
  | d :: ds => fun S => if ok S then match f d env with
      | some env1 => (t env1 S).quiet.bind fun b S => if b = true then (fe env1 S).quiet.bind fun x S => match S[k]? with
          | some (.lst acc) => if acc.length < sizeLine then lcL ok f t fe env k ds (S.set k (.lst (acc ++ [x]))) else .st
          | _ => .st
        else lcL ok f t fe env k ds S
      | none => .st
    else .st
open Classical in
noncomputable def lcEnd (use : Bool) (k : Nat) (S0 : Sg) (S : Sg) : Res D := if use = true then match S[k]? with
    | some (.lst acc) => if S = S0 ++ [.lst acc] ∧ D.frees acc = true then .ok (.il acc) S0 else .ok (.obj k) S
    | _ => .ok (.obj k) S
  else .ok (.obj k) S
noncomputable def fLc (use : Bool) (own : List Nat) (fi : FI) (T : Tg) (t : FT) (fe : FE) : FE := fun env S => (fi env S).bind fun I S => if noExc env = true then
    (lcL I.ok T.f t fe (wipeE env own) S.length I.ds (S ++ [.lst []])).bind fun _ S2 => lcEnd use S.length S S2
  else .st
section
variable {X : Cx} {W : WX} {elt tg iter : Expr} {scope : Scope} {own : List (Str × Nat)} {pos : Pos} {fi : FI} {T : Tg} {t : FT} {fe : FE} {use : Bool}
theorem noExc_wipe {env : Env} (h : noExc env = true) : ∀ vs : List Nat, noExc (wipeE env vs) = true
  | [] => h
  | v :: vs => by
    have ih := noExc_wipe h vs
    unfold wipeE noExc
    rw [List.all_eq_true]
    intro x hx
    rcases List.mem_or_eq_of_mem_set hx with q | q
    · exact List.all_eq_true.mp ih x q
    · subst q; rfl
theorem Fin.quiet {c : Cc} {W W0 : WX} {σ σ0 : L2.St} {ρ : List Addr} {H : Hp} {α β : Type} {rel : List Addr → Hp → β → α → Prop} {r : Res α} {Q : β → Hp → Prop} (h : Fin c W σ ρ H rel r.quiet Q) : Fin c W0 σ0 ρ H rel r Q := by
  cases r with
  | ok a S => exact h
  | er n S => exact h.elim
  | st => exact h
theorem quiet_on {c : Cc} {W W0 : WX} {σ σ0 : L2.St} {ρ ρ0 : List Addr} {H H0 : Hp} {α β γ δ : Type} {rel : List Addr → Hp → β → α → Prop} {rel2 : List Addr → Hp → δ → γ → Prop} {r : Res γ} {g : γ → Sg → Res α} {Q : β → Hp → Prop} (h : Fin c W σ ρ0 H0 rel (r.quiet.bind g) Q) :
    Fin c W0 σ0 ρ H rel2 r fun x H1 => ∃ ρ1 S1 a, Ext ρ H ρ1 H1 ∧ Rel c ρ1 S1 H1 ∧ rel2 ρ1 H1 x a ∧ Fin c W σ ρ0 H0 rel (g a S1) Q := by
  cases r with
  | ok a S => exact fun ρ1 H1 v e R q => ⟨ρ1, S, a, e, R, q, h⟩
  | er n S => exact h.elim
  | st => exact h
theorem Res.bind_assoc {α β γ : Type} (r : Res α) (f : α → Sg → Res β) (g : β → Sg → Res γ) : (r.bind f).bind g = r.bind fun a S => (f a S).bind g := by
  cases r <;> rfl
theorem can_lc {te : TE} {tt : TT} {pn' : List (Addr × Obj)} (hown : ∀ i ∈ T.is, i ∈ own.map (·.2))
    (he : ∀ σ H Q, canE X.cc [] (fun _ _ _ _ => False) fe σ H Q → te σ H Q) (ht : ∀ σ H Q, canT X.cc [] (fun _ _ _ _ => False) t σ H Q → tt σ H Q) {σ : L2.St} {H : Hp} {Q : VK}
    (h : canE X.cc pn' W (fLc use (own.map (·.2)) fi T t fe) σ H Q) : tLc (canI X.cc pn' W fi) (T.t X.K) tt te (own.map (·.2)) σ H Q := by
  obtain ⟨ρ, env, S, E, R, h⟩ := h
  refine ⟨ρ, env, S, E, R, Fin.mono h.bind fun J H1 ⟨ρ1, S1, I, e1, R1, hI, h1⟩ => ?_⟩
  have hI' : IsItems X.cc ρ1 H1 J I := hI
  split at h1
  · rename_i hx
    intro Dl hD
    have hl0 : ρ1.length = S1.length := R1.len
    have hE0 : RelEnv X.cc [] ρ1 H1 (L2.wipe σ (own.map (·.2))) (wipeE env (own.map (·.2))) := ((E.ext e1).wipe _).bare (noExc_wipe hx _)
    have ek : Ext ρ1 H1 (ρ1 ++ [Dl]) (upd H1 Dl (.lst [])) := Ext.put hD
    have Rk : Rel X.cc (ρ1 ++ [Dl]) (S1 ++ [.lst []]) (upd H1 Dl (.lst [])) := R1.put hD ⟨[], upd_same, .nil⟩
    have gk : ∀ {ρ H}, Ext (ρ1 ++ [Dl]) (upd H1 Dl (.lst [])) ρ H → ρ[S1.length]? = some Dl := fun e => e.get (by rw [← hl0]; simp)
    let Tn : Nat → Hp → Prop := fun i H => ∃ ρ S, Ext (ρ1 ++ [Dl]) (upd H1 Dl (.lst [])) ρ H ∧ Rel X.cc ρ S H ∧
      Fin X.cc W σ ρ1 H1 (relD X.cc) ((lcL I.ok T.f t fe (wipeE env (own.map (·.2))) S1.length (I.ds.drop i) S).bind fun _ S2 => lcEnd use S1.length S1 S2) Q
    refine ⟨fun i m H => m = I.ds.length - i ∧ i ≤ I.ds.length ∧ Tn i H, ⟨I.ds.length, by simp, Nat.zero_le _, _, _, .refl, Rk, h1⟩, ?_⟩
    rintro i m H ⟨rfl, hi, ρ, S, e, R, h⟩
    have ee : Ext ρ1 H1 ρ H := ek.trans e
    by_cases hlt : i < I.ds.length
    · have hdr : I.ds.drop i = I.ds[i] :: I.ds.drop (i + 1) := List.drop_eq_getElem_cons hlt
      rw [hdr] at h
      unfold lcL at h
      by_cases hok : I.ok S
      · rw [if_pos hok] at h
        obtain ⟨_, hy⟩ := hI' ρ S H i ee R hok
        obtain ⟨hgo, hyl⟩ := hy I.ds[i] (by simp [hlt])
        refine .inr ⟨hgo, fun H => Tn (i + 1) H, fun H' q => ⟨I.ds.length - (i + 1), by omega, rfl, hlt, q⟩, fun x H2 hx2 => ?_⟩
        obtain ⟨e2, R2, r2⟩ := hyl x H2 hx2
        cases hf : T.f I.ds[i] (wipeE env (own.map (·.2))) with
        | none => rw [hf] at h; exact h.elim
        | some env1 =>
          rw [hf] at h
          dsimp only at h
          rw [Res.bind_assoc] at h
          refine T.ok (hE0.ext (ee.trans e2)) r2 hf hown (wipe_wipe _ _ fun _ z => z) fun σ' E' hw => ⟨hw, ?_⟩
          refine ht _ _ _ ⟨ρ, env1, S, E', R2, Fin.mono (quiet_on h) fun b H3 ⟨ρ3, S3, b', e3, R3, rb, h3⟩ => ?_⟩
          cases rb
          cases b with
          | false =>
            rw [if_neg Bool.false_ne_true] at h3 ⊢
            exact ⟨ρ3, S3, (e.trans e2).trans e3, R3, h3⟩
          | true =>
            rw [if_pos rfl] at h3 ⊢
            rw [Res.bind_assoc] at h3
            refine he _ _ _ ⟨ρ3, env1, S3, E'.ext e3, R3, Fin.mono (quiet_on h3) fun y H4 ⟨ρ4, S4, d, e4, R4, rd, h4⟩ => ?_⟩
            have e5 := ((e.trans e2).trans e3).trans e4
            split at h4
            · rename_i acc hS
              split at h4
              · rename_i hz
                obtain ⟨vs, hv, q⟩ := lst_at R4 (gk e5) hS
                have ew := Ext.set (o := .lst (vs ++ [y])) R4 (List.mem_of_getElem? (gk e5))
                exact ⟨vs, hv, by rw [q.len]; exact hz, ρ4, _, e5.trans ew, R4.set (m := .lst (acc ++ [d])) (gk e5) ⟨_, upd_same, (q.append (.cons rd .nil)).ext ew⟩, h4⟩
              · exact h4.elim
            · exact h4.elim
      · rw [if_neg hok] at h
        exact h.elim
    · have hie : i = I.ds.length := by omega
      have hdr : I.ds.drop i = [] := List.drop_eq_nil_of_le (by omega)
      rw [hdr] at h
      unfold lcL at h
      by_cases hok : I.ok S
      · rw [if_pos hok] at h
        obtain ⟨hst, _⟩ := hI' ρ S H i ee R hok
        refine .inl ⟨hst hie, ?_⟩
        have keep : Fin X.cc W σ ρ1 H1 (relD X.cc) (.ok (.obj S1.length) S) Q → Q (.ref Dl) H := fun h => h ρ H _ ee R (.obj (gk e))
        dsimp only [Res.bind_ok] at h
        unfold lcEnd at h
        split at h
        · split at h
          · rename_i acc hS
            split at h
            · rename_i hz
              obtain ⟨hz1, hz2⟩ := hz
              obtain ⟨vs, hv, q⟩ := lst_at R (gk e) hS
              obtain ⟨n, hn, _⟩ := id ee.new
              obtain ⟨Rb, eb⟩ := R1.back ee (by rw [← hz1]; exact R)
              exact h ρ1 H _ eb Rb (.il (.inl ⟨hv, R1.fresh hD⟩) (RL.less hn q hz2))
            · exact keep h
          · exact keep h
        · exact keep h
      · rw [if_neg hok] at h
        exact h.elim
  · exact h1.elim
theorem de_lc (hc : X.calm = true) (hN : X.N.Nodup) (hi : DI X W tg iter fi) (ok : BlkOk X.N X.env.scope scope own) (hown : ∀ i ∈ T.is, i ∈ own.map (·.2))
    (hg : ∀ (s : Shared) (H : Hp) (C : Addr) (cl : List (Str × Addr)) (fp : List Addr), PG (X.blk s H scope (compEnvC scope cl C X.env) fp) tg (T.t X.K))
    {ifs : List Expr} (ht : ∀ (s : Shared) (H : Hp) (C : Addr) (cl : List (Str × Addr)) (fp : List Addr), PTs (X.blk s H scope (compEnvC scope cl C X.env) fp) ifs (canT X.cc [] (fun _ _ _ _ => False) t))
    (he : ∀ (s : Shared) (H : Hp) (C : Addr) (cl : List (Str × Addr)) (fp : List Addr), DE (X.blk s H scope (compEnvC scope cl C X.env) fp) (fun _ _ _ _ => False) elt fe)
    (hs : ∀ x, foldedSetIterable iter X.env x = pure x) : DE X W (.ListComp elt [⟨tg, iter, ifs, 0⟩] scope pos) (fLc use (own.map (·.2)) fi T t fe) :=
  PE.imp (pe_lc (te := canE X.cc [] (fun _ _ _ _ => False) fe) hc hN hi ok hg ht (fun s H C cl fp => he s H C cl fp) hs) fun _ _ _ h => can_lc hown (fun _ _ _ q => q) (fun _ _ _ q => q) h
def fYes : FT := fun _ S => .ok true S
theorem pts_yes : PTs X [] (canT X.cc [] (fun _ _ _ _ => False) fYes) := ⟨fun pins s σ H Q I ⟨ρ, env, S, E, R, h⟩ => pts_nil.run pins s σ H Q I (h.done R rfl)⟩
theorem ds_setLc {i : Nat} {y : Str} {py spos : Pos} (hc : X.calm = true) (hN : X.N.Nodup) (hy : X.N[i]? = some y) (hyl : X.env.scope.names.lookup y = some .local) {ifs : List Expr}
    (hsw : swapsWith (.ListComp elt [⟨tg, iter, ifs, 0⟩] scope pos) (some (.Name y py)) spos.line X.env = pure true) (hi : DI X W tg iter fi) (ok : BlkOk X.N X.env.scope scope own) (hown : ∀ i ∈ T.is, i ∈ own.map (·.2))
    (hg : ∀ (s : Shared) (H : Hp) (C : Addr) (cl : List (Str × Addr)) (fp : List Addr), PG (X.blk s H scope (compEnvC scope cl C X.env) fp) tg (T.t X.K))
    (ht : ∀ (s : Shared) (H : Hp) (C : Addr) (cl : List (Str × Addr)) (fp : List Addr), PTs (X.blk s H scope (compEnvC scope cl C X.env) fp) ifs (canT X.cc [] (fun _ _ _ _ => False) t))
    (he : ∀ (s : Shared) (H : Hp) (C : Addr) (cl : List (Str × Addr)) (fp : List Addr), DE (X.blk s H scope (compEnvC scope cl C X.env) fp) (fun _ _ _ _ => False) elt fe)
    (hs : ∀ x, foldedSetIterable iter X.env x = pure x) : DS X W (.Assign [.Name y py] (.ListComp elt [⟨tg, iter, ifs, 0⟩] scope pos) spos) (sAsg (fLc use (own.map (·.2)) fi T t fe) (gNm i)) :=
  PS.imp (ps_setLc (te := canE X.cc [] (fun _ _ _ _ => False) fe) hc hN hy hyl hsw hi ok hg ht (fun s H C cl fp => he s H C cl fp) hs) fun D σ H h => can_asg (fun _ _ _ q => can_lc hown (fun _ _ _ q => q) (fun _ _ _ q => q) q) (fun v σ H Q ⟨ρ, env, d, env', E, r, h, k⟩ => by
    cases h
    exact k _ (E.set i r)) h
end
def FinC (c : Cc) (ρ : List Addr) (H : Hp) (r : Res D) (Q : VK) (E : XK) : Prop := match r with
  | .ok d S => ∀ ρ' H' v, Ext ρ H ρ' H' → Rel c ρ' S H' → RD c ρ' H' v d → Q v H'
  | .er x S => ∀ ρ' H' C, Ext ρ H ρ' H' → Rel c ρ' S H' → c.mg x = some (.ref C) → E (.ref C) none H'
  | .st => False
def spD (c : Cc) (n : Nat) (F : Fn) : Sp := fun vs H Q E => ∃ ρ S ds, Rel c ρ S H ∧ RL c ρ H vs ds ∧ ds.length = n ∧ FinC c ρ H (F ds S) Q E
structure FnE where
  name : Str
  n : Nat
  F : Fn
def FnK (P : Program) (w : World) (K : PySem.W.Frag) (mg : Str → Option Value) (base : Heap) (k : Nat) (e : FnE) : Prop := ∃ (f : Addr) (fd : FuncData) (ps : List Str),
  mg e.name = some (.ref f) ∧ PySem.W.keepIn K (.ref f) = true ∧ Binds K fd ps [] ∧ ps.length = e.n ∧ FnOk P w K mg base (L2.CX P w) k f fd ps (spD ⟨K, mg, w⟩ e.n e.F)
theorem FnK.mono {P : Program} {w : World} {K : PySem.W.Frag} {mg : Str → Option Value} {base : Heap} {j k : Nat} {e : FnE} (h : FnK P w K mg base j e) (hjk : j ≤ k) : FnK P w K mg base k e := by
  obtain ⟨f, fd, ps, h1, h2, h3, h4, h5⟩ := h
  exact ⟨f, fd, ps, h1, h2, h3, h4, h5.mono hjk⟩
mutual
def D.low : D → D
  | .tup _ ds => .tup false (D.lows ds)
  | .il ds => .il (D.lows ds)
  | .kd ks ds => .kd ks (D.lows ds)
  | d => d
def D.lows : List D → List D
  | [] => []
  | d :: ds => d.low :: D.lows ds
end
section
variable {c : Cc} {ρ : List Addr} {H : Hp}
mutual
theorem RD.low : ∀ {v : V} {d : D}, RD c ρ H v d → RD c ρ H v d.low
  | _, _, .non => .non
  | _, _, .bl b => .bl b
  | _, _, .int i => .int i
  | _, _, .str s => .str s
  | _, _, .tup h r => .tup ⟨(fun z => by cases z), h.2⟩ (RL.low r)
  | _, _, .il h r => .il h (RL.low r)
  | _, _, .obj h => .obj h
  | _, _, .fn h => .fn h
  | _, _, .ty n => .ty n
  | _, _, .kd h r => .kd h (RL.low r)
theorem RL.low : ∀ {vs : List V} {ds : List D}, RL c ρ H vs ds → RL c ρ H vs (D.lows ds)
  | _, _, .nil => .nil
  | _, _, .cons h r => .cons (RD.low h) (RL.low r)
end
end
def Weak (S : Sg) (r r' : Res D) : Prop := r' = .st ∨ r = r' ∨ (∃ d G, r = .ok d (S ++ G) ∧ d.free = true ∧ r' = .ok d S) ∨ (∃ x G, r = .er x (S ++ G) ∧ r' = .er x S) ∨ ∃ d S', r = .ok d S' ∧ r' = .ok d.low S'
theorem FinC.weak {c : Cc} {ρ : List Addr} {S : Sg} {H : Hp} {r r' : Res D} {Q : VK} {E : XK} (R : Rel c ρ S H) (h : Weak S r r') (f : FinC c ρ H r' Q E) : FinC c ρ H r Q E := by
  rcases h with rfl | rfl | ⟨d, G, rfl, hd, rfl⟩ | ⟨x, G, rfl, rfl⟩ | ⟨d, S', rfl, rfl⟩
  · exact f.elim
  · exact f
  · intro ρ' H' v e R' q
    obtain ⟨Rb, eb⟩ := R.back e R'
    obtain ⟨n, hn, _⟩ := e.new
    exact f ρ H' v eb Rb (RD.less hn q hd)
  · intro ρ' H' C e R' q
    obtain ⟨Rb, eb⟩ := R.back e R'
    exact f ρ H' C eb Rb q
  · intro ρ' H' v e R' q
    exact f ρ' H' v e R' q.low
def lowR : Res D → Res D
  | .ok d S => .ok d.low S
  | r => r
theorem weak_lowR {S : Sg} {r : Res D} : Weak S r (lowR r) := by
  cases r with
  | ok d S' => exact .inr (.inr (.inr (.inr ⟨d, S', rfl, rfl⟩)))
  | er x S' => exact .inr (.inl rfl)
  | st => exact .inl rfl
theorem FnK.weak {P : Program} {w : World} {K : PySem.W.Frag} {mg : Str → Option Value} {base : Heap} {k n : Nat} {x : Str} {F F' : Fn} (h : FnK P w K mg base k ⟨x, n, F⟩) (hw : ∀ ds S, ds.length = n → Weak S (F ds S) (F' ds S)) : FnK P w K mg base k ⟨x, n, F'⟩ := by
  obtain ⟨f, fd, ps, h1, h2, h3, h4, h5⟩ := h
  refine ⟨f, fd, ps, h1, h2, h3, h4, h5.imp fun vs H Q E ⟨ρ, S, ds, R, r, hl, q⟩ => ⟨ρ, S, ds, R, r, hl, q.weak R (hw ds S hl)⟩⟩
section
variable {X : Cx} {W : WX} {e : Expr} {es : List Expr} {pos p : Pos} {fs : FL} {k n : Nat} {x : Str} {F : Fn}
theorem can_fn {pn : List (Addr × Obj)} {t : TA} (ht : ∀ σ H Q, canA X.cc pn W fs σ H Q → t σ H Q) (hlen : ∀ env S ds S', fs env S = .ok ds S' → ds.length = n) {σ : L2.St} {H : Hp} {Q : VK} (h : canE X.cc pn W (fCall F fs) σ H Q) : tCallS (spD X.cc n F) (WE W) t σ H Q := by
  obtain ⟨ρ, env, S, E, R, h⟩ := h
  refine ht _ _ _ ⟨ρ, env, S, E, R, ?_⟩
  unfold fCall at h
  cases r : fs env S with
  | ok ds S' =>
    rw [r] at h
    intro ρ' H' v e R' q
    refine ⟨ρ', S', ds, R', q, hlen env S ds S' r, ?_⟩
    have h' := Fin.ext e h
    dsimp only [Res.bind_ok] at h'
    cases r2 : F ds S' with
    | ok d S2 => rw [r2] at h'; exact h'
    | er m S2 => rw [r2] at h'; exact h'
    | st => rw [r2] at h'; exact h'
  | er m S' => rw [r] at h; exact h
  | st => rw [r] at h; exact h
theorem de_call (h : FnK X.prog X.w X.K X.mg X.base k ⟨x, n, F⟩) (hr : Room k X.A) (hg : Gl X x) (tk : Takes X W) (ha : DA X W (e :: es) fs) (hlen : ∀ env S ds S', fs env S = .ok ds S' → ds.length = n) (hdb : (x == ("__debug__" : Str)) = false)
    (he : starEach (e :: es) X.env = (false, eval e X.env) :: starEach es X.env) (hpl : (backTo pos (starEach es X.env)).any (·.1) = false) : DE X W (.Call (.Name x p) (e :: es) [] pos) (fCall F fs) := by
  obtain ⟨f, fd, ps, h1, h2, h3, h4, h5⟩ := h
  exact PE.imp (pe_callS h5 hr hg h1 h2 h3 (fun σ => passAt tk σ) ha hdb he hpl) fun _ _ _ q => can_fn (fun _ _ _ z => z) hlen q
theorem pe_callS0 {CX : CXT} {f : Addr} {fd : FuncData} {ps : List Str} {sp : Sp} {E : L2.St → XK} (G : FnOk X.prog X.w X.K X.mg X.base CX k f fd ps sp) (hr : Room k X.A) (hg : Gl X x) (hm : X.mg x = some (.ref f)) (hk : PySem.W.keepIn X.K (.ref f) = true) (hb : Binds X.K fd ps []) (hx : ∀ σ, PassesAt CX X σ (E σ))
    (hdb : (x == ("__debug__" : Str)) = false) : PE X (.Call (.Name x p) [] [] pos) (tCallS sp E tNil) := by
  refine ⟨fun pins s σ H Q I h => ?_⟩
  refine wpAny_Call_Name_kw (ld_glob I hg hm ?_ hdb)
  exact PySem.W.callWith_K0 I.kIn hk (run_fnS (us := []) G hr hb (hx σ) I .nil h)
theorem de_call0 (h : FnK X.prog X.w X.K X.mg X.base k ⟨x, 0, F⟩) (hr : Room k X.A) (hg : Gl X x) (tk : Takes X W) (hdb : (x == ("__debug__" : Str)) = false) : DE X W (.Call (.Name x p) [] [] pos) (fCall F fNil) := by
  obtain ⟨f, fd, ps, h1, h2, h3, h4, h5⟩ := h
  refine PE.imp (pe_callS0 h5 hr hg h1 h2 h3 (fun σ => passAt tk σ) hdb) fun σ H Q q => can_fn (t := tNil) (fun σ H Q ⟨ρ, env, S, E, R, h⟩ => h.done R .nil) (fun _ _ ds _ q => by cases q; rfl) q
end
def startE (m : Nat) (ds : List D) : Env := ds.map (fun d => some (.v d)) ++ List.replicate (m - ds.length) none
def SR.fin (r : SR) : Res D := match r with
  | .nx _ S => .ok .non S
  | .rt d S => .ok d S
  | .er c _ S => .er c S
  | _ => .st
def runF (m : Nat) (g : FS) : Fn := fun ds S => (g (startE m ds) S).fin
theorem start_ok {c : Cc} {ρ : List Addr} {H : Hp} {N : List Str} {vs : List V} {ds : List D} (r : RL c ρ H vs ds) : RelEnv c [] ρ H (L2.start N vs) (startE N.length ds) := by
  refine ⟨by unfold L2.start startE; simp [r.len], fun i d hi => ?_, fun i n hi => ?_⟩
  · unfold startE at hi
    by_cases hl : i < ds.length
    · rw [List.getElem?_append_left (by simpa using hl), List.getElem?_map] at hi
      obtain ⟨d', hd, e⟩ := Option.map_eq_some_iff.mp hi
      cases e
      obtain ⟨v, hv, rv⟩ := r.get hd
      refine ⟨v, ?_, rv⟩
      unfold L2.start
      rw [List.getElem?_append_left (by simp [r.len]; exact hl), List.getElem?_map, hv]
      rfl
    · rw [List.getElem?_append_right (by simp; omega)] at hi
      have := (List.mem_replicate.mp (List.mem_of_getElem? hi)).2
      cases this
  · unfold startE at hi
    have := List.mem_of_getElem? hi
    rcases List.mem_append.mp this with q | q
    · obtain ⟨d, _, e⟩ := List.mem_map.mp q
      cases e
    · cases (List.mem_replicate.mp q).2
section
variable {P : Program} {w : World} {K : PySem.W.Frag} {mg : Str → Option Value} {base : Heap}
structure DefX (P : Program) (w : World) (K : PySem.W.Frag) (mg : Str → Option Value) (base : Heap) (k : Nat) (N : List Str) (sc : Scope) (X : Cx) (W : WX) : Prop where
  prog : X.prog = P
  wd : X.w = w
  kf : X.K = K
  gl : X.mg = mg
  bs : X.base = base
  n : X.N = N
  sc : X.env.scope = sc
  nd : X.N.Nodup
  room : Room k X.A
  calm : X.calm = true
  tk : Takes X W
  pass : PassesOwn (model X.prog X.w) X.A X.env X.xe
  stk : X.stack = X.env :: X.outer
  frm : X.env.frame = some X.env.locals
  fn : ∀ x, X.fn x = true
theorem fn_okD {x qual : Str} {st : Stmt} {f : Addr} {fd : FuncData} {N ps : List Str} {k : Nat} {g : FS} (F : Fun K x qual st f fd) (S : FnScope N ps (defScope st)) 
    (hb : ∀ X W, DefX P w K mg base k N (defScope st) X W → X.pn = [] → DSs X W (defBody st) g) : FnOk P w K mg base (L2.CX P w) (k + 1) f fd ps (spD ⟨K, mg, w⟩ ps.length (runF N.length g)) := by
  refine F.okX S (fun vs H Q E ⟨ρ, T, ds, R, r, hl, q⟩ => by rw [r.len]; exact hl) fun cdv A outer s H vs Q E hr ⟨ρ, T, ds, R, r, hl, q⟩ => ?_
  have tk : Takes (cxOf (L2.CX P w) P w K mg base N qual (defScope st) f cdv A outer s H E) (fun cls d _ H => E cls d H) := takes_of rfl rfl rfl rfl
  refine ⟨_, hb _ _ ⟨rfl, rfl, rfl, rfl, rfl, rfl, rfl, S.nd, hr, rfl, tk, passes_of rfl, rfl, rfl, fun _ => rfl⟩ rfl, ρ, startE N.length ds, T, start_ok r, R, ?_⟩
  have q' : FinC ⟨K, mg, w⟩ ρ H ((g (startE N.length ds) T).fin) Q E := q
  cases e : g (startE N.length ds) T with
  | nx env' S' => rw [e] at q'; exact fun ρ' σ' H' e' R' E' => q' ρ' H' .non e' R' .non
  | rt d S' => rw [e] at q'; exact q'
  | er n env' S' => rw [e] at q'; exact fun ρ' σ' H' C e' R' E' hC => q' ρ' H' C e' R' hC
  | bk env' S' => rw [e] at q'; exact q'.elim
  | ct env' S' => rw [e] at q'; exact q'.elim
  | st => rw [e] at q'; exact q'.elim
theorem fn_def {x qual : Str} {st : Stmt} {f : Addr} {fd : FuncData} {N ps : List Str} {k : Nat} {g : FS} (F : Fun K x qual st f fd) (S : FnScope N ps (defScope st)) (hm : mg x = some (.ref f)) (b : Binds K fd ps [])
    (hb : ∀ X W, DefX P w K mg base k N (defScope st) X W → X.pn = [] → DSs X W (defBody st) g) : FnK P w K mg base (k + 1) ⟨x, ps.length, runF N.length g⟩ := ⟨f, fd, ps, hm, F.kp, b, rfl, fn_okD F S hb⟩
end
def clsX (mg : Str → Option Value) (x : Str) (u : Value) : Prop := (∃ C, mg x = some (.ref C) ∧ u = .ref C) ∨ (x = ("ValueError" : Str) ∧ mg x = none ∧ u = .type "ValueError")
structure ExcT (K : PySem.W.Frag) (mg : Str → Option Value) (names : List Str) : Prop where
  own : ∀ x ∈ names, ExcK K mg x
  cl : ∀ x ∈ names, ∀ C, mg x = some (.ref C) → ExcC K C
  kit : ∀ x ∈ names, ∀ C, mg x = some (.ref C) → ∀ y ∈ ("ValueError" : Str) :: names, ∀ u, clsX mg y u → PySem.W.kitOne K (.ref C) u = some (subX x y)
  exm : ∀ x ∈ names, ∀ C, mg x = some (.ref C) → ∀ y ∈ names, ∀ u, clsX mg y u → PySem.W.exmOne K (.ref C) u = some (subX x y)
section
variable {X : Cx} {W : WX} {pos p p2 p3 : Pos} {names : List Str}
end
def SR.unbind (r : SR) (i : Nat) : SR := match r with
  | .nx env S => if noExc (env.set i none) = true then .nx (env.set i none) S else .st
  | .bk env S => if noExc (env.set i none) = true then .bk (env.set i none) S else .st
  | .ct env S => if noExc (env.set i none) = true then .ct (env.set i none) S else .st
  | .er _ _ _ => .st
  | r => r
section
variable {X : Cx} {W : WX} {pos np pos' : Pos} {names : List Str} {body suite : List Stmt} {b₀ : Stmt} {g gs : FS} {h n : Str} {i : Nat}
end
def Free (mg : Str → Option Value) : Prop := ∀ x ∈ freeNames, mg x = none
structure InN (Z : Zk) (N : List Str) (scp : Scope) (X : Cx) : Prop where
  prog : X.prog = Z.P
  wd : X.w = Z.w
  kf : X.K = Z.K
  gl : X.mg = Z.mg
  bs : X.base = Z.base
  n : X.N = N
  sc : X.env.scope = scp
  nd : X.N.Nodup
  fr : Free Z.mg
  un : X.A.units + 200 < cLine
structure InE (Z : Zk) (N : List Str) (sc : Scope) (X : Cx) (W : WX) : Prop extends InN Z N sc X where
  calm : X.calm = true
  tk : Takes X W
  room : Room Z.k X.A
structure InS (Z : Zk) (N : List Str) (sc : Scope) (X : Cx) (W : WX) : Prop extends InE Z N sc X W where
  pass : PassesOwn (model X.prog X.w) X.A X.env X.xe
  stk : X.stack = X.env :: X.outer
  frm : X.env.frame = some X.env.locals
  fns : ∀ x, X.fn x = true
def visB (sc : Scope) (x : Str) : Bool := match sc.names.lookup x with
  | some .local => true
  | some .cell => true
  | some .free => true
  | _ => false
def locB (sc : Scope) (x : Str) : Bool := match sc.names.lookup x with
  | some .local => true
  | some .cell => true
  | _ => false
def glB (sc : Scope) (x : Str) : Bool := match sc.names.lookup x with
  | some .globalImplicit => true
  | _ => false
def plainN (x : Str) : Bool := !(x == ("__debug__" : Str)) && !(x == ("__classdict__" : Str)) && !(x == ("__name__" : Str))
def noStar : Expr → Bool
  | .Starred _ _ => false
  | _ => true
def noComp : Expr → Bool
  | .ListComp _ _ _ _ => false
  | .SetComp _ _ _ _ => false
  | .DictComp _ _ _ _ _ => false
  | _ => true
def noTup : Expr → Bool
  | .Tuple _ _ _ => false
  | .List _ _ => false
  | _ => true
def noCall0 : Expr → Bool
  | .Call _ _ _ _ => false
  | _ => true
theorem vis_by {sc : Scope} {x : Str} (h : visB sc x = true) : Vis sc x := by
  unfold visB at h
  unfold Vis
  split at h <;> simp_all
theorem loc_by {sc : Scope} {x : Str} (h : locB sc x = true) : L2.Loc sc x := by
  unfold locB at h
  unfold L2.Loc
  split at h <;> simp_all
theorem gl_by {sc : Scope} {x : Str} (h : glB sc x = true) : sc.names.lookup x = some .globalImplicit := by
  unfold glB at h
  split at h <;> simp_all
theorem plainN_1 {x : Str} (h : plainN x = true) : (x == ("__debug__" : Str)) = false := by
  unfold plainN at h
  simp at h
  simpa using h.1.1
theorem plainN_2 {x : Str} (h : plainN x = true) : (x == ("__classdict__" : Str)) = false := by
  unfold plainN at h
  simp at h
  simpa using h.1.2
theorem plainN_3 {x : Str} (h : plainN x = true) : x ≠ ("__name__" : Str) := by
  unfold plainN at h
  simp at h
  exact h.2
theorem star_cons {e : Expr} {es : List Expr} {env : PySem.Env} (h : noStar e = true) : starEach (e :: es) env = (false, eval e env) :: starEach es env := by
  cases e <;> first | rfl | cases h
theorem star_no {es : List Expr} {env : PySem.Env} {pos : Pos} (h : es.all noStar = true) : (backTo pos (starEach es env)).any (·.1) = false := by
  induction es with
  | nil => rfl
  | cons e es ih =>
    rw [List.all_cons, Bool.and_eq_true] at h
    rw [star_cons h.1]
    show (false || (backTo pos (starEach es env)).any (·.1)) = false
    rw [ih h.2]
    rfl
theorem star_all {es : List Expr} {env : PySem.Env} {pos : Pos} (h : es.all noStar = true) : (backTo pos (starEach es env)).all (fun x => !x.1) = true := by
  induction es with
  | nil => rfl
  | cons e es ih =>
    rw [List.all_cons, Bool.and_eq_true] at h
    rw [star_cons h.1]
    show (true && (backTo pos (starEach es env)).all (fun x => !x.1)) = true
    rw [ih h.2]
    rfl
theorem noComp_sw {e : Expr} {t : Option Expr} {l : Nat} {env : PySem.Env} (h : noComp e = true) : swapsWith e t l env = pure false := by
  cases e <;> first | rfl | cases h
theorem noComp_sole {e t : Expr} {l : Nat} {env : PySem.Env} (h : noComp e = true) : swapsWithSole [t] e l env = pure false := noComp_sw h
theorem noTup_st {e t : Expr} {env : PySem.Env} (h : noTup t = true ∨ noTup e = true) : swappedStores [t] e env = pure none := by
  cases t <;> first | rfl | (cases e <;> first | rfl | (rcases h with h | h <;> cases h))
theorem noCall_base {e : Expr} {a : Str} {env : PySem.Env} {wh : Sem Value} (h : noCall0 e = true) : attributeBase e a env wh = wh := by
  cases e <;> first | rfl | cases h
section
variable {Z : Zk} {N : List Str} {sc : Scope} {X : Cx} {W : WX} {pos : Pos} {e a b cc : Expr} {es : List Expr} {fa fb fc : FE} {fs : FL} {x : Str}
theorem InN.free (h : InN Z N sc X) (hx : x ∈ freeNames := by decide) : X.mg x = none := by rw [h.gl]; exact h.fr x hx
theorem InN.var (h : InN Z N sc X) {i : Nat} (hi : N[i]? = some x := by rfl) (hv : visB sc x = true := by decide +kernel) (hp : plainN x = true := by decide +kernel) : DE X W (.Name x pos) (fVar i) :=
  de_var (by rw [h.n]; exact hi) (by rw [h.sc]; exact vis_by hv) (plainN_1 hp) (plainN_2 hp)
theorem InN.glb (h : InN Z N sc X) (hg : glB sc x = true) : Gl X x := by
  unfold Gl Env.kindOf
  rw [h.sc]
  exact gl_by hg
theorem InN.add (h : InN Z N sc X) (ha : DE X W a fa) (hb : DE X W b fb) : DE X W (.BinOp a .Add b pos) (fBin dAdd fa fb) := de_bin op_addG dAdd_ok ha hb
theorem InN.sub (h : InN Z N sc X) (ha : DE X W a fa) (hb : DE X W b fb) : DE X W (.BinOp a .Sub b pos) (fBin dSub fa fb) := de_bin op_sub dInt0_ok ha hb
theorem InN.mul (h : InN Z N sc X) (ha : DE X W a fa) (hb : DE X W b fb) : DE X W (.BinOp a .Mult b pos) (fBin dMul fa fb) := de_bin op_mulA dMul_ok ha hb
theorem InN.div (h : InN Z N sc X) (ha : DE X W a fa) (hb : DE X W b fb) : DE X W (.BinOp a .FloorDiv b pos) (fBin dDiv fa fb) := de_bin op_fdivW dDiv_ok ha hb
theorem InN.mod (h : InN Z N sc X) (ha : DE X W a fa) (hb : DE X W b fb) : DE X W (.BinOp a .Mod b pos) (fBin dMod fa fb) := de_bin op_mod dMod_ok ha hb
theorem InN.pow (h : InN Z N sc X) (ha : DE X W a fa) (hb : DE X W b fb) : DE X W (.BinOp a .Pow b pos) (fBin dPow fa fb) := de_bin op_pow dPow_ok ha hb
def dLt := dOrd fun i j => decide (i < j)
def dLe := dOrd fun i j => decide (i ≤ j)
def dGt := dOrd fun i j => decide (j < i)
def dGe := dOrd fun i j => decide (j ≤ i)
inductive CmpD (c : Cc) (X : Cx) : CmpOp → (D → D → Sg → Res D) → Prop
  | mk {op : CmpOp} {o : D → D → Sg → Res D} (r : R2) (h1 : OpR X (compareOp op) r) (h2 : OpD c r o) : CmpD c X op o
theorem InN.lt (h : InN Z N sc X) : CmpD X.cc X .Lt dLt := .mk _ op_lt (dOrd_ok _)
theorem InN.le (h : InN Z N sc X) : CmpD X.cc X .LtE dLe := .mk _ op_le (dOrd_ok _)
theorem InN.gt (h : InN Z N sc X) : CmpD X.cc X .Gt dGt := .mk _ op_gt (dOrd_ok _)
theorem InN.ge (h : InN Z N sc X) : CmpD X.cc X .GtE dGe := .mk _ op_ge (dOrd_ok _)
theorem InN.eq (h : InN Z N sc X) : CmpD X.cc X .Eq dEq := .mk _ (op_eqP (by have := h.un; omega)) dEq_ok
theorem InN.ne (h : InN Z N sc X) : CmpD X.cc X .NotEq dNe := .mk _ (op_neP (by have := h.un; omega)) dNe_ok
theorem InN.is (h : InN Z N sc X) : CmpD X.cc X .Is dIs := .mk _ (OpR.or op_isN op_isBl) dIs_ok
theorem InN.in_ (h : InN Z N sc X) : CmpD X.cc X .In dIn := .mk _ (op_inG (by have := h.un; omega)) dIn_ok
variable {op op' : CmpOp} {o o' : D → D → Sg → Res D}
theorem CmpD.ev (h : CmpD X.cc X op o) (ha : DE X W a fa) (hb : DE X W b fb) (hm : behindInMarks op b = false := by with_unfolding_all rfl) : DE X W (.Compare a [op] [b] pos) (fBin o fa fb) := by
  obtain ⟨r, h1, h2⟩ := h
  exact de_cmp h1 h2 ha hb hm
theorem CmpD.tv (h : CmpD X.cc X op o) (ha : DE X W a fa) (hb : DE X W b fb) (hm : behindInMarks op b = false := by with_unfolding_all rfl) : DT X W (.Compare a [op] [b] pos) (fB (fBin o fa fb)) := by
  obtain ⟨r, h1, h2⟩ := h
  exact dt_cmp h1 h2 ha hb hm
theorem CmpD.ce (h : CmpD X.cc X op o) (h' : CmpD X.cc X op' o') (ha : DE X W a fa) (hb : DE X W b fb) (hc : DE X W cc fc) (hm : lastMarks [op, op'] [b, cc] = false := by with_unfolding_all rfl) : DE X W (.Compare a [op, op'] [b, cc] pos) (fChain o o' fa fb fc) := by
  obtain ⟨r, h1, h2⟩ := h
  obtain ⟨r', h1', h2'⟩ := h'
  exact de_chain h1 h1' h2 h2' ha hb hc hm
theorem CmpD.ct (h : CmpD X.cc X op o) (h' : CmpD X.cc X op' o') (ha : DE X W a fa) (hb : DE X W b fb) (hc : DE X W cc fc) (hm : lastMarks [op, op'] [b, cc] = false := by with_unfolding_all rfl) : DT X W (.Compare a [op, op'] [b, cc] pos) (fB (fChain o o' fa fb fc)) := by
  obtain ⟨r, h1, h2⟩ := h
  obtain ⟨r', h1', h2'⟩ := h'
  exact dt_chain h1 h1' h2 h2' ha hb hc hm
theorem InN.cons (h : InN Z N sc X) (he : DE X W e fa) (hr : DA X W es fs) (hs : noStar e = true := by rfl) : DA X W (e :: es) (fCons fa fs) := da_cons he hr (star_cons hs)
theorem InN.ix (h : InN Z N sc X) (ha : DE X W a fa) (hb : DE X W b fb) (hs : plainI b = true := by rfl) : DE X W (.Subscript a b pos) (fBin dIx fa fb) := de_ix (by have := h.un; omega) ha hb hs
variable {p : Pos}
theorem InN.blt (h : InN Z N sc X) {id : String} {r : List V → Hp → VK → Prop} {o : List D → Sg → Res D} (hc : CallR X (.builtin id) r) (ho : CallD X.cc r o) (hv : bootBuiltins x = some (.builtin id)) (ha : DA X W (e :: es) fs)
    (hg : glB sc x = true) (hx : x ∈ freeNames := by decide) (hp : plainN x = true := by decide) (hs : (e :: es).all noStar = true) : DE X W (.Call (.Name x p) (e :: es) [] pos) (fCall o fs) := by
  rw [List.all_cons, Bool.and_eq_true] at hs
  exact de_callB hc ho (h.glb hg) (h.free hx) hv ha (plainN_3 hp) (plainN_1 hp) (star_cons hs.1) (star_no hs.2)
theorem InN.ty (h : InN Z N sc X) {id : String} {r : List V → Hp → VK → Prop} {o : List D → Sg → Res D} (hc : CallR X (.type id) r) (ho : CallD X.cc r o) (hv : bootBuiltins x = some (.type id)) (ha : DA X W (e :: es) fs)
    (hg : glB sc x = true) (hx : x ∈ freeNames := by decide) (hp : plainN x = true := by decide) (hs : (e :: es).all noStar = true) : DE X W (.Call (.Name x p) (e :: es) [] pos) (fCall o fs) := by
  rw [List.all_cons, Bool.and_eq_true] at hs
  exact de_callTy hc ho (h.glb hg) (h.free hx) hv ha (plainN_3 hp) (plainN_1 hp) (star_cons hs.1) (star_no hs.2)
theorem InN.len_ (h : InN Z N sc X) (ha : DA X W (e :: es) fs) (hg : glB sc "len" = true := by decide +kernel) (hs : (e :: es).all noStar = true := by rfl) : DE X W (.Call (.Name "len" p) (e :: es) [] pos) (fCall oLen fs) :=
  h.blt call_lenG oLen_ok (by decide +kernel) ha hg (by decide +kernel) (by decide +kernel) hs
theorem InN.int_ (h : InN Z N sc X) (ha : DA X W (e :: es) fs) (hg : glB sc "int" = true := by decide +kernel) (hs : (e :: es).all noStar = true := by rfl) : DE X W (.Call (.Name "int" p) (e :: es) [] pos) (fCall oInt fs) :=
  h.ty call_intG oInt_ok (by decide +kernel) ha hg (by decide +kernel) (by decide +kernel) hs
theorem InN.abs_ (h : InN Z N sc X) (ha : DA X W (e :: es) fs) (hg : glB sc "abs" = true := by decide +kernel) (hs : (e :: es).all noStar = true := by rfl) : DE X W (.Call (.Name "abs" p) (e :: es) [] pos) (fCall oAbs fs) :=
  h.blt call_abs oAbs_ok (by decide +kernel) ha hg (by decide +kernel) (by decide +kernel) hs
theorem InE.all_ (h : InE Z N sc X W) (ha : DA X W (e :: es) fs) (hg : glB sc "all" = true := by decide +kernel) (hs : (e :: es).all noStar = true := by rfl) : DE X W (.Call (.Name "all" p) (e :: es) [] pos) (fCall oAll fs) :=
  h.toInN.blt (cr_all h.calm) oAll_ok (by decide +kernel) ha hg (by decide +kernel) (by decide +kernel) hs
theorem InN.tuple_ (h : InN Z N sc X) (ha : DA X W (e :: es) fs) (hg : glB sc "tuple" = true := by decide +kernel) (hs : (e :: es).all noStar = true := by rfl) : DE X W (.Call (.Name "tuple" p) (e :: es) [] pos) (fCall oTuple fs) :=
  h.ty call_tuple_of oTuple_ok (by decide +kernel) ha hg (by decide +kernel) (by decide +kernel) hs
theorem InE.min_ (h : InE Z N sc X W) (ha : DA X W (e :: es) fs) (hg : glB sc "min" = true := by decide +kernel) (hs : (e :: es).all noStar = true := by rfl) : DE X W (.Call (.Name "min" p) (e :: es) [] pos) (fCall oMin fs) :=
  h.toInN.blt (call_min2 h.calm) oMin_ok (by decide +kernel) ha hg (by decide +kernel) (by decide +kernel) hs
theorem InN.isinstance_ (h : InN Z N sc X) (ha : DA X W (e :: es) fs) (hg : glB sc "isinstance" = true := by decide +kernel) (hs : (e :: es).all noStar = true := by rfl) : DE X W (.Call (.Name "isinstance" p) (e :: es) [] pos) (fCall oIsi fs) :=
  h.blt call_isi oIsi_ok (by decide +kernel) ha hg (by decide +kernel) (by decide +kernel) hs
theorem InN.tyv (h : InN Z N sc X) {T : String} (hv : bootBuiltins x = some (.type T) := by decide +kernel) (hg : glB sc x = true := by decide +kernel) (hx : x ∈ freeNames := by decide +kernel) (hp : plainN x = true := by decide +kernel) : DE X W (.Name x pos) (fC (.ty T)) :=
  PE.imp (pe_bltn (v := .ty T) (h.glb hg) (h.free hx) hv rfl (plainN_3 hp) (plainN_1 hp)) fun σ H Q ⟨ρ, env, S, E, R, q⟩ => q.done R (.ty T)
theorem InE.call (h : InE Z N sc X W) {F : Fn} {k n : Nat} (hG : FnK Z.P Z.w Z.K Z.mg Z.base k ⟨x, n, F⟩) (ha : DA X W (e :: es) fs) (hlen : ∀ env S ds S', fs env S = .ok ds S' → ds.length = n) (hk : k ≤ Z.k := by exact Nat.le_of_ble_eq_true rfl) (hg : glB sc x = true := by decide +kernel)
    (hp : plainN x = true := by decide +kernel) (hs : (e :: es).all noStar = true := by rfl) : DE X W (.Call (.Name x p) (e :: es) [] pos) (fCall F fs) := by
  rw [List.all_cons, Bool.and_eq_true] at hs
  refine de_call (k := k) (n := n) ?_ (h.room.mono hk) (h.toInN.glb hg) h.tk ha hlen (plainN_1 hp) (star_cons hs.1) (star_no hs.2)
  rw [h.prog, h.wd, h.kf, h.gl, h.bs]
  exact hG
theorem InE.call0 (h : InE Z N sc X W) {F : Fn} {k : Nat} (hG : FnK Z.P Z.w Z.K Z.mg Z.base k ⟨x, 0, F⟩) (hk : k ≤ Z.k := by exact Nat.le_of_ble_eq_true rfl) (hg : glB sc x = true := by decide +kernel)
    (hp : plainN x = true := by decide +kernel) : DE X W (.Call (.Name x p) [] [] pos) (fCall F fNil) := by
  refine de_call0 (k := k) ?_ (h.room.mono hk) (h.toInN.glb hg) h.tk (plainN_1 hp)
  rw [h.prog, h.wd, h.kf, h.gl, h.bs]
  exact hG
inductive FsN : FL → Nat → Prop
  | nil : FsN fNil 0
  | cons {fa : FE} {fs : FL} {n : Nat} (t : FsN fs n) : FsN (fCons fa fs) (n + 1)
theorem FsN.len {fs : FL} {n : Nat} (h : FsN fs n) : ∀ env S ds S', fs env S = .ok ds S' → ds.length = n := by
  induction h with
  | nil =>
    intro env S ds S' q
    cases q
    rfl
  | @cons fa fs n t ih =>
    intro env S ds S' q
    unfold fCons at q
    cases r : fa env S with
    | ok d S1 =>
      rw [r, Res.bind_ok] at q
      cases r2 : fs env S1 with
      | ok es S2 =>
        rw [r2, Res.bind_ok] at q
        cases q
        rw [List.length_cons, ih _ _ _ _ r2]
      | er m S2 => rw [r2] at q; cases q
      | st => rw [r2] at q; cases q
    | er m S2 => rw [r] at q; cases q
    | st => rw [r] at q; cases q
theorem few_ok {es : List Expr} (hs : es.all noStar = true) (hl : decide (es.length < 29) = true) : ((backTo pos (starEach es X.env)).all (fun x => !x.1) && (backToKw pos (keywordEach [] X.env)).all (fun x => x.1.isSome)
      && decide (es.length + ([] : List Keyword).length + (if ([] : List Keyword).isEmpty then 0 else 1) < 30)) = true := by
  rw [star_all hs]
  have := of_decide_eq_true hl
  show (true && true && decide (es.length + 0 + 0 < 30)) = true
  simp
  omega
theorem InN.mth (h : InN Z N sc X) {T id : String} {name : Str} {apos : Pos} {r : V → List V → Hp → VK → Prop} {o : D → List D → Sg → Res D} (pa : PlainAttrs T) (slot : Slot T name id) (hty : typeOf (.builtin id) = pure (.type "method_descriptor")) (hm : MtR X id r) (ho : MthD X.cc r o) (ha : DE X W a fa) (hs : DA X W (e :: es) fs)
    (hb : noCall0 a = true) (hn : (e :: es).all noStar = true) (hl : decide ((e :: es).length < 29) = true) (hline : (apos.endLine == pos.line) = true) : DE X W (.Call (.Attribute a name apos) (e :: es) [] pos) (fMth T o fa fs) :=
  de_mth pa slot hty hm ho ha hs (noCall_base hb) (few_ok hn hl) hline (star_cons (by rw [List.all_cons, Bool.and_eq_true] at hn; exact hn.1)) (star_no (by rw [List.all_cons, Bool.and_eq_true] at hn; exact hn.2))
theorem InN.m_append (h : InN Z N sc X) {apos : Pos} (ha : DE X W a fa) (hs : DA X W (e :: es) fs) (hb : noCall0 a = true := by rfl) (hn : (e :: es).all noStar = true := by rfl) (hl : decide ((e :: es).length < 29) = true := by rfl) (hline : (apos.endLine == pos.line) = true := by rfl) :
    DE X W (.Call (.Attribute a "append" apos) (e :: es) [] pos) (fMth "list" oAppend fa fs) := h.mth PySem.F.plainAttrs_list PySem.F.slot_list_append PySem.F.type_list_append mt_append oAppend_ok ha hs hb hn hl hline
theorem InN.m_get (h : InN Z N sc X) {apos : Pos} (ha : DE X W a fa) (hs : DA X W (e :: es) fs) (hb : noCall0 a = true := by rfl) (hn : (e :: es).all noStar = true := by rfl) (hl : decide ((e :: es).length < 29) = true := by rfl) (hline : (apos.endLine == pos.line) = true := by rfl) :
    DE X W (.Call (.Attribute a "get" apos) (e :: es) [] pos) (fMth "dict" oGet fa fs) := h.mth PySem.F.plainAttrs_dict PySem.F.slot_dict_get PySem.F.type_dict_get (mt_dget (by have := h.un; omega)) oGet_ok ha hs hb hn hl hline
theorem InE.blk (h : InE Z N sc X W) {scope : Scope} (s : Shared) (H : Hp) (C : Addr) (cl : List (Str × Addr)) (fp : List Addr) : InE Z N (relS scope sc) (X.blk s H scope (compEnvC scope cl C X.env) fp) (fun _ _ _ _ => False) :=
  ⟨⟨h.prog, h.wd, h.kf, h.gl, h.bs, h.n, by rw [← h.sc]; rfl, h.nd, h.fr, h.un⟩, h.calm, takes0, h.room⟩
theorem InE.nmB (h : InE Z N sc X W) {i : Nat} (hi : N[i]? = some x := by rfl) (hx : sc.names.lookup x = some .local := by decide +kernel) : PG X (.Name x p) ((Tg.one i).t X.K) :=
  pg_name h.nd (by rw [h.n]; exact hi) (.inl (by rw [h.sc]; exact hx)) (.inr (by rw [h.sc]; exact hx))
def noSet : Expr → Bool
  | .Set _ _ _ => false
  | _ => true
theorem noSet_f {e : Expr} {env : PySem.Env} (h : noSet e = true) (x : Value) : foldedSetIterable e env x = pure x := by
  cases e <;> first | rfl | cases h
variable {elt tg iter : Expr} {scope : Scope} {ifs : List Expr} {own : List (Str × Nat)} {fi : FI} {T : Tg} {t : FT} {fe : FE} {use : Bool}
theorem InE.lc (h : InE Z N sc X W) (own : List (Str × Nat)) (hi : DI X W tg iter fi)
    (hg : ∀ (s : Shared) (H : Hp) (C : Addr) (cl : List (Str × Addr)) (fp : List Addr), PG (X.blk s H scope (compEnvC scope cl C X.env) fp) tg (T.t X.K))
    (ht : ∀ (s : Shared) (H : Hp) (C : Addr) (cl : List (Str × Addr)) (fp : List Addr), PTs (X.blk s H scope (compEnvC scope cl C X.env) fp) ifs (canT X.cc [] (fun _ _ _ _ => False) t))
    (he : ∀ (s : Shared) (H : Hp) (C : Addr) (cl : List (Str × Addr)) (fp : List Addr), DE (X.blk s H scope (compEnvC scope cl C X.env) fp) (fun _ _ _ _ => False) elt fe)
    (hb : blkC N sc scope own = true := by decide +kernel) (hown : ∀ i ∈ T.is, i ∈ own.map (·.2) := by decide) (hs : noSet iter = true := by rfl) : DE X W (.ListComp elt [⟨tg, iter, ifs, 0⟩] scope pos) (fLc use (own.map (·.2)) fi T t fe) :=
  de_lc h.calm h.nd hi (by rw [h.n, h.sc]; exact blkOk_by hb) hown hg ht he (noSet_f hs)
theorem InN.ccE (h : InN Z N sc X) : X.cc = ⟨Z.K, Z.mg, Z.w⟩ := by
  show (⟨X.K, X.mg, X.w⟩ : Cc) = _
  rw [h.kf, h.gl, h.wd]
variable {g g2 : FS} {st : Stmt} {body : List Stmt} {px : Pos}
theorem InE.nm (h : InS Z N sc X W) {i : Nat} (hi : N[i]? = some x := by rfl) (hx : locB sc x = true := by decide +kernel) : DG X (.Name x p) (gNm i) :=
  dg_name h.nd (by rw [h.n]; exact hi) (by rw [h.sc]; exact loc_by hx) (.inl (h.fns x))
theorem InS.set (h : InS Z N sc X W) {i : Nat} (he : DE X W e fa) (hi : N[i]? = some x := by rfl) (hx : locB sc x = true := by decide +kernel) (hc : noComp e = true := by rfl) : DS X W (.Assign [.Name x px] e pos) (sAsg fa (gNm i)) :=
  ds_set h.nd (by rw [h.n]; exact hi) (by rw [h.sc]; exact loc_by hx) he (noComp_sw hc) (.inl (h.fns x))
theorem NmTs.mk (h : InS Z N sc X W) {i : Nat} {is : List Nat} (t : NmTs X es is) (hi : N[i]? = some x := by rfl) (hx : locB sc x = true := by decide +kernel) : NmTs X (.Name x px :: es) (i :: is) :=
  .cons (by rw [h.n]; exact hi) (by rw [h.sc]; exact loc_by hx) (.inl (h.fns x)) t
theorem InS.tup (h : InS Z N sc X W) {is : List Nat} {k : Nat} (t : NmTs X es is) : DG X (.Tuple es k px) (gTupN is) := dg_tup h.calm h.nd t
theorem InS.setT (h : InS Z N sc X W) {is : List Nat} {k : Nat} (he : DE X W e fa) (t : NmTs X es is) (hc : noComp e = true := by rfl) (ht : noTup e = true := by rfl) : DS X W (.Assign [.Tuple es k px] e pos) (sAsg fa (gTupN is)) :=
  ds_asg he (h.tup t) (noComp_sole hc) (noTup_st (.inr ht)) rfl
theorem InS.setIx (h : InS Z N sc X W) {o i : Expr} {fo fi fv : FE} (hv : DE X W e fv) (ho : DE X W o fo) (hi : DE X W i fi) (hc : noComp e = true := by rfl)
    (ha : ∀ v, assign (.Subscript o i px) X.env v = (do
      let ov ← holding [v] (eval o X.env)
      let iv ← holding [v, ov] (eval i X.env)
      standAt px
      holding [v, ov, iv] (setItem ov iv v)
      release [v, ov, iv] []) := by intro v; rfl) : DS X W (.Assign [.Subscript o i px] e pos) (sSetIx fo fi fv) :=
  ds_setIx (by have := h.un; omega) ho hi hv (noComp_sole hc) (noTup_st (.inl rfl)) ha
theorem InS.aug (h : InS Z N sc X W) {op : Operator} {r : R2} {o : D → D → Sg → Res D} {i : Nat} (hr : PIp X op r) (ho : OpD X.cc r o) (he : DE X W e fa) (hi : N[i]? = some x := by rfl) (hx : locB sc x = true := by decide +kernel) : DS X W (.AugAssign (.Name x px) op e pos) (sAug i o fa) :=
  ds_aug h.nd (by rw [h.n]; exact hi) (by rw [h.sc]; exact loc_by hx) he hr ho (.inl (h.fns x))
theorem InS.expr (h : InS Z N sc X W) (he : DE X W e fa) (hc : noComp e = true := by rfl) : DS X W (.Expr e pos) (sDrop fa) := ds_expr he (noComp_sw hc)
theorem InS.raise (h : InS Z N sc X W) {m : Str} {j : Nat} {p2 pos' : Pos} (hx : ExcK Z.K Z.mg x) (hg : glB sc x = true := by decide +kernel) (hp : plainN x = true := by decide +kernel) : DS X W (.Raise (some (.Call (.Name x p) [.Constant (.str m) j p2] [] pos')) none pos) (sRaise x) :=
  ds_raise h.calm h.tk (by rw [h.kf, h.gl]; exact hx) (h.toInN.glb hg) (plainN_1 hp)
theorem InS.whil (h : InS Z N sc X W) {t : FT} (hc : DT X W e t) (hb : DSs X W body g) : DS X W (.While e body [] pos) (sWhile t g) := ds_while h.pass hc hb
theorem InN.range1 (h : InN Z N sc X) {q : Pos} (ha : DA X W [a] fs) (hg : glB sc "range" = true := by decide +kernel) (hs : noStar a = true := by rfl) : DI X W tg (.Call (.Name "range" p) [a] [] q) (fIt iRange1 fs) :=
  di_range1 (h.glb hg) h.free ha (star_cons hs)
theorem InN.enum (h : InN Z N sc X) {q tq : Pos} {elts : List Expr} {kk : Nat} (ha : DA X W [a] fs) (hg : glB sc "enumerate" = true := by decide +kernel) (hs : noStar a = true := by rfl) : DI X W (.Tuple elts kk tq) (.Call (.Name "enumerate" p) [a] [] q) (fIt iEnumD fs) :=
  di_enum (h.glb hg) h.free ha (star_cons hs)
theorem InS.for_ (h : InS Z N sc X W) {f : FG} (hi : DI X W tg iter fi) (hg : DG X tg f) (hb : DSs X W body g) (hs : noSet iter = true := by rfl) : DS X W (.For tg iter body [] pos) (sFor fi f g) := ds_for h.pass h.calm hi hg hb (noSet_f hs)
theorem InS.par (h : InS Z N sc X W) {i j : Nat} {x y : Str} {px py pt pt2 : Pos} {kt k2 : Nat} (ha : DA X W [a, b] fs) (hi : N[i]? = some x := by rfl) (hj : N[j]? = some y := by rfl) (hij : i ≠ j := by decide)
    (hx : sc.names.lookup x = some .local := by decide +kernel) (hy : sc.names.lookup y = some .local := by decide +kernel)
    (hw : swappedStores [.Tuple [.Name x px, .Name y py] kt pt] (.Tuple [a, b] k2 pt2) X.env = pure (some [x, y])) :
    DS X W (.Assign [.Tuple [.Name x px, .Name y py] kt pt] (.Tuple [a, b] k2 pt2) pos) (sPar [i, j] fs) :=
  ds_par h.calm h.nd (by rw [h.n]; exact hi) (by rw [h.n]; exact hj) hij (by rw [h.sc]; exact hx) (by rw [h.sc]; exact hy) ha hw rfl
theorem sw_two {env : PySem.Env} {x y : Str} {px py pt pt2 : Pos} {kt k2 : Nat} (hk : sc.kind = .function) (he : env.scope = sc) (hx : sc.names.lookup x = some .local) (hy : sc.names.lookup y = some .local) (hl : py.line = px.line) (hxy : x ≠ y) (h1 : noStar a = true) (h2 : noStar b = true)
    (hf : ([a, b].all (foldedForSure 8)) = false) (hc : ([a, b].all (constantsAlone 8)) = false) : swappedStores [.Tuple [.Name x px, .Name y py] kt pt] (.Tuple [a, b] k2 pt2) env = pure (some [x, y]) := by
  unfold swappedStores
  have hb : env.blockKind = .function := by
    unfold Env.blockKind
    rw [he, hk]
    rfl
  have s1 : ([a, b].any fun | .Starred .. => true | _ => false) = false := by
    cases a <;> first | (cases h1; done) | (cases b <;> first | rfl | cases h2)
  have kx : env.kindOf x = some .local := by unfold Env.kindOf; rw [he]; exact hx
  have ky : env.kindOf y = some .local := by unfold Env.kindOf; rw [he]; exact hy
  have exy : (x == y) = false := by simpa using hxy
  have eyx : (y == x) = false := by simpa using Ne.symm hxy
  have lx : ((Expr.Name x px).pos.line) = px.line := rfl
  have d2 : [x, y].eraseDups.length = 2 := by
    simp [List.eraseDups_cons, eyx, exy]
  simp [hb, s1, kx, ky, hl, hf, hc, lx, d2]
  rintro (q | q)
  · split at q
    · cases h1
    · cases q
  · split at q
    · cases h2
    · cases q
theorem sw_lc {env : PySem.Env} {y : Str} {py lpos : Pos} {gens : List Comprehension} {l : Nat} (he : env.scope = sc) (hk : sc.kind = .function) (hy : sc.names.lookup y = some .local) (hl : (py.line == lpos.line) = true)
    (hn : (scope.names.any fun (n, k) => n == y && (k == .local || k == .cell)) = false) : swapsWith (.ListComp elt gens scope lpos) (some (.Name y py)) l env = pure true := by
  unfold swapsWith
  have hb : env.blockKind = .function := by
    unfold Env.blockKind
    rw [he, hk]
    rfl
  have ky : env.kindOf y = some .local := by unfold Env.kindOf; rw [he]; exact hy
  have hp : (Expr.ListComp elt gens scope lpos).pos.line = lpos.line := rfl
  simp only [hb, ky, hp, hl, hn]
  rfl
theorem InS.setLc (h : InS Z N sc X W) {i : Nat} {y : Str} {py spos lpos : Pos} (own : List (Str × Nat)) (hi : DI X W tg iter fi)
    (hg : ∀ (s : Shared) (H : Hp) (C : Addr) (cl : List (Str × Addr)) (fp : List Addr), PG (X.blk s H scope (compEnvC scope cl C X.env) fp) tg (T.t X.K))
    (ht : ∀ (s : Shared) (H : Hp) (C : Addr) (cl : List (Str × Addr)) (fp : List Addr), PTs (X.blk s H scope (compEnvC scope cl C X.env) fp) ifs (canT X.cc [] (fun _ _ _ _ => False) t))
    (he : ∀ (s : Shared) (H : Hp) (C : Addr) (cl : List (Str × Addr)) (fp : List Addr), DE (X.blk s H scope (compEnvC scope cl C X.env) fp) (fun _ _ _ _ => False) elt fe)
    (hN : N[i]? = some y := by rfl) (hy : sc.names.lookup y = some .local := by decide +kernel) (hk : sc.kind = .function := by rfl) (hl : (py.line == lpos.line) = true := by rfl)
    (hn : (scope.names.any fun (n, k) => n == y && (k == .local || k == .cell)) = false := by decide +kernel)
    (hb : blkC N sc scope own = true := by decide +kernel) (hown : ∀ i ∈ T.is, i ∈ own.map (·.2) := by decide) (hs : noSet iter = true := by rfl) :
    DS X W (.Assign [.Name y py] (.ListComp elt [⟨tg, iter, ifs, 0⟩] scope lpos) spos) (sAsg (fLc use (own.map (·.2)) fi T t fe) (gNm i)) :=
  ds_setLc h.calm h.nd (by rw [h.n]; exact hN) (by rw [h.sc]; exact hy) (sw_lc h.sc hk hy hl hn) hi (by rw [h.n, h.sc]; exact blkOk_by hb) hown hg ht he (noSet_f hs)
inductive NmB (N : List Str) (sc : Scope) : List Expr → List Nat → Prop
  | nil : NmB N sc [] []
  | cons {x : Str} {p : Pos} {i : Nat} {es : List Expr} {is : List Nat} (hi : N[i]? = some x) (hx : sc.names.lookup x = some .local) (t : NmB N sc es is) : NmB N sc (.Name x p :: es) (i :: is)
theorem NmB.mk {x : Str} {p : Pos} {i : Nat} {es : List Expr} {is : List Nat} (t : NmB N sc es is) (hi : N[i]? = some x := by rfl) (hx : sc.names.lookup x = some .local := by decide +kernel) : NmB N sc (.Name x p :: es) (i :: is) := .cons hi hx t
theorem NmB.ts (h : InE Z N sc X W) {es : List Expr} {is : List Nat} (t : NmB N sc es is) : NmTs X es is := by
  induction t with
  | nil => exact .nil
  | cons hi hx _ ih => exact .cons (by rw [h.n]; exact hi) (.inl (by rw [h.sc]; exact hx)) (.inr (by rw [h.sc]; exact hx)) ih
theorem InE.tupB (h : InE Z N sc X W) {es : List Expr} {is : List Nat} {k : Nat} (t : NmB N sc es is) : PG X (.Tuple es k px) ((Tg.tup is).t X.K) := by
  have ts := t.ts h
  obtain ⟨h1, h2⟩ := ts.plain
  have := pg_tup (pos := px) (k := k) h.calm (pgs_names h.nd ts) h1 h2
  exact this
end
mutual
theorem constB_ok {c : Cc} : ∀ {d : D} {u : Value}, constB c.K d u = true → ∃ v, RelV v u ∧ ∀ ρ H, RD c ρ H v d
  | .int i, .int j t, h => by
    have e : i = j := of_decide_eq_true (by simpa [constB] using h)
    subst e
    exact ⟨.int i, ⟨t, rfl⟩, fun _ _ => .int i⟩
  | .str i, .str j t, h => by
    have e : i = j := of_decide_eq_true (by simpa [constB] using h)
    subst e
    exact ⟨.str i, ⟨t, rfl⟩, fun _ _ => .str i⟩
  | .bl i, .bool j, h => by
    have e : i = j := of_decide_eq_true (by simpa [constB] using h)
    subst e
    exact ⟨.bl i, rfl, fun _ _ => .bl i⟩
  | .non, .none, h => ⟨.non, rfl, fun _ _ => .non⟩
  | .tup false ds, .ref p, h => by
    unfold constB at h
    split at h
    · rename_i cn dd its nn ss hl
      rw [Bool.and_eq_true, Bool.and_eq_true] at h
      obtain ⟨h1, h2, h3⟩ := h
      obtain ⟨vs, r, q⟩ := constBs_ok h3
      exact ⟨.ref p, rfl, fun ρ H => .tup ⟨(fun z => by cases z), .inr ⟨_, its, _, hl, congrArg Value.type (of_decide_eq_true h1), rfl, of_decide_eq_true h2, r⟩⟩ (q ρ H)⟩
    · cases h
theorem constBs_ok {c : Cc} : ∀ {ds : List D} {us : List Value}, constBs c.K ds us = true → ∃ vs, Vals vs us ∧ ∀ ρ H, RL c ρ H vs ds
  | [], [], _ => ⟨[], .nil, fun _ _ => .nil⟩
  | d :: ds, u :: us, h => by
    unfold constBs at h
    rw [Bool.and_eq_true] at h
    obtain ⟨v, r, q⟩ := constB_ok h.1
    obtain ⟨vs, rs, qs⟩ := constBs_ok h.2
    exact ⟨v :: vs, .cons r rs, fun ρ H => .cons (q ρ H) (qs ρ H)⟩
end
theorem InN.gC {Z : Zk} {N : List Str} {sc : Scope} {X : Cx} {W : WX} {x : Str} {pos : Pos} {d : D} (h : InN Z N sc X) (hc : ∃ u, Z.mg x = some u ∧ constB Z.K d u = true) (hg : glB sc x = true := by decide +kernel) (hp : plainN x = true := by decide +kernel) : DE X W (.Name x pos) (fC d) := by
  obtain ⟨u, hm, hb⟩ := hc
  obtain ⟨v, r, q⟩ := constB_ok (c := X.cc) (d := d) (u := u) (by rw [h.ccE]; exact hb)
  exact PE.imp (pe_glob (h.glb hg) (by rw [h.gl]; exact hm) r (plainN_1 hp)) fun σ H Q ⟨ρ, env, S, E, R, z⟩ => z.done R (q ρ H)
theorem fn_in {P : Program} {w : World} {K : PySem.W.Frag} {mg : Str → Option Value} {base : Heap} {x qual : Str} {st : Stmt} {f : Addr} {fd : FuncData} {N ps : List Str} {k : Nat} {g : FS} (fr : Free mg) (F : Fun K x qual st f fd) (S : FnScope N ps (defScope st)) (hm : mg x = some (.ref f)) (b : Binds K fd ps [])
    (hb : ∀ X W, InS ⟨P, w, K, mg, base, k⟩ N (defScope st) X W → DSs X W (defBody st) g) : FnK P w K mg base (k + 1) ⟨x, ps.length, runF N.length g⟩ :=
  fn_def F S hm b fun X W h _ => hb X W ⟨⟨⟨h.prog, h.wd, h.kf, h.gl, h.bs, h.n, h.sc, h.nd, fr, by have := h.room.un; omega⟩, h.calm, h.tk, h.room⟩, h.pass, h.stk, h.frm, h.fn⟩
theorem fn_inO {P : Program} {w : World} {K : PySem.W.Frag} {mg : Str → Option Value} {base : Heap} {x qual : Str} {st : Stmt} {f : Addr} {fd : FuncData} {N ps : List Str} {k : Nat} {g : FS} (fr : Free mg) (F : Fun K x qual st f fd) (S : FnScope N ps (defScope st))
    (hb : ∀ X W, InS ⟨P, w, K, mg, base, k⟩ N (defScope st) X W → DSs X W (defBody st) g) : FnOk P w K mg base (L2.CX P w) (k + 1) f fd ps (spD ⟨K, mg, w⟩ ps.length (runF N.length g)) :=
  fn_okD F S fun X W h _ => hb X W ⟨⟨⟨h.prog, h.wd, h.kf, h.gl, h.bs, h.n, h.sc, h.nd, fr, by have := h.room.un; omega⟩, h.calm, h.tk, h.room⟩, h.pass, h.stk, h.frm, h.fn⟩
def fPairs : List (FE × FE) → Env → Sg → Res (List (D × D))
  | [], _, S => .ok [] S
  | (fk, fv) :: r, env, S => (fk env S).bind fun k S => (fv env S).bind fun v S => (fPairs r env S).bind fun ps S => .ok ((k, v) :: ps) S
def keyPs : List (D × D) → Option (List (Key × D))
  | [] => some []
  | (k, v) :: r => (keyD k).bind fun z => (keyPs r).map fun ps => (z, v) :: ps
def mergeD (kvs : List (Key × D)) (more : List (Key × D)) : List (Key × D) := more.foldl (fun acc kv => putD acc kv.1 kv.2) kvs
def fDct (fs : List (FE × FE)) : FE := fun env S => (fPairs fs env (S ++ [.dK []])).bind fun ps S' => match S'[S.length]? with
    | some (.dK []) => (match keyPs ps with
      | some kvs => if kvs.length ≤ 15 then .ok (.obj S.length) (S'.set S.length (.dK (mergeD [] kvs))) else .st
      | none => .st)
    | _ => .st
inductive DPs (X : Cx) (W : WX) (pos : Pos) : List (Option Expr) → List Expr → List (FE × FE) → Prop
  | nil : DPs X W pos [] [] []
  | cons {k v : Expr} {ks : List (Option Expr)} {vs : List Expr} {fk fv : FE} {fs : List (FE × FE)} (hk : DE X W k fk) (hv : DE X W v fv) (t : DPs X W pos ks vs fs) : DPs X W pos (some k :: ks) (v :: vs) ((fk, fv) :: fs)
section
variable {X : Cx} {W : WX} {pos : Pos} {keys : List (Option Expr)} {values : List Expr} {fs : List (FE × FE)}
theorem DPs.pps (h : DPs X W pos keys values fs) : PPs X pos keys values (fs.map fun q => (canE X.cc X.pn W q.1, canE X.cc X.pn W q.2)) := by
  induction h with
  | nil => exact pps_nil
  | cons hk hv _ ih => exact pps_cons hk hv ih
theorem DPs.len (h : DPs X W pos keys values fs) : keys.length = values.length ∧ keys.length = fs.length ∧ keys.all (·.isSome) = true := by
  induction h with
  | nil => exact ⟨rfl, rfl, rfl⟩
  | cons _ _ _ ih => exact ⟨by simp [ih.1], by simp [ih.2.1], by simpa using ih.2.2⟩
inductive RPs (c : Cc) (ρ : List Addr) (H : Hp) : List (V × V) → List (D × D) → Prop
  | nil : RPs c ρ H [] []
  | cons {a b : V} {d e : D} {vs : List (V × V)} {ds : List (D × D)} (h1 : RD c ρ H a d) (h2 : RD c ρ H b e) (t : RPs c ρ H vs ds) : RPs c ρ H ((a, b) :: vs) ((d, e) :: ds)
theorem can_pairs {c : Cc} {pn : List (Addr × Obj)} {σ : L2.St} {env : Env} : ∀ {fs : List (FE × FE)} {ρ : List Addr} {S : Sg} {H : Hp} {Q : List (V × V) → Hp → Prop}, RelEnv c pn ρ H σ env → Rel c ρ S H →
    Fin c W σ ρ H (fun ρ H v d => RPs c ρ H v d) (fPairs fs env S) Q → tPairs (fs.map fun q => (canE c pn W q.1, canE c pn W q.2)) σ H Q
  | [], ρ, S, H, Q, E, R, h => h.done R .nil
  | (fk, fv) :: r, ρ, S, H, Q, E, R, h => by
    refine ⟨ρ, env, S, E, R, Fin.mono h.bind fun x H1 ⟨ρ1, S1, a, e1, R1, r1, h1⟩ => ?_⟩
    refine ⟨ρ1, env, S1, E.ext e1, R1, Fin.mono h1.bind fun y H2 ⟨ρ2, S2, b, e2, R2, r2, h2⟩ => ?_⟩
    refine can_pairs (E.ext (e1.trans e2)) R2 (Fin.mono h2.bind fun ps H3 ⟨ρ3, S3, ds, e3, R3, r3, h3⟩ => ?_)
    exact h3.done R3 (.cons ((r1.ext e2).ext e3) (r2.ext e3) r3)
theorem keyPs_ok {c : Cc} {ρ : List Addr} {H : Hp} : ∀ {vs : List (V × V)} {ds : List (D × D)} {kvs : List (Key × D)}, RPs c ρ H vs ds → keyPs ds = some kvs → ∃ ws : List (Key × V), vs = ws.map (fun kv => (kV kv.1, kv.2)) ∧ RP c ρ H ws kvs
  | _, _, _, .nil, h => by cases h; exact ⟨[], rfl, .nil⟩
  | _, _, kvs, .cons (d := d) h1 h2 t, h => by
    unfold keyPs at h
    cases q : keyD d with
    | none => rw [q] at h; cases h
    | some z =>
      rw [q] at h
      obtain ⟨ps, e, rfl⟩ := Option.map_eq_some_iff.mp h
      obtain ⟨ws, e1, r⟩ := keyPs_ok t e
      refine ⟨(z, _) :: ws, ?_, .cons h2 r⟩
      rw [List.map_cons, ← e1, keyD_ok h1 q]
theorem RP.length {κ : Type} {c : Cc} {ρ : List Addr} {H : Hp} {vs : List (κ × V)} {ds : List (κ × D)} (r : RP c ρ H vs ds) : vs.length = ds.length := by
  induction r with
  | nil => rfl
  | cons _ _ ih => simp [ih]
theorem RP.merge {c : Cc} {ρ : List Addr} {H : Hp} {more : List (Key × V)} {moreD : List (Key × D)} (r : RP c ρ H more moreD) : ∀ {vs : List (Key × V)} {ds : List (Key × D)}, RP c ρ H vs ds → RP c ρ H (mergeK vs more) (mergeD ds moreD) := by
  induction r with
  | nil => intro vs ds q; exact q
  | cons h _ ih => intro vs ds q; exact ih (RP.put _ h q)
theorem de_dct (h : DPs X W pos keys values fs) (h0 : keys ≠ []) (h15 : keys.length ≤ 15) : DE X W (.Dict keys values pos) (fDct fs) := by
  obtain ⟨l1, l2, l3⟩ := h.len
  refine PE.imp (pe_disp h.pps l3 l1 h0 h15) fun σ H Q ⟨ρ, env, S, E, R, q⟩ => ?_
  intro p hp
  have R1 : Rel X.cc (ρ ++ [p]) (S ++ [.dK []]) (upd H p (.dK [])) := R.put hp ⟨[], upd_same, .nil⟩
  have e0 : Ext ρ H (ρ ++ [p]) (upd H p (.dK [])) := Ext.put hp
  refine can_pairs (E.ext e0) R1 (Fin.mono (Fin.ext e0 q).bind fun ps H2 ⟨ρ2, S2, ds, e2, R2, r2, h2⟩ => ?_)
  have hk : ρ2[S.length]? = some p := e2.get (by rw [← R.len]; simp)
  split at h2
  · rename_i hS
    split at h2
    · rename_i kvs hkv
      obtain ⟨a, ha, vs, e3, r3⟩ := R2.at_ S.length _ hS
      rw [hk] at ha
      cases ha
      cases r3
      obtain ⟨ws, e4, r4⟩ := keyPs_ok r2 hkv
      split at h2
      · rename_i hl
        refine ⟨e3, ws, e4, by rw [RP.length r4]; exact hl, ?_⟩
        have ee := Ext.set (o := .dK (mergeK [] ws)) R2 (List.mem_of_getElem? hk)
        exact h2 ρ2 _ _ ee (R2.set hk ⟨_, upd_same, (RP.merge r4 .nil).ext ee⟩) (.obj hk)
      · exact h2.elim
    · exact h2.elim
  · exact h2.elim
end
section
variable {Z : Zk} {N : List Str} {sc : Scope} {X : Cx} {W : WX} {pos p : Pos} {e : Expr} {es : List Expr} {fs : FL}
end
end G
namespace PySem
open Sem (wp)
open PySem.W
end PySem
namespace G
open PySem PySem.Spec L2 PyProof.Rows HT
section
variable {Z : Zk} {N : List Str} {sc : Scope} {X : Cx} {W : WX} {pos p : Pos} {e : Expr} {es : List Expr} {fs : FL}
end
end G
namespace G
open PySem PySem.Spec L2
section
variable {c : Cc} {ρ : List Addr} {H : Hp}
theorem RP.look (f : Str) : ∀ {vs : List (Str × V)} {ds : List (Str × D)}, RP c ρ H vs ds → (vs.lookup f = none ∧ ds.lookup f = none) ∨ ∃ v d, vs.lookup f = some v ∧ ds.lookup f = some d ∧ RD c ρ H v d
  | _, _, .nil => .inl ⟨rfl, rfl⟩
  | _, _, .cons (k := g) (v := v) (d := d) (vs := vs) (ds := ds) h r => by
    by_cases e : f = g
    · subst e
      exact .inr ⟨v, d, by simp [List.lookup], by simp [List.lookup], h⟩
    · have e2 : (f == g) = false := by simpa using e
      rcases RP.look f r with ⟨h1, h2⟩ | ⟨v', d', h1, h2, h3⟩
      · exact .inl ⟨by simp [List.lookup, e2, h1], by simp [List.lookup, e2, h2]⟩
      · exact .inr ⟨v', d', by simp [List.lookup, e2, h1], by simp [List.lookup, e2, h2], h3⟩
end
def insD (S : Sg) (n : Str) (d : D) : Option (Nat × List (Str × D)) := match d with
  | .obj k => match S[k]? with
    | some (.ins m fs) => if m = n then some (k, fs) else none
    | _ => none
  | _ => none
theorem insD_ok {c : Cc} {ρ : List Addr} {S : Sg} {H : Hp} {v : V} {d : D} {n : Str} {k : Nat} {fs : List (Str × D)} (R : Rel c ρ S H) (r : RD c ρ H v d) (h : insD S n d = some (k, fs)) :
    d = .obj k ∧ ∃ a C dx vs, v = .ref a ∧ ρ[k]? = some a ∧ c.mg n = some (.ref C) ∧ H a = some (.ins C dx vs) ∧ RP c ρ H vs fs := by
  cases r with
  | @obj kk a hk =>
    dsimp only [insD] at h
    split at h
    · rename_i m es hS
      split at h
      · rename_i hm
        subst hm
        cases h
        obtain ⟨a', ha', C, dx, vs, h1, h2, h3⟩ := R.at_ k _ hS
        rw [hk] at ha'; cases ha'
        exact ⟨rfl, a, C, dx, vs, rfl, hk, h1, h2, h3⟩
      · cases h
    · cases h
  | _ => exact nomatch h
def fInv (n m : Str) (F : Fn) (fo : FE) (fs : FL) : FE := fun env S => (fo env S).bind fun o S => match insD S n o with
  | some (_, fl) => if (fl.lookup m).isNone = true then (fs env S).bind fun ds S => F (o :: ds) S else .st
  | none => .st
structure MtE where
  cls : Str
  m : Str
  n : Nat
  F : Fn
section
variable (P : Program) (w : World) (K : PySem.W.Frag) (mg : Str → Option Value) (base : Heap)
def MtK (k : Nat) (e : MtE) : Prop := ∃ (C f : Addr) (fd : FuncData) (ps : List Str), mg e.cls = some (.ref C) ∧ Cls K C ∧ Meth K C e.m f ∧ Binds K fd ps [] ∧ ps.length = e.n ∧ FnOk P w K mg base (L2.CX P w) k f fd ps (spD ⟨K, mg, w⟩ e.n e.F)
end
section
variable {P : Program} {w : World} {K : PySem.W.Frag} {mg : Str → Option Value} {base : Heap} {k n : Nat} {x y : Str} {F F' : Fn}
theorem MtK.weak (h : MtK P w K mg base k ⟨x, y, n, F⟩) (hw : ∀ ds S, ds.length = n → Weak S (F ds S) (F' ds S)) : MtK P w K mg base k ⟨x, y, n, F'⟩ := by
  obtain ⟨C, f, fd, ps, h1, h2, h3, h4, h5, h6⟩ := h
  exact ⟨C, f, fd, ps, h1, h2, h3, h4, h5, h6.imp fun vs H Q E ⟨ρ, S, ds, R, r, hl, q⟩ => ⟨ρ, S, ds, R, r, hl, q.weak R (hw ds S hl)⟩⟩
end
section
variable {X : Cx} {W : WX} {a b o e : Expr} {es : List Expr} {pos p apos pos' : Pos} {fa fo fv : FE} {fs : FL} {n f m x : Str} {k j : Nat} {F : Fn}
def tMethQ (C : Addr) (m : Str) (sp : Sp) (E : L2.St → XK) (ta : TE) (t : TA) : TE := fun σ H Q => ta σ H fun x H1 => ∃ a dx fl, x = .ref a ∧ H1 a = some (.ins C dx fl) ∧ fl.lookup m = none ∧ t σ H1 fun vs H2 => sp (x :: vs) H2 Q (E σ)
theorem pe_methQ {pl : Sem Bool} {C g : Addr} {fd : FuncData} {ps : List Str} {sp : Sp} {E : L2.St → XK} {ta : TE} {t : TA} {CX : CXT} (ho : PE X o ta) (c : Cls X.K C) (hm : Meth X.K C m g) (G : FnOk X.prog X.w X.K X.mg X.base CX k g fd ps sp) (hr : Room k X.A) (hb : Binds X.K fd ps []) (hx : ∀ σ, PassesAt CX X σ (E σ)) (ha : PA X (e :: es) t)
    (hst : starEach (e :: es) X.env = (false, eval e X.env) :: starEach es X.env) (hpl : (backTo pos (starEach es X.env)).any (·.1) = false)
    (ht : eval (.Call (.Attribute o m apos) (e :: es) [] pos) X.env = (do
      let ov ← eval o X.env
      standAt apos.atName
      let (f, first) ← holding [ov] (getMethod ov m pl)
      callWith pos f first (backTo pos (starEach (e :: es) X.env)) (backToKw pos (keywordEach [] X.env)))) :
    PE X (.Call (.Attribute o m apos) (e :: es) [] pos) (tMethQ C m sp E ta t) := by
  constructor
  intro pins s σ H Q I h
  refine PySem.W.methodCall_KW (pl := pl) (thn (ho.run pins s σ H _ I h) fun u s1 hu => ?_) ht
  obtain ⟨y, H1, I1, ry, ad, dx, fl, rfl, hH, hl, q⟩ := hu
  have eu : u = Value.ref ad := ry
  subst eu
  refine getmeth_ok I1 hH c hm hl ?_
  refine PySem.W.callWith_K (first := [.ref ad]) (h₀ := X.base) I.ok.mod.kin hm.kp (thn (ha.run pos pins s1 σ H1 _ I1 q) fun us s2 hs2 => ?_) hst hpl
  obtain ⟨vs, H2, I2, rv, q2⟩ := hs2
  exact ⟨I2.kIn, run_fnS (us := .ref ad :: us) (vs := .ref ad :: vs) G hr hb (hx σ) I2 (.cons rfl rv) q2⟩
theorem can_inv {N : Nat} {C : Addr} {t : TA} (hC : X.mg n = some (.ref C)) (ht : ∀ σ H Q, canA X.cc X.pn W fs σ H Q → t σ H Q) (hlen : ∀ env S ds S', fs env S = .ok ds S' → ds.length + 1 = N) {σ : L2.St} {H : Hp} {Q : VK} (h : canE X.cc X.pn W (fInv n m F fo fs) σ H Q) :
    tMethQ C m (spD X.cc N F) (WE W) (canE X.cc X.pn W fo) t σ H Q := by
  obtain ⟨ρ, env, S, E, R, h⟩ := h
  refine ⟨ρ, env, S, E, R, Fin.mono h.bind fun v H1 ⟨ρ1, S1, d, e1, R1, r1, h1⟩ => ?_⟩
  split at h1
  · rename_i k fl hi
    obtain ⟨rfl, ad, C', dx, vs, rfl, hk, hC', hH, rp⟩ := insD_ok R1 r1 hi
    have hC2 : X.mg n = some (.ref C') := hC'
    rw [hC] at hC2; cases hC2
    split at h1
    · rename_i hn
      refine ⟨ad, dx, vs, rfl, hH, ?_, ht _ _ _ ⟨ρ1, env, S1, E.ext e1, R1, ?_⟩⟩
      · rcases rp.look m with ⟨q, _⟩ | ⟨_, _, _, q, _⟩
        · exact q
        · rw [q] at hn; cases hn
      · cases r : fs env S1 with
        | ok ds S' =>
          rw [r] at h1
          intro ρ' H' v e R' q
          have h' := Fin.ext e h1
          dsimp only [Res.bind_ok] at h'
          refine ⟨ρ', S', .obj k :: ds, R', .cons (r1.ext e) q, by simpa using hlen env S1 ds S' r, ?_⟩
          cases r2 : F (.obj k :: ds) S' with
          | ok d S2 => rw [r2] at h'; exact h'
          | er m S2 => rw [r2] at h'; exact h'
          | st => rw [r2] at h'; exact h'
        | er m S' => rw [r] at h1; exact h1
        | st => rw [r] at h1; exact h1
    · exact h1.elim
  · exact h1.elim
theorem de_inv {pl : Sem Bool} {N : Nat} (h : MtK X.prog X.w X.K X.mg X.base k ⟨n, m, N, F⟩) (hr : Room k X.A) (tk : Takes X W) (ho : DE X W o fo) (ha : DA X W (e :: es) fs) (hlen : ∀ env S ds S', fs env S = .ok ds S' → ds.length + 1 = N)
    (hst : starEach (e :: es) X.env = (false, eval e X.env) :: starEach es X.env) (hpl : (backTo pos (starEach es X.env)).any (·.1) = false)
    (ht : eval (.Call (.Attribute o m apos) (e :: es) [] pos) X.env = (do
      let ov ← eval o X.env
      standAt apos.atName
      let (f, first) ← holding [ov] (getMethod ov m pl)
      callWith pos f first (backTo pos (starEach (e :: es) X.env)) (backToKw pos (keywordEach [] X.env)))) :
    DE X W (.Call (.Attribute o m apos) (e :: es) [] pos) (fInv n m F fo fs) := by
  obtain ⟨C, g, fd, ps, h1, h2, h3, h4, h5, h6⟩ := h
  exact PE.imp (pe_methQ ho h2 h3 h6 hr h4 (fun σ => passAt tk σ) ha hst hpl ht) fun _ _ _ q => can_inv h1 (fun _ _ _ z => z) hlen q
end
section
variable {Z : Zk} {N : List Str} {sc : Scope} {X : Cx} {W : WX} {a b o e : Expr} {es : List Expr} {pos p apos pos' : Pos} {fa fo fv : FE} {fs : FL} {n f m x : Str} {k j : Nat} {F : Fn}
theorem InE.inv (h : InE Z N sc X W) {pl : Sem Bool} {M : Nat} (hG : MtK Z.P Z.w Z.K Z.mg Z.base k ⟨n, m, M, F⟩) (ho : DE X W o fo) (ha : DA X W (e :: es) fs) (hlen : ∀ env S ds S', fs env S = .ok ds S' → ds.length = M - 1) (hM : 0 < M := by decide) (hk : k ≤ Z.k := by exact Nat.le_of_ble_eq_true rfl)
    (hs : (e :: es).all noStar = true := by rfl)
    (ht : eval (.Call (.Attribute o m apos) (e :: es) [] pos) X.env = (do
      let ov ← eval o X.env
      standAt apos.atName
      let (f, first) ← holding [ov] (getMethod ov m pl)
      callWith pos f first (backTo pos (starEach (e :: es) X.env)) (backToKw pos (keywordEach [] X.env))) := by rfl) :
    DE X W (.Call (.Attribute o m apos) (e :: es) [] pos) (fInv n m F fo fs) := by
  rw [List.all_cons, Bool.and_eq_true] at hs
  refine de_inv (k := k) (N := M) (pl := pl) ?_ (h.room.mono hk) h.tk ho ha (fun env S ds S' q => by rw [hlen env S ds S' q]; omega) (star_cons hs.1) (star_no hs.2) ht
  rw [h.prog, h.wd, h.kf, h.gl, h.bs]
  exact hG
end
def lookK (x : Str) : List Str → List D → Option D
  | k :: ks, d :: ds => if k = x then some d else lookK x ks ds
  | _, _ => none
def dInK (a b : D) (S : Sg) : Res D := match a, b with
  | .str x, .kd ks ds => .ok (.bl (lookK x ks ds).isSome) S
  | _, _ => .st
def dIxK (a b : D) (S : Sg) : Res D := match a, b with
  | .kd ks ds, .str x => match lookK x ks ds with
    | some d => .ok d S
    | none => .st
  | _, _ => .st
theorem kd_find {K : PySem.W.Frag} {p : Addr} {w : World} {x : Str} : ∀ {es : List DictEntry} {ks : List Str}, es.map He.keyOf = He.keysIn w.params ks → (match es.find? (·.key.isStr x) with
    | some e => (some (some e.val) : Option (Option Value))
    | none => if es.any (·.refKey) then none else some none) = some (((ks.zip (es.map (·.val))).find? fun q => decide (q.1 = x)).map (·.2))
  | [], [], _ => rfl
  | [], _ :: _, h => by cases h
  | e :: es, [], h => by cases h
  | e :: es, k :: ks, h => by
    have h1 : He.keyOf e :: es.map He.keyOf = some (k, PyData.keyHash w.params k) :: He.keysIn w.params ks := h
    injection h1 with h2 h3
    have ih := kd_find (K := K) (p := p) (x := x) h3
    have hk : ∃ t, e.key = .str k t := by
      unfold He.keyOf at h2
      split at h2
      · rename_i y t q
        have e : y = k := congrArg Prod.fst (Option.some.inj h2)
        rw [e] at q
        exact ⟨t, q⟩
      · cases h2
    obtain ⟨t, hk⟩ := hk
    have hi : e.key.isStr x = decide (k = x) := by
      rw [hk]
      show (k == x) = decide (k = x)
      by_cases q : k = x <;> simp [q]
    have hr : e.refKey = false := by
      unfold DictEntry.refKey
      rw [hk]
    by_cases q : k = x
    · simp [List.find?_cons, hi, q]
    · simp only [List.find?_cons, hi, decide_eq_false q, List.any_cons, hr, Bool.false_or, List.zip_cons_cons, List.map_cons] at ih ⊢
      exact ih
theorem KdAt.ns {K : PySem.W.Frag} {w : World} {p : Addr} {ks : List Str} {vs : List V} (h : KdAt K w p ks vs) (x : Str) : ∃ us es n, KDict K w p es n ∧ Vals vs us ∧ PySem.W.nsIn K p x = some (((ks.zip us).find? fun q => decide (q.1 = x)).map (·.2)) := by
  obtain ⟨es, n, D, h1, h2⟩ := h
  refine ⟨_, es, n, D, h2, ?_⟩
  unfold PySem.W.nsIn
  rw [D.at_]
  exact kd_find (K := K) (p := p) h1
theorem lookK_at {c : Cc} {ρ : List Addr} {H : Hp} (x : Str) : ∀ {ks : List Str} {vs : List V} {us : List Value} {ds : List D}, Vals vs us → RL c ρ H vs ds →
    (((ks.zip us).find? fun q => decide (q.1 = x)).map (·.2) = none ∧ lookK x ks ds = none) ∨ ∃ u v d, ((ks.zip us).find? fun q => decide (q.1 = x)).map (·.2) = some u ∧ RelV v u ∧ RD c ρ H v d ∧ lookK x ks ds = some d
  | [], _, _, _, _, _ => .inl ⟨by simp, by unfold lookK; rfl⟩
  | k :: ks, [], [], [], _, _ => .inl ⟨by simp, by unfold lookK; rfl⟩
  | k :: ks, v :: vs, u :: us, d :: ds, .cons a r, .cons b q => by
    by_cases e : k = x
    · exact .inr ⟨u, v, d, by simp [e], a, b, by unfold lookK; rw [if_pos e]⟩
    · rcases lookK_at x (ks := ks) r q with ⟨h1, h2⟩ | ⟨u', v', d', h1, h2, h3, h4⟩
      · exact .inl ⟨by simpa [List.find?_cons, e] using h1, by unfold lookK; rw [if_neg e]; exact h2⟩
      · exact .inr ⟨u', v', d', by simpa [List.find?_cons, e] using h1, h2, h3, by unfold lookK; rw [if_neg e]; exact h4⟩
theorem kd_look {c : Cc} {ρ : List Addr} {H : Hp} {v : V} {ks : List Str} {ds : List D} (r : RD c ρ H v (.kd ks ds)) (x : Str) : ∃ p es n, v = .ref p ∧ KDict c.K c.w p es n ∧
    ((PySem.W.nsIn c.K p x = some none ∧ lookK x ks ds = none) ∨ ∃ u v d, PySem.W.nsIn c.K p x = some (some u) ∧ RelV v u ∧ RD c ρ H v d ∧ lookK x ks ds = some d) := by
  cases r with
  | kd hk hl =>
    obtain ⟨us, es, n, D, hv, he⟩ := hk.ns x
    refine ⟨_, es, n, rfl, D, ?_⟩
    rcases lookK_at x (ks := ks) hv hl with ⟨h1, h2⟩ | ⟨u, v, d, h1, h2, h3, h4⟩
    · exact .inl ⟨by rw [he, h1], h2⟩
    · exact .inr ⟨u, v, d, by rw [he, h1], h2, h3, h4⟩
def rKd (w : World) (K : PySem.W.Frag) (g : Bool → Bool) : R2 := fun x y H Q => ∃ d es n z r, KDict K w d es n ∧ x = .str z ∧ y = .ref d ∧ PySem.W.nsIn K d z = some r ∧ Q (.bl (g r.isSome)) H
section
variable {X : Cx}
theorem op_inK : OpR X (compareOp .In) (rKd X.w X.K id) := by
  intro pins s σ H x y v u Q I rx ry h
  obtain ⟨d, es, n, z, r, D, rfl, rfl, e, q⟩ := h
  exact op_in_kd D pins s σ H _ _ v u Q I rx ry ⟨z, r, rfl, rfl, e, q⟩
end
theorem dInK_ok {c : Cc} : OpD c (rKd c.w c.K id) dInK := by
  intro W σ ρ S H x y a b Q R r1 r2 h
  unfold dInK at h
  split at h
  · rename_i z ks ds
    cases r1
    obtain ⟨p, es, n, rfl, D, hh⟩ := kd_look r2 z
    rcases hh with ⟨h1, h2⟩ | ⟨u, v, d, h1, _, _, h2⟩
    · exact ⟨p, es, n, z, _, D, rfl, rfl, h1, by rw [h2] at h; exact h.done R (.bl _)⟩
    · exact ⟨p, es, n, z, _, D, rfl, rfl, h1, by rw [h2] at h; exact h.done R (.bl _)⟩
  · exact h.elim
theorem dIxK_ok {c : Cc} : OpD c (rIxD c.K c.w) dIxK := by
  intro W σ ρ S H x y a b Q R r1 r2 h
  unfold dIxK at h
  split at h
  · rename_i ks ds z
    cases r2
    obtain ⟨p, es, n, rfl, D, hh⟩ := kd_look r1 z
    rcases hh with ⟨h1, h2⟩ | ⟨u, v, d, h1, h3, h4, h2⟩
    · rw [h2] at h; exact h.elim
    · rw [h2] at h
      exact ⟨p, z, v, rfl, rfl, ⟨es, n, u, D.at_, D.lit, h1, h3⟩, h.done R h4⟩
  · exact h.elim
section
variable {X : Cx} {W : WX} {a b cc : Expr} {pos apos : Pos} {fa fb fc : FE}
end
section
variable {Z : Zk} {N : List Str} {sc : Scope} {X : Cx} {W : WX} {a b cc : Expr} {es : List Expr} {pos p apos : Pos} {fa fb fc : FE}
theorem InN.inK (h : InN Z N sc X) : CmpD X.cc X .In dInK := .mk _ op_inK dInK_ok
theorem InN.ixK (h : InN Z N sc X) (ha : DE X W a fa) (hb : DE X W b fb) (hs : plainI b = true := by rfl) : DE X W (.Subscript a b pos) (fBin dIxK fa fb) :=
  PE.imp (pe_ix ix_kdict ha hb (plainI_is hs)) fun _ _ _ q => can_bin dIxK_ok q
end
def fCallV (T : List (Str × Fn)) (fe : FE) (fs : FL) : FE := fun env S => (fe env S).bind fun f S => (fs env S).bind fun ds S => match f with
  | .fn x => match T.lookup x with
    | some F => F ds S
    | none => .st
  | _ => .st
section
variable {X : Cx} {W : WX} {ef e : Expr} {es : List Expr} {pos p : Pos} {fe : FE} {fs : FL} {k n : Nat} {T : List (Str × Fn)} {x : Str}
def tCallF (ok : Addr → Sp → Prop) (E : L2.St → XK) (tf : TE) (t : TA) : TE := fun σ H Q => tf σ H fun v H1 => ∃ f, v = .ref f ∧ t σ H1 fun vs H2 => ∃ sp, ok f sp ∧ sp vs H2 Q (E σ)
structure HeldF (X : Cx) (k : Nat) (f : Addr) (sp : Sp) : Prop where
  ex : ∃ (fd : FuncData) (ps : List Str), FnOk X.prog X.w X.K X.mg X.base (L2.CX X.prog X.w) k f fd ps sp ∧ PySem.W.keepIn X.K (.ref f) = true ∧ Binds X.K fd ps []
theorem lookT {f : Str} : ∀ {T : List (Str × Fn)} {F : Fn}, T.lookup f = some F → (f, F) ∈ T
  | (g, G) :: r, F, h => by
    by_cases e : f = g
    · subst e
      simp [List.lookup] at h
      subst h
      exact List.mem_cons_self
    · have e2 : (f == g) = false := by simpa using e
      simp only [List.lookup, e2] at h
      exact List.mem_cons_of_mem _ (lookT h)
theorem pe_callF0 {E : L2.St → XK} {tf : TE} {ok : Addr → Sp → Prop} (hok : ∀ f sp, ok f sp → HeldF X k f sp) (hkeep : ∀ σ H Q, tf σ H Q → tf σ H fun v H' => Q v H' ∧ ∀ f, v = .ref f → PySem.W.keepIn X.K (.ref f) = true) (hr : Room k X.A) (hx : ∀ σ, PassesAt (L2.CX X.prog X.w) X σ (E σ))
    (hf : PE X ef tf) (ht : eval (.Call ef [] [] pos) X.env = eval ef X.env >>= fun f => callWith pos f [] (backTo pos (starEach [] X.env)) (backToKw pos (keywordEach [] X.env))) : PE X (.Call ef [] [] pos) (tCallF ok E tf tNil) := by
  constructor
  intro pins s σ H Q I h
  rw [ht]
  refine wpAny_bind (thn (hf.run pins s σ H _ I (hkeep _ _ _ h)) fun u s1 hu => ?_)
  obtain ⟨v, H1, I1, rv, ⟨f, rfl, sp, h1, h2⟩, hk⟩ := hu
  have eu : u = Value.ref f := rv
  subst eu
  obtain ⟨fd, ps, G, _, hb⟩ := (hok f sp h1).ex
  exact PySem.W.callWith_K0 I1.kIn (hk f rfl) (run_fnS (us := []) G hr hb (hx σ) I1 .nil h2)
def okT (X : Cx) (n : Nat) (T : List (Str × Fn)) (f : Addr) (sp : Sp) : Prop := ∃ x F, (x, F) ∈ T ∧ X.mg x = some (.ref f) ∧ sp = spD X.cc n F
theorem okT_held (hT : ∀ q ∈ T, FnK X.prog X.w X.K X.mg X.base k ⟨q.1, n, q.2⟩) (f : Addr) (sp : Sp) (h : okT X n T f sp) : HeldF X k f sp := by
  obtain ⟨x, F, hm, hx, rfl⟩ := h
  obtain ⟨g, fd, ps, h1, h2, h3, h4, h5⟩ := hT _ hm
  have e : g = f := by
    have := h1.symm.trans hx
    cases this
    rfl
  subst e
  exact ⟨fd, ps, h5, h2, h3⟩
def fOnly (T : List (Str × Fn)) (fe : FE) : FE := fun env S => (fe env S).bind fun f S => match f with
  | .fn x => if (T.lookup x).isSome = true then .ok f S else .st
  | _ => .st
def relF (X : Cx) : List Addr → Hp → V → D → Prop := fun _ _ v d => ∃ x f, d = .fn x ∧ v = .ref f ∧ X.mg x = some (.ref f) ∧ PySem.W.keepIn X.K (.ref f) = true
def canF (X : Cx) (W : WX) (T : List (Str × Fn)) (fe : FE) : TE := fun σ H Q => ∃ ρ env S, RelEnv X.cc X.pn ρ H σ env ∧ Rel X.cc ρ S H ∧ Fin X.cc W σ ρ H (relF X) (fOnly T fe env S) Q
theorem pe_only (hf : DE X W ef fe) (hT : ∀ q ∈ T, FnK X.prog X.w X.K X.mg X.base k ⟨q.1, n, q.2⟩) : PE X ef (canF X W T fe) := by
  refine PE.imp hf fun σ H Q ⟨ρ, env, S, E, R, h⟩ => ⟨ρ, env, S, E, R, Fin.mono (Fin.bind h) fun v H1 ⟨ρ1, S1, a, e1, R1, r1, h1⟩ => ?_⟩
  split at h1
  · rename_i x
    split at h1
    · rename_i hs
      cases r1 with
      | @fn _ f hx =>
        obtain ⟨F, hF⟩ := Option.isSome_iff_exists.mp hs
        obtain ⟨g, fd, ps, q1, q2, _⟩ := hT _ (lookT hF)
        have hx2 : X.mg x = some (.ref f) := hx
        rw [q1] at hx2
        cases hx2
        exact h1.done R1 ⟨x, _, rfl, rfl, q1, q2⟩
    · exact h1.elim
  · exact h1.elim
theorem canF_keep (σ : L2.St) (H : Hp) (Q : VK) (h : canF X W T fe σ H Q) : canF X W T fe σ H fun v H' => Q v H' ∧ ∀ f, v = .ref f → PySem.W.keepIn X.K (.ref f) = true := by
  obtain ⟨ρ, env, S, E, R, h⟩ := h
  refine ⟨ρ, env, S, E, R, ?_⟩
  cases r : fOnly T fe env S with
  | ok a S' =>
    rw [r] at h
    rintro ρ' H' v e R' ⟨x, f, rfl, rfl, h3, h4⟩
    refine ⟨h ρ' H' _ e R' ⟨x, f, rfl, rfl, h3, h4⟩, fun g eg => ?_⟩
    cases eg
    exact h4
  | er m S' => rw [r] at h; exact h
  | st => rw [r] at h; exact h
theorem can_callV {t : TA} (ht : ∀ σ H Q, canA X.cc X.pn W fs σ H Q → t σ H Q) (hlen : ∀ env S ds S', fs env S = .ok ds S' → ds.length = n) {σ : L2.St} {H : Hp} {Q : VK} (h : canE X.cc X.pn W (fCallV T (fOnly T fe) fs) σ H Q) : tCallF (okT X n T) (WE W) (canF X W T fe) t σ H Q := by
  obtain ⟨ρ, env, S, E, R, h⟩ := h
  refine ⟨ρ, env, S, E, R, Fin.mono (Fin.bind (rel2 := relF X) h) fun v H1 ⟨ρ1, S1, a, e1, R1, r1, h1⟩ => ?_⟩
  obtain ⟨x, f, rfl, rfl, hx, _⟩ := r1
  refine ⟨f, rfl, ht _ _ _ ⟨ρ1, env, S1, E.ext e1, R1, ?_⟩⟩
  cases r : fs env S1 with
  | ok ds S' =>
    rw [r] at h1
    intro ρ' H' vs e R' q
    have h' := Fin.ext e h1
    dsimp only [Res.bind_ok] at h'
    cases hT2 : T.lookup x with
    | none => simp only [hT2] at h'; exact h'.elim
    | some F =>
      simp only [hT2] at h'
      refine ⟨_, ⟨x, F, lookT hT2, hx, rfl⟩, ρ', S', ds, R', q, hlen env S1 ds S' r, ?_⟩
      cases r3 : F ds S' with
      | ok d S3 => rw [r3] at h'; exact h'
      | er m S3 => rw [r3] at h'; exact h'
      | st => rw [r3] at h'; exact h'
  | er m S' => rw [r] at h1; exact h1
  | st => rw [r] at h1; exact h1
theorem de_callV0 (hf : DE X W ef fe) (hT : ∀ q ∈ T, FnK X.prog X.w X.K X.mg X.base k ⟨q.1, 0, q.2⟩) (hr : Room k X.A) (tk : Takes X W)
    (ht : eval (.Call ef [] [] pos) X.env = eval ef X.env >>= fun f => callWith pos f [] (backTo pos (starEach [] X.env)) (backToKw pos (keywordEach [] X.env))) :
    DE X W (.Call ef [] [] pos) (fCallV T (fOnly T fe) fNil) :=
  PE.imp (pe_callF0 (okT_held hT) canF_keep hr (fun σ => passAt tk σ) (pe_only hf hT) ht) fun _ _ _ h => can_callV (t := tNil) (fun σ H Q ⟨ρ, env, S, E, R, h⟩ => h.done R .nil) (fun _ _ ds _ q => by cases q; rfl) h
end
def pick {α : Type} (is : List Nat) (l : List α) : List α := is.filterMap fun i => l[i]?
def fCallK (F : Fn) (is : List Nat) (dfl : List D) (fs fks : FL) : FE := fun env S => (fs env S).bind fun vs S => (fks env S).bind fun zs S => F (pick is (vs ++ (dfl ++ zs))) S
section
variable {c : Cc} {ρ : List Addr} {H : Hp}
theorem RL.pick {vs : List V} {ds : List D} (r : RL c ρ H vs ds) : ∀ is : List Nat, RL c ρ H (pick is vs) (pick is ds)
  | [] => .nil
  | i :: is => by
    have ih := RL.pick r is
    unfold G.pick at ih ⊢
    rw [List.filterMap_cons, List.filterMap_cons]
    cases e : ds[i]? with
    | none =>
      have : vs[i]? = none := by
        rw [List.getElem?_eq_none_iff] at e ⊢
        rw [r.len]; exact e
      rw [this]
      exact ih
    | some d =>
      obtain ⟨v, hv, rv⟩ := r.get e
      rw [hv]
      exact .cons rv ih
theorem Vals.pick {vs : List V} {us : List Value} (r : Vals vs us) : ∀ is : List Nat, Vals (G.pick is vs) (G.pick is us)
  | [] => .nil
  | i :: is => by
    have ih := Vals.pick r is
    unfold G.pick at ih ⊢
    rw [List.filterMap_cons, List.filterMap_cons]
    cases e : vs[i]? with
    | none =>
      have : us[i]? = none := by
        rw [List.getElem?_eq_none_iff] at e ⊢
        rw [← r.length]; exact e
      rw [this]
      exact ih
    | some v =>
      obtain ⟨u, hu, ru⟩ := r.get e
      rw [hu]
      exact .cons ru ih
end
def FnKD (P : Program) (w : World) (K : PySem.W.Frag) (mg : Str → Option Value) (base : Heap) (k : Nat) (e : FnE) (ps : List Str) (st : Stmt) (dvs : List D) : Prop := ∃ (f : Addr) (fd : FuncData) (vs : List V),
  mg e.name = some (.ref f) ∧ FunD K e.name e.name (defArgs st) (defBody st) (defScope st) vs [] f fd ∧ (∀ ρ H, RL ⟨K, mg, w⟩ ρ H vs dvs) ∧ ps.length = e.n ∧ FnOk P w K mg base (L2.CX P w) k f fd ps (spD ⟨K, mg, w⟩ e.n e.F)
def BindD (x : Str) (st : Stmt) (ps : List Str) (np : Nat) (nd : Nat) (ks : List Str) (is : List Nat) : Prop := ∀ (T : Addr) (kV doc pm : Value) (an : Option Addr) (cdv ct : Value) (us its ws : List Value), us.length = np → its.length = nd → ws.length = ks.length →
  ∃ kk, bindArgs (PySem.W.fnOf x x (defArgs st) (defBody st) (defScope st) (.ref T) kV doc pm an cdv ct) ⟨us, ks.zip ws⟩ = seqItems? (.ref T) >>= kk ∧ kk (some its.toArray) = pure (ps.zip (pick is (us ++ (its ++ ws))))
theorem look_app {α : Type} (k : Str) : ∀ (l m : List (Str × α)), l.lookup k = none → (l ++ m).lookup k = m.lookup k
  | [], m, _ => rfl
  | (a, b) :: l, m, h => by
    simp only [List.lookup, List.cons_append] at h ⊢
    cases e : (k == a) with
    | true => rw [e] at h; cases h
    | false => rw [e] at h; exact look_app k l m h
theorem look_one {α : Type} {k a : Str} {b : α} (h : k ≠ a) : List.lookup k [(a, b)] = none := by
  have : (k == a) = false := by simpa using h
  simp [List.lookup, this]
theorem kw_go {f : Str × Value → List (Str × Value) × List (Str × Value) → Sem (ForInStep (List (Str × Value) × List (Str × Value)))} {ps : List Str} (hf : ∀ x sl, ps.contains x.1 = true → List.lookup x.1 sl = none → f x (sl, []) = pure (.yield (sl ++ [x], []))) :
    ∀ (kw sl : List (Str × Value)), (∀ q ∈ kw, ps.contains q.1 = true) → (kw.map (·.1)).Nodup → (∀ q ∈ kw, sl.lookup q.1 = none) → forIn kw (sl, []) f = (pure (sl ++ kw, []) : Sem (List (Str × Value) × List (Str × Value)))
  | [], sl, _, _, _ => by simp
  | x :: kw, sl, h1, h2, h3 => by
    rw [List.forIn_cons, hf x sl (h1 x List.mem_cons_self) (h3 x List.mem_cons_self), pure_bind]
    have h2' := List.nodup_cons.mp h2
    have := kw_go hf kw (sl ++ [x]) (fun q hq => h1 q (List.mem_cons_of_mem _ hq)) h2'.2 fun q hq => by
      rw [look_app _ _ _ (h3 q (List.mem_cons_of_mem _ hq))]
      refine look_one (b := x.2) fun e => h2'.1 ?_
      show x.1 ∈ _
      rw [← e]
      exact List.mem_map_of_mem hq
    show forIn kw (sl ++ [x], []) f = _
    rw [this, List.append_assoc]
    rfl
def fillD : List (Str × Value) → List (Str × Value) → List (Str × Value)
  | [], sl => sl
  | q :: r, sl => fillD r (if (sl.lookup q.1).isNone then sl ++ [q] else sl)
theorem fill_go {f : Str × Value → List (Str × Value) → Sem (ForInStep (List (Str × Value)))} (hf : ∀ x sl, f x sl = pure (.yield (if (List.lookup x.1 sl).isNone then sl ++ [x] else sl))) : ∀ (l sl : List (Str × Value)), forIn l sl f = (pure (fillD l sl) : Sem (List (Str × Value)))
  | [], sl => by simp [fillD]
  | x :: l, sl => by
    rw [List.forIn_cons, hf, pure_bind]
    exact fill_go hf l _
theorem bind_kw (fd : FuncData) (us its : List Value) (kw : List (Str × Value)) (T : Value) (ps : List Str) (h1 : fd.params.posonlyargs = []) (h2 : fd.params.args.map (·.arg) = ps) (h3 : fd.params.kwonlyargs = []) (h4 : fd.params.vararg = none) (h5 : fd.params.kwarg = none) (h6 : fd.defaults = T)
    (hk : ∀ q ∈ kw, ps.contains q.1 = true) (hn : (kw.map (·.1)).Nodup) (hl : ∀ q ∈ kw, (ps.zip us).lookup q.1 = none) (hu : us.length ≤ ps.length) (hi : its.length ≤ ps.length) (hm : ((ps.take (ps.length - its.length)).filter fun n => ((ps.zip us ++ kw).lookup n).isNone) = []) :
    ∃ kk, bindArgs fd ⟨us, kw⟩ = seqItems? T >>= kk ∧ kk (some its.toArray) = pure (ps.filterMap fun n => ((fillD ((ps.drop (ps.length - its.length)).zip its) (ps.zip us ++ kw)).lookup n).map (n, ·)) := by
  subst h6
  unfold bindArgs
  simp only [h1, h2, h3, h4, h5, List.map_nil, List.nil_append, List.contains_nil, Bool.or_false]
  rw [kw_go (ps := ps) ?hf kw _ hk hn hl, pure_bind]
  case hf =>
    intro x sl a b
    rw [if_pos a, if_neg (by rw [b]; simp)]
  refine ⟨_, rfl, ?_⟩
  have e1 : ((some its.toArray).getD #[]).toList = its := by simp
  have e2 : (decide (us.length > ps.length) && (none : Option Arg).isNone) = false := by simp; omega
  have e3 : its.length - ps.length = 0 := by omega
  simp only [e1, e2, e3, List.drop_zero, Bool.false_eq_true, if_false, hm, List.isEmpty_nil, Bool.not_true, List.append_nil]
  rw [fill_go ?hf2]
  case hf2 =>
    intro x sl
    split <;> rfl
  simp
theorem zip_look {k : Str} : ∀ (ps : List Str) (us : List Value), k ∉ ps.take us.length → (ps.zip us).lookup k = none
  | [], _, _ => by simp
  | p :: ps, [], _ => by simp
  | p :: ps, u :: us, h => by
    rw [List.length_cons, List.take_succ_cons, List.mem_cons, not_or] at h
    have e : (k == p) = false := by simpa using h.1
    simp only [List.zip_cons_cons, List.lookup, e]
    exact zip_look ps us h.2
theorem zip_look2 {k : Str} : ∀ (ps : List Str) (us : List Value), us.length ≤ ps.length → k ∈ ps.take us.length → (ps.zip us).lookup k ≠ none
  | [], [], _, h => by simp at h
  | p :: ps, [], _, h => by simp at h
  | [], u :: us, h, _ => by simp at h
  | p :: ps, u :: us, hl, h => by
    rw [List.length_cons, List.take_succ_cons, List.mem_cons] at h
    simp only [List.zip_cons_cons, List.lookup]
    by_cases e : k = p
    · simp [e]
    · have e2 : (k == p) = false := by simpa using e
      rw [e2]
      exact zip_look2 ps us (by simpa using hl) (h.resolve_left e)
theorem look_app2 {α : Type} (k : Str) : ∀ (l m : List (Str × α)), l.lookup k ≠ none → (l ++ m).lookup k ≠ none
  | [], m, h => absurd rfl h
  | (a, b) :: l, m, h => by
    simp only [List.lookup, List.cons_append] at h ⊢
    cases e : (k == a) with
    | true => simp
    | false => rw [e] at h; exact look_app2 k l m h
def kwB (a : Arguments) (ps : List Str) (np nd : Nat) (ks : List Str) : Bool :=
  a.posonlyargs.isEmpty && (decide (a.args.map (·.arg) = ps) && (a.kwonlyargs.isEmpty && (a.vararg.isNone && (a.kwarg.isNone && (ks.all ps.contains && (decide ks.Nodup && (ks.all (fun k => decide (k ∉ ps.take np)) && (decide (np ≤ ps.length ∧ nd ≤ ps.length) &&
    (ps.take (ps.length - nd)).all fun n => decide (n ∈ ps.take np) || ks.contains n))))))))
theorem bindD_of {x : Str} {st : Stmt} {ps ks : List Str} {np nd : Nat} {is : List Nat} (hb : kwB (defArgs st) ps np nd ks = true)
    (hf : ∀ us its ws : List Value, us.length = np → its.length = nd → ws.length = ks.length → (ps.filterMap fun n => ((fillD ((ps.drop (ps.length - its.length)).zip its) (ps.zip us ++ ks.zip ws)).lookup n).map (n, ·)) = ps.zip (pick is (us ++ (its ++ ws)))) : BindD x st ps np nd ks is := by
  intro T kV doc pm an cdv ct us its ws h1 h2 h3
  unfold kwB at hb
  simp only [Bool.and_eq_true, List.isEmpty_iff, decide_eq_true_eq, Option.isNone_iff_eq_none, List.all_eq_true] at hb
  obtain ⟨b1, b2, b3, b4, b5, b6, b7, b8, ⟨b9, b10⟩, b11⟩ := hb
  have ez : ∀ q ∈ ks.zip ws, q.1 ∈ ks := fun q hq => (List.of_mem_zip hq).1
  have em : (ks.zip ws).map (·.1) = ks := by
    rw [List.map_fst_zip]
    omega
  obtain ⟨kk, e1, e2⟩ := bind_kw (PySem.W.fnOf x x (defArgs st) (defBody st) (defScope st) (.ref T) kV doc pm an cdv ct) us its (ks.zip ws) (.ref T) ps b1 b2 b3 b4 b5 rfl (fun q hq => b6 _ (ez q hq)) (by rw [em]; exact b7)
    (fun q hq => zip_look ps us (by rw [h1]; exact b8 _ (ez q hq))) (by omega) (by omega) (by
      rw [List.filter_eq_nil_iff]
      intro n hn
      rw [h2] at hn
      have hc := b11 n hn
      rw [Bool.or_eq_true, decide_eq_true_eq] at hc
      have : List.lookup n (ps.zip us ++ ks.zip ws) ≠ none := by
        rcases hc with q | q
        · exact look_app2 _ _ _ (zip_look2 ps us (by omega) (by rw [h1]; exact q))
        · by_cases hz : List.lookup n (ps.zip us) = none
          · rw [look_app _ _ _ hz]
            refine zip_look2 ks ws (by omega) ?_
            rw [h3, List.take_length]
            simpa using q
          · exact look_app2 _ _ _ hz
      cases hz : List.lookup n (ps.zip us ++ ks.zip ws) with
      | none => exact absurd hz this
      | some v => simp)
  exact ⟨kk, e1, by rw [e2, hf us its ws h1 h2 h3]⟩
section
variable {X : Cx} {W : WX} {e : Expr} {es : List Expr} {kws : List Keyword} {pos p : Pos} {fs fks : FL} {k n np : Nat} {x : Str} {F : Fn} {ps ks : List Str} {is : List Nat} {st : Stmt} {dvs : List D}
def DK (X : Cx) (W : WX) (kws : List Keyword) (f : FL) : Prop := PK X kws (canA X.cc X.pn W f)
theorem dk_nil : DK X W [] fNil := ⟨fun pos pins s σ H Q I ⟨ρ, env, S, E, R, h⟩ => pk_nil.run pos pins s σ H Q I (h.done R .nil)⟩
theorem dk_cons {fa : FE} {nm : Option Str} {kpos : Pos} (he : DE X W e fa) (hr : DK X W kws fks) : DK X W (⟨nm, e, kpos⟩ :: kws) (fCons fa fks) := by
  have h := pk_cons (nm := nm) (kpos := kpos) he hr
  constructor
  intro pos pins s σ H Q I ⟨ρ, env, S, E, R, q⟩
  refine h.run pos pins s σ H Q I ⟨ρ, env, S, E, R, Fin.mono q.bind fun x H1 ⟨ρ1, S1, a, e1, R1, r1, h1⟩ => ?_⟩
  refine ⟨ρ1, env, S1, E.ext e1, R1, Fin.mono h1.bind fun y H2 ⟨ρ2, S2, b, e2, R2, r2, h2⟩ => ?_⟩
  exact h2.done R2 (.cons (r1.ext e2) r2)
def tCallKS (np m : Nat) (is : List Nat) (dvs : List V) (sp : Sp) (E : L2.St → XK) (t tk : TA) : TE := fun σ H Q => t σ H fun vs H1 => tk σ H1 fun zs H2 => vs.length = np ∧ zs.length = m ∧ sp (pick is (vs ++ (dvs ++ zs))) H2 Q (E σ)
theorem pe_callKS {f : Addr} {fd : FuncData} {sp : Sp} {E : L2.St → XK} {dv : List V} {t tk : TA} {CX : CXT} (Fd : FunD X.K x x (defArgs st) (defBody st) (defScope st) dv [] f fd) (G : FnOk X.prog X.w X.K X.mg X.base CX k f fd ps sp) (hb : BindD x st ps np dv.length ks is) (hd : dv ≠ []) (hr : Room k X.A) (hg : Gl X x) (hm : X.mg x = some (.ref f)) (hx : ∀ σ, PassesAt CX X σ (E σ))
    (ha : PA X (e :: es) t) (hkw : PK X kws tk) (hall : (backToKw pos (keywordEach kws X.env)).all (·.1.isSome) = true) (hks : (backToKw pos (keywordEach kws X.env)).filterMap (·.1) = ks)
    (hdb : (x == ("__debug__" : Str)) = false) (he : starEach (e :: es) X.env = (false, eval e X.env) :: starEach es X.env)
    (hpl : ((backTo pos (starEach (e :: es) X.env)).any (·.1) || (backToKw pos (keywordEach kws X.env)).any (·.1.isNone)) = false) : PE X (.Call (.Name x p) (e :: es) kws pos) (tCallKS np ks.length is dv sp E t tk) := by
  constructor
  intro pins s σ H Q I h
  refine wpAny_Call_Name_kw (ld_glob I hg hm ?_ hdb)
  refine PySem.W.callWith_KW (h₀ := X.base) I.ok.mod.kin Fd.kp hall (thn (ha.run pos pins s σ H _ I h) fun us s1 hu => ?_) hpl he
  obtain ⟨vs, H1, I1, rv, q⟩ := hu
  refine thn (hkw.run pos pins s1 σ H1 _ I1 q) fun ws s2 hw => ?_
  obtain ⟨zs, H2, I2, rz, l1, l2, q2⟩ := hw
  refine ⟨I2.kIn, ?_⟩
  rw [hks]
  obtain ⟨oc, od, dV, kV, doc, pm, an, cdv, ct, osl, rfl, lk, hcd, hD, _⟩ := Fd.ex
  rcases hD with ⟨q, _⟩ | ⟨_, T, ob, its, m, rfl, lT, oT, rT⟩
  · exact absurd q hd
  · obtain ⟨kk, e1, e2⟩ := hb T kV doc pm an cdv ct us its ws (rv.length.symm.trans l1) rT.length.symm (rz.length.symm.trans l2)
    have bt : BindsTo s2 (PySem.W.fnOf x x (defArgs st) (defBody st) (defScope st) (.ref T) kV doc pm an cdv ct) ⟨us, ks.zip ws⟩ (ps.zip (pick is (us ++ (its ++ ws)))) := by
      refine BindsTo.of_looks fun M => ?_
      rw [e1]
      exact looks_items I2.kIn lT oT (.of_pure e2)
    refine wpAny_call (codeAny_mono (G.run X.A X.stack s2 H2 _ _ (pick is (vs ++ (dv ++ zs))) Q (E σ) hr I2.env0 bt (Vals.pick (rv.append (rT.append rz)) is) q2) fun r s' hq => ?_)
    match r, hq with
    | .error u, hq => exact hx σ pins H2 s2 u s' I2 hq
    | .ok (.ret u), hq => exact I2.after hq
    | .ok .next, hq => exact hq.elim
    | .ok .brk, hq => exact hq.elim
    | .ok .cont, hq => exact hq.elim
theorem de_callK (h : FnKD X.prog X.w X.K X.mg X.base k ⟨x, n, F⟩ ps st dvs) (hb : BindD x st ps np dvs.length ks is) (hd : dvs ≠ []) (hr : Room k X.A) (hg : Gl X x) (tk : Takes X W) (ha : DA X W (e :: es) fs) (hkw : DK X W kws fks)
    (hl1 : ∀ env S ds S', fs env S = .ok ds S' → ds.length = np) (hl2 : ∀ env S ds S', fks env S = .ok ds S' → ds.length = ks.length) (hn : ∀ l : List D, l.length = np + (dvs.length + ks.length) → (pick is l).length = n)
    (hall : (backToKw pos (keywordEach kws X.env)).all (·.1.isSome) = true) (hks : (backToKw pos (keywordEach kws X.env)).filterMap (·.1) = ks) (hdb : (x == ("__debug__" : Str)) = false) (he : starEach (e :: es) X.env = (false, eval e X.env) :: starEach es X.env)
    (hpl : ((backTo pos (starEach (e :: es) X.env)).any (·.1) || (backToKw pos (keywordEach kws X.env)).any (·.1.isNone)) = false) : DE X W (.Call (.Name x p) (e :: es) kws pos) (fCallK F is dvs fs fks) := by
  obtain ⟨f, fd, dv, h1, h2, h3, h4, h5⟩ := h
  have hdl : dv.length = dvs.length := (h3 [] (fun _ => none)).len
  refine PE.imp (pe_callKS h2 h5 (by rw [hdl]; exact hb) (by intro q; subst q; exact hd (List.eq_nil_of_length_eq_zero hdl.symm)) hr hg h1 (fun σ => passAt tk σ) ha hkw hall hks hdb he hpl) fun σ H Q ⟨ρ, env, S, E, R, h⟩ => ⟨ρ, env, S, E, R, ?_⟩
  unfold fCallK at h
  cases r : fs env S with
  | ok vs S1 =>
    rw [r] at h
    intro ρ1 H1 us e1 R1 q1
    have h' := Fin.ext e1 h
    dsimp only [Res.bind_ok] at h'
    refine ⟨ρ1, env, S1, E.ext e1, R1, ?_⟩
    cases r2 : fks env S1 with
    | ok zs S2 =>
      rw [r2] at h'
      intro ρ2 H2 ws e2 R2 q2
      have h2' := Fin.ext e2 h'
      dsimp only [Res.bind_ok] at h2'
      have l1 := hl1 env S vs S1 r
      have l2 := hl2 env S1 zs S2 r2
      refine ⟨by rw [q1.len, l1], by rw [q2.len, l2], ρ2, S2, _, R2, RL.pick ((q1.ext e2).append ((h3 _ _).append q2)) is, hn _ (by simp [l1, l2]), ?_⟩
      show FinC X.cc ρ2 H2 (F (pick is (vs ++ (dvs ++ zs))) S2) Q (WE W σ)
      cases r3 : F (pick is (vs ++ (dvs ++ zs))) S2 with
      | ok d S3 => rw [r3] at h2'; exact h2'
      | er m S3 => rw [r3] at h2'; exact h2'
      | st => rw [r3] at h2'; exact h2'
    | er m S2 => rw [r2] at h'; exact h'
    | st => rw [r2] at h'; exact h'
  | er m S1 => rw [r] at h; exact h
  | st => rw [r] at h; exact h
end
inductive TOk (Z : Zk) (n : Nat) : List (Str × Fn) → Prop
  | nil : TOk Z n []
  | cons {x : Str} {F : Fn} {k : Nat} {T : List (Str × Fn)} (h : FnK Z.P Z.w Z.K Z.mg Z.base k ⟨x, n, F⟩) (t : TOk Z n T) (hk : k ≤ Z.k := by exact Nat.le_of_ble_eq_true rfl) : TOk Z n ((x, F) :: T)
theorem TOk.all {Z : Zk} {n : Nat} {T : List (Str × Fn)} (t : TOk Z n T) : ∀ q ∈ T, FnK Z.P Z.w Z.K Z.mg Z.base Z.k ⟨q.1, n, q.2⟩ := by
  induction t with
  | nil => intro q h; cases h
  | cons h t hk ih =>
    intro q hq
    rcases List.mem_cons.mp hq with e | e
    · subst e; exact h.mono hk
    · exact ih q e
section
variable {Z : Zk} {N : List Str} {sc : Scope} {X : Cx} {W : WX} {ef e : Expr} {es : List Expr} {kws : List Keyword} {pos p : Pos} {fe : FE} {fs fks : FL} {k n np : Nat} {x : Str} {F : Fn} {ps ks : List Str} {is : List Nat} {st : Stmt} {dvs : List D} {T : List (Str × Fn)}
theorem InE.callV0 (h : InE Z N sc X W) (hT : TOk Z 0 T) (hf : DE X W ef fe)
    (ht : eval (.Call ef [] [] pos) X.env = eval ef X.env >>= fun f => callWith pos f [] (backTo pos (starEach [] X.env)) (backToKw pos (keywordEach [] X.env)) := by rfl) : DE X W (.Call ef [] [] pos) (fCallV T (fOnly T fe) fNil) := by
  refine de_callV0 (k := Z.k) hf ?_ h.room h.tk ht
  rw [h.prog, h.wd, h.kf, h.gl, h.bs]
  exact hT.all
theorem pick_len {is : List Nat} {m : Nat} (hi : is.all (fun i => decide (i < m)) = true) (l : List D) (hl : l.length = m) : (pick is l).length = is.length := by
  unfold pick
  induction is with
  | nil => rfl
  | cons i is ih =>
    rw [List.all_cons, Bool.and_eq_true] at hi
    have : i < l.length := by rw [hl]; exact of_decide_eq_true hi.1
    rw [List.filterMap_cons, List.getElem?_eq_getElem this, List.length_cons, ih hi.2]
    rfl
theorem kw_all : ∀ {kws : List Keyword} {env : PySem.Env}, kws.all (fun q => q.arg.isSome) = true → (backToKw pos (keywordEach kws env)).all (·.1.isSome) = true ∧ (backToKw pos (keywordEach kws env)).any (·.1.isNone) = false ∧ (backToKw pos (keywordEach kws env)).filterMap (·.1) = kws.filterMap (·.arg)
  | [], _, _ => ⟨rfl, rfl, rfl⟩
  | ⟨nm, e, kp⟩ :: r, env, h => by
    rw [List.all_cons, Bool.and_eq_true] at h
    obtain ⟨h1, h2, h3⟩ := kw_all (env := env) h.2
    cases nm with
    | none => cases h.1
    | some a =>
      refine ⟨h1, h2, ?_⟩
      show a :: (backToKw pos (keywordEach r env)).filterMap (·.1) = a :: r.filterMap (·.arg)
      rw [h3]
theorem InE.callK (h : InE Z N sc X W) (is : List Nat) (hG : FnKD Z.P Z.w Z.K Z.mg Z.base k ⟨x, n, F⟩ ps st dvs) (hb : BindD x st ps np dvs.length ks is) (ha : DA X W (e :: es) fs) (hkw : DK X W kws fks)
    (hl1 : ∀ env S ds S', fs env S = .ok ds S' → ds.length = np) (hl2 : ∀ env S ds S', fks env S = .ok ds S' → ds.length = ks.length) (hd : dvs ≠ [] := by exact List.cons_ne_nil _ _) (hn : (is.length = n ∧ is.all (fun i => decide (i < np + (dvs.length + ks.length))) = true) := by decide) (hk : k ≤ Z.k := by exact Nat.le_of_ble_eq_true rfl)
    (hks : (kws.all (fun q => q.arg.isSome) = true ∧ kws.filterMap (·.arg) = ks) := by exact ⟨rfl, rfl⟩) (hg : glB sc x = true := by decide +kernel) (hp : plainN x = true := by decide +kernel) (hs : (e :: es).all noStar = true := by rfl) : DE X W (.Call (.Name x p) (e :: es) kws pos) (fCallK F is dvs fs fks) := by
  obtain ⟨k1, k2, k3⟩ := kw_all (pos := pos) (env := X.env) hks.1
  have hs' := hs
  rw [List.all_cons, Bool.and_eq_true] at hs
  refine de_callK (k := k) (n := n) (ps := ps) (st := st) ?_ hb hd (h.room.mono hk) (h.toInN.glb hg) h.tk ha hkw hl1 hl2 (fun l hl => by rw [pick_len hn.2 l hl]; exact hn.1) k1 (by rw [k3]; exact hks.2) (plainN_1 hp) (star_cons hs.1) (by rw [k2, Bool.or_false]; exact star_no hs')
  rw [h.prog, h.wd, h.kf, h.gl, h.bs]
  exact hG
end
section
variable {P : Program} {w : World} {K : PySem.W.Frag} {mg : Str → Option Value} {base : Heap} {x qual : Str} {st : Stmt} {f : Addr} {fd : FuncData} {N ps : List Str} {k : Nat} {g : FS}
theorem okFD {vs : List V} (F : FunD K x qual (defArgs st) (defBody st) (defScope st) vs [] f fd) (S : FnScope N ps (defScope st)) (fr : Free mg)
    (hb : ∀ X W, InS ⟨P, w, K, mg, base, k⟩ N (defScope st) X W → DSs X W (defBody st) g) : FnOk P w K mg base (L2.CX P w) (k + 1) f fd ps (spD ⟨K, mg, w⟩ ps.length (runF N.length g)) := by
  refine F.ok S (fun vs H Q E ⟨ρ, T, ds, R, r, hl, q⟩ => by rw [r.len]; exact hl) fun cdv A outer s H vs Q E hr ⟨ρ, T, ds, R, r, hl, q⟩ => ?_
  have tk : Takes (cxOf (L2.CX P w) P w K mg base N qual (defScope st) f cdv A outer s H E) (fun cls d _ H => E cls d H) := takes_of rfl rfl rfl rfl
  refine ⟨_, hb _ _ ⟨⟨⟨rfl, rfl, rfl, rfl, rfl, rfl, rfl, S.nd, fr, (by have := hr.un; omega : (A.deeper (PyProof.Rows.envOfC qual (defScope st) s.heap.objs.size f cdv)).units + 200 < cLine)⟩, rfl, tk, hr⟩, passes_of rfl, rfl, rfl, fun _ => rfl⟩, ρ, startE N.length ds, T, start_ok r, R, ?_⟩
  have q' : FinC ⟨K, mg, w⟩ ρ H ((g (startE N.length ds) T).fin) Q E := q
  cases e : g (startE N.length ds) T with
  | nx env' S' => rw [e] at q'; exact fun ρ' σ' H' e' R' E' => q' ρ' H' .non e' R' .non
  | rt d S' => rw [e] at q'; exact q'
  | er n env' S' => rw [e] at q'; exact fun ρ' σ' H' C e' R' E' hC => q' ρ' H' C e' R' hC
  | bk env' S' => rw [e] at q'; exact q'.elim
  | ct env' S' => rw [e] at q'; exact q'.elim
  | st => rw [e] at q'; exact q'.elim
theorem fn_inD {vs : List V} {dvs : List D} (fr : Free mg) (F : FunD K x x (defArgs st) (defBody st) (defScope st) vs [] f fd) (S : FnScope N ps (defScope st)) (hm : mg x = some (.ref f)) (hd : ∀ ρ H, RL ⟨K, mg, w⟩ ρ H vs dvs)
    (hb : ∀ X W, InS ⟨P, w, K, mg, base, k⟩ N (defScope st) X W → DSs X W (defBody st) g) : FnKD P w K mg base (k + 1) ⟨x, ps.length, runF N.length g⟩ ps st dvs :=
  ⟨f, fd, vs, hm, F, hd, rfl, okFD F S fr hb⟩
theorem fn_none {n : Nat} (fr : Free mg) (F : FunD K x x (defArgs st) (defBody st) (defScope st) [] [] f fd) (S : FnScope N ps (defScope st)) (hm : mg x = some (.ref f)) (b : Binds K fd ps []) (hn : ps.length = n) : FnK P w K mg base 1 ⟨x, n, fun _ _ => .st⟩ := by
  subst hn
  refine ⟨f, fd, ps, hm, F.kp, b, rfl, F.ok S (fun vs H Q E ⟨ρ, T, ds, R, r, hl, q⟩ => q.elim) fun cdv A outer s H vs Q E hr ⟨ρ, T, ds, R, r, hl, q⟩ => q.elim⟩
end
section
variable {P : Program} {w : World} {K : PySem.W.Frag} {mg : Str → Option Value} {base : Heap} {x qual : Str} {st : Stmt} {f : Addr} {fd : FuncData} {N ps : List Str} {k : Nat} {g : FS}
end
section
variable {X : Cx} {W : WX} {pos p p2 : Pos} {x y : Str} {k i : Nat} {F : FX}
end
section
variable {Z : Zk} {N : List Str} {sc : Scope} {X : Cx} {W : WX} {pos p p2 : Pos} {x y : Str} {k i : Nat} {F : FX} {body : List Stmt} {g : FS}
end
section
variable {X : Cx}
end
section
variable {c : Cc}
end
section
variable {Z : Zk} {N : List Str} {sc : Scope} {X : Cx} {W : WX} {a e : Expr} {es : List Expr} {pos p apos : Pos} {fa : FE} {fs : FL}
end
end G
namespace L2
open PySem PySem.Spec PyProof.Rows
def IteS (z : Str) : It :=
  ⟨fun i H => i < z.cps.size, fun i H v H' => ∃ T c, v = .ref T ∧ H T = none ∧ H' = upd H T (.tup [.int (i : Nat), .str ⟨#[c]⟩]) ∧ z.cps[i]? = some c, fun i H => z.cps.size ≤ i⟩
theorem turn_enumS {P : Program} {w : World} {K : PySem.W.Frag} {elts : List Expr} {kk : Nat} {tpos : Pos} (z : Str) (tz : Tok) (e it : Addr) :
    Turn P w K (.Tuple elts kk tpos) (IteS z) [e, it] e (fun i h => (∃ old, IsEnum h e it ((i : Nat) : Int) old) ∧ h.IsStrIter it (strIterType z) z tz i ∧ i ≤ z.cps.size ∧ e ≠ it) where
  mem := by simp
  obj := fun i h st b hb => by
    obtain ⟨⟨old, he⟩, ⟨o, ho, hc, hd⟩, _⟩ := st
    rcases (show b = e ∨ b = it by simpa using hb) with q | q
    · rw [q]; exact ⟨_, he, fun v q => nomatch q⟩
    · rw [q]; exact ⟨o, ho, fun v q => by rw [hd] at q; cases q⟩
  keep := fun i h h' st k => by
    obtain ⟨⟨old, he⟩, ⟨o, ho, r⟩, hl, hne⟩ := st
    exact ⟨⟨old, k e (by simp) _ he⟩, ⟨o, k it (by simp) o ho, r⟩, hl, hne⟩
  item := by
    intro X hP hw hK hc i pins s σ H E I hf st hg
    subst hP hw hK
    obtain ⟨⟨old, he⟩, hit, _, hne⟩ := st
    have hlt : i < z.cps.size := hg
    have hel : e < s.heap.objs.size := Heap.lt_size he
    have hil : it < s.heap.objs.size := by obtain ⟨_, q, _⟩ := hit; exact Heap.lt_size q
    refine wpAny_pyNext_enum_itemD (Draws.text (A := X.A.in1) (I.ok.hd hc) it z tz) he hit hlt hne (by simpa using hne) fun x' h' tk hx' ho hst hT hsz hk => ?_
    obtain ⟨cp, u, hcp, rfl⟩ := hx'
    refine ⟨_, rfl, wpAny_letOwnedTupleGo_enum (s := { s with heap := h', toks := tk + 1 }) ho fun h'' he' sb => ?_⟩
    have hT2 : h''.get? s.heap.objs.size = some { cls := .type "tuple", data := .seq #[.int i tk, .str ⟨#[cp]⟩ u] } := (sb.2 _ (Nat.ne_of_gt hel)).trans hT
    have new : ObjOk X.prog X.w (upd H s.heap.objs.size (.tup [.int (i : Nat), .str ⟨#[cp]⟩])) h'' s.heap.objs.size (.tup [.int (i : Nat), .str ⟨#[cp]⟩]) :=
      ⟨by show 2 ≤ sizeLine; decide, [.int i tk, .str ⟨#[cp]⟩ u], .cons ⟨_, rfl⟩ (.cons ⟨_, rfl⟩ .nil), ⟨_, hT2, rfl, _, rfl⟩⟩
    have I1 : Inv X pins σ (upd H s.heap.objs.size (.tup [.int (i : Nat), .str ⟨#[cp]⟩])) { s with heap := h'', toks := tk + 1 } :=
      I.turnedNew (ch := [e, it]) (fun b ob hb q => (sb.2 b (fun z => hb (by simp [z]))).trans (hk b ob (fun z => hb (by simp [z])) (fun z => hb (by simp [z])) q)) hf (Nat.le_refl _) new
    refine ⟨.ref s.heap.objs.size, _, I1, rfl, ⟨_, cp, rfl, I.hok.fresh (Nat.le_refl _), rfl, hcp⟩, ⟨⟨.str ⟨#[cp]⟩ u, ?_⟩, ?_, hlt, hne⟩, fun b hb => ?_⟩
    · have e1 : ((i + 1 : Nat) : Int) = (i : Int) + 1 := by omega
      rw [e1]; exact he'
    · obtain ⟨o, q1, q2⟩ := hst
      exact ⟨o, (sb.2 it (Ne.symm hne)).trans q1, q2⟩
    · have hb' : b < s.heap.objs.size := by
        rcases (show b = e ∨ b = it by simpa using hb) with q | q
        · rw [q]; exact hel
        · rw [q]; exact hil
      rw [upd_ne (Nat.ne_of_lt hb')]
      exact (hf b hb).1
  done := by
    intro X hP hw hK hc i pins s σ H E I hf st hg
    subst hP hw hK
    obtain ⟨⟨old, he⟩, hit, hle, hne⟩ := st
    have hi : i = z.cps.size := Nat.le_antisymm hle hg
    obtain ⟨f0, f1, f2, f3, f4, f5⟩ := hf it (by simp)
    exact wpAny_pyNext_enum_endD (Draws.text (A := X.A.in1) (I.ok.hd hc) it z tz) he (by rw [← hi]; exact hit) fun h' eb => ⟨rfl, I.turned (t' := s.toks) (fun b o hb q => eb b o hb q) f0 f1 f3 f4 f5⟩
  self := fun A i s Q E st h => let ⟨⟨_, he⟩, _⟩ := st; wpAny_pyIter_enum he h
def iEnumSt (ta : TA) : TI := fun σ H R => ta σ H fun vs H1 => ∃ z, vs = [.str z] ∧ R (IteS z) H1
theorem pi_enumS {X : Cx} {e : Expr} {ta : TA} {p pos tpos : Pos} {elts : List Expr} {kk : Nat} (hg : Gl X "enumerate") (hm : X.mg "enumerate" = none) (ha : PA X [e] ta) (hs : starEach [e] X.env = [(false, eval e X.env)]) :
    PI X (.Tuple elts kk tpos) (.Call (.Name "enumerate" p) [e] [] pos) (iEnumSt ta) := by
  refine ⟨fun pins s σ H R I h => ?_⟩
  refine Call_ (ld_blt I hg hm boot_enumerate (PyProof.Rows.callWith_type1 (thn (ha.run pos pins s σ H _ I h) fun us s1 hu => ?_) hs rfl))
  obtain ⟨vs, H1, I1, r1, z, rfl, q⟩ := hu
  cases r1 with
  | cons r rr =>
    cases rr
    obtain ⟨tz, rfl⟩ := r
    refine call_enumB (begins_text z tz) trivial fun h' he hit hsz hk => wpAny_pyIter_enum he ?_
    have I2 : Inv X pins σ H1 { s1 with heap := h' } := I1.kept (t' := s1.toks) hk
    refine ⟨s1.heap.objs.size + 1, [s1.heap.objs.size + 1, s1.heap.objs.size], _, _, H1, rfl, I2, turn_enumS z tz (s1.heap.objs.size + 1) s1.heap.objs.size, ⟨⟨.none, he⟩, ⟨_, hit, rfl, rfl⟩, Nat.zero_le _, Nat.succ_ne_self _⟩, fun b hb => ?_, q⟩
    have hle : s1.heap.objs.size ≤ b := by
      rcases (show b = s1.heap.objs.size + 1 ∨ b = s1.heap.objs.size by simpa using hb) with q | q
      · rw [q]; exact Nat.le_add_right _ _
      · rw [q]; exact Nat.le_refl _
    exact I1.fpOk hle (I1.hok.fresh hle)
end L2
namespace G
open PySem PySem.Spec L2
def iEnumS (ds : List D) (S : Sg) : Res Items := match ds with
  | [.str z] => .ok ⟨enumD (z.cps.toList.map fun n => .str ⟨#[n]⟩), fun _ => True⟩ S
  | _ => .st
theorem items_enumS {c : Cc} {ρ : List Addr} {H : Hp} {z : Str} : IsItems c ρ H (IteS z) ⟨enumD (z.cps.toList.map fun n => .str ⟨#[n]⟩), fun _ => True⟩ := by
  intro ρ' S' H' i e R' ok
  refine ⟨fun hi => ?_, fun x hx => ?_⟩
  · have : i = z.cps.size := by simpa [enumD] using hi
    exact Nat.le_of_eq this.symm
  · have hx' : ((List.range (z.cps.toList.map fun n => D.str ⟨#[n]⟩).length).map fun i => D.tup true [.int (i : Nat), (z.cps.toList.map fun n => D.str ⟨#[n]⟩).getD i .non])[i]? = some x := hx
    rw [List.getElem?_map] at hx'
    obtain ⟨m, hm, rfl⟩ := Option.map_eq_some_iff.mp hx'
    obtain ⟨h1, h2⟩ := List.getElem?_eq_some_iff.mp hm
    have him : m = i := by simpa using h2.symm
    subst him
    have hmn : m < z.cps.size := by simpa using h1
    refine ⟨hmn, fun y H2 hy => ?_⟩
    obtain ⟨T, cp, rfl, hT, rfl, hcp⟩ := hy
    have e2 : (z.cps.toList.map fun n => D.str ⟨#[n]⟩).getD m .non = .str ⟨#[cp]⟩ := by
      rw [List.getD_eq_getElem?_getD, List.getElem?_map]
      have : z.cps.toList[m]? = some cp := by simpa using hcp
      rw [this]
      rfl
    rw [e2]
    exact ⟨Ext.lay hT, R'.lay hT, .tup .new (.cons (.int _) (.cons (.str _) .nil))⟩
section
variable {X : Cx} {W : WX} {e tg a : Expr} {pos p : Pos} {fs : FL} {elts : List Expr} {kk : Nat} {tpos : Pos}
theorem di_enumS (hg : Gl X "enumerate") (hm : X.mg "enumerate" = none) (ha : DA X W [a] fs) (hs : starEach [a] X.env = [(false, eval a X.env)]) : DI X W (.Tuple elts kk tpos) (.Call (.Name "enumerate" p) [a] [] pos) (fIt iEnumS fs) := by
  refine PI.imp (pi_enumS hg hm ha hs) fun σ H Rr ⟨ρ, env, S, E, R, h⟩ => ⟨ρ, env, S, E, R, Fin.mono h.bind fun x H1 ⟨ρ1, S1, ds, e1, R1, r1, h1⟩ => ?_⟩
  unfold iEnumS at h1
  split at h1
  · cases r1 with
    | cons q r1 =>
      cases r1
      cases q
      exact ⟨_, rfl, h1.done R1 items_enumS⟩
  · exact h1.elim
theorem InN.enumS {Z : Zk} {N : List Str} {sc : Scope} (h : InN Z N sc X) {q tq : Pos} (ha : DA X W [a] fs) (hg : glB sc "enumerate" = true := by decide +kernel) (hs : noStar a = true := by rfl) : DI X W (.Tuple elts kk tq) (.Call (.Name "enumerate" p) [a] [] q) (fIt iEnumS fs) :=
  di_enumS (h.glb hg) h.free ha (star_cons hs)
end
theorem InN.gKd {Z : Zk} {N : List Str} {sc : Scope} {X : Cx} {W : WX} {x : Str} {pos : Pos} {ks : List Str} {ds : List D} (h : InN Z N sc X) (hc : ∃ p vs, Z.mg x = some (.ref p) ∧ KdAt Z.K Z.w p ks vs ∧ ∀ ρ H, RL ⟨Z.K, Z.mg, Z.w⟩ ρ H vs ds) (hg : glB sc x = true := by decide +kernel) (hp : plainN x = true := by decide +kernel) : DE X W (.Name x pos) (fC (.kd ks ds)) := by
  obtain ⟨p, vs, h1, h2, h3⟩ := hc
  refine PE.imp (pe_glob (h.glb hg) (by rw [h.gl]; exact h1) (v := .ref p) rfl (plainN_1 hp)) fun σ H Q ⟨ρ, env, S, E, R, z⟩ => z.done R ?_
  rw [h.ccE]
  exact .kd h2 (h3 ρ H)
end G
namespace G
open PySem PySem.Spec L2 PyProof.Rows
section
variable {X : Cx} {W : WX} {a b : Expr} {fa fb : FE} {pos : Pos}
theorem RL.rep {c : Cc} {ρ : List Addr} {H : Hp} {vs : List V} {ds : List D} (r : RL c ρ H vs ds) : ∀ k : Nat, RL c ρ H (List.replicate k vs).flatten (List.replicate k ds).flatten
  | 0 => .nil
  | k + 1 => by
    rw [List.replicate_succ, List.replicate_succ, List.flatten_cons, List.flatten_cons]
    exact r.append (RL.rep r k)
def dMulL (a b : D) (S : Sg) : Res D := match a, b with
  | .obj k, .int n => match S[k]? with
    | some (.lst xs) => if -(2 ^ 62) ≤ n ∧ n < 2 ^ 62 ∧ xs.length * n.toNat ≤ sizeLine then .ok (.obj S.length) (S ++ [.lst (List.replicate n.toNat xs).flatten]) else .st
    | _ => .st
  | _, _ => .st
theorem dMulL_ok {c : Cc} : OpD c rRep dMulL := by
  intro W σ ρ S H x y a b Q R r1 r2 q
  unfold dMulL at q
  split at q
  · rename_i k n
    cases r1 with
    | obj hk =>
      cases r2
      split at q
      · rename_i xs hx
        split at q
        · rename_i hz
          obtain ⟨a', ha', vs, e, l1⟩ := R.at_ k _ hx
          rw [hk] at ha'; cases ha'
          refine ⟨_, _, _, rfl, rfl, e, by omega, by omega, by rw [l1.len]; exact hz.2.2, fun p hp => ?_⟩
          refine q _ _ _ (Ext.put hp) (R.put hp ⟨_, upd_same, (l1.rep _).ext (Ext.put hp)⟩) (.obj ?_)
          rw [← R.len]
          simp
        · exact q.elim
      · exact q.elim
  · exact q.elim
theorem InN.mulL {Z : Zk} {N : List Str} {sc : Scope} (h : InN Z N sc X) (ha : DE X W a fa) (hb : DE X W b fb) : DE X W (.BinOp a .Mult b pos) (fBin dMulL fa fb) := de_bin op_rep dMulL_ok ha hb
end
end G
namespace G
open PySem PySem.Spec L2
def sSwap (o1 i1 o2 i2 : FE) (fs : FL) : FS := fun env S => (fs env S).s env fun ds S => match ds with
  | [x, y] => (o1 env S).s env fun o S => (i1 env S).s env fun i S => match setIx o i x S with
    | some S => (o2 env S).s env fun o S => (i2 env S).s env fun i S => match setIx o i y S with
      | some S' => .nx env S'
      | none => .st
    | none => .st
  | _ => .st
@[simp] theorem sSwap_e {o1 i1 o2 i2 : FE} {fs : FL} {env : Env} {S : Sg} : sSwap o1 i1 o2 i2 fs env S = (fs env S).s env fun ds S => match ds with
  | [x, y] => (o1 env S).s env fun o S => (i1 env S).s env fun i S => match setIx o i x S with
    | some S => (o2 env S).s env fun o S => (i2 env S).s env fun i S => match setIx o i y S with
      | some S' => .nx env S'
      | none => .st
    | none => .st
  | _ => .st := id rfl
theorem sw_subs {o1 i1 o2 i2 a b : Expr} {p1 p2 pt pt2 : Pos} {kt k2 : Nat} {env : PySem.Env} : swappedStores [.Tuple [.Subscript o1 i1 p1, .Subscript o2 i2 p2] kt pt] (.Tuple [a, b] k2 pt2) env = pure none := by
  unfold swappedStores
  simp
section
variable {X : Cx} {W : WX} {o1 i1 o2 i2 a b : Expr} {pos p1 p2 pt pt2 : Pos} {kt k2 : Nat} {fo1 fi1 fo2 fi2 : FE} {fs : FL}
theorem ds_swap (hc : X.calm = true) (hu : X.A.units + 1 < cLine) (ho1 : DE X W o1 fo1) (hi1 : DE X W i1 fi1) (ho2 : DE X W o2 fo2) (hi2 : DE X W i2 fi2) (ha : DA X W [a, b] fs)
    (h1 : ∀ v, assign (.Subscript o1 i1 p1) X.env v = (do
      let ov ← holding [v] (eval o1 X.env)
      let iv ← holding [v, ov] (eval i1 X.env)
      standAt p1
      holding [v, ov, iv] (setItem ov iv v)
      release [v, ov, iv] []))
    (h2 : ∀ v, assign (.Subscript o2 i2 p2) X.env v = (do
      let ov ← holding [v] (eval o2 X.env)
      let iv ← holding [v, ov] (eval i2 X.env)
      standAt p2
      holding [v, ov, iv] (setItem ov iv v)
      release [v, ov, iv] [])) : DS X W (.Assign [.Tuple [.Subscript o1 i1 p1, .Subscript o2 i2 p2] kt pt] (.Tuple [a, b] k2 pt2) pos) (sSwap fo1 fi1 fo2 fi2 fs) := by
  refine PS.imp (ps_asg (pe_tup ha) (pg_tup (n := 2) hc (pgs_cons (pg_sub ho1 hi1 (set_G hu) h1) (pgs_cons (pg_sub ho2 hi2 (set_G hu) h2) pgs_nil rfl) rfl) rfl rfl) (noComp_sole rfl) sw_subs rfl) fun D σ H ⟨ρ, env, S, E, R, h⟩ => ⟨ρ, env, S, E, R, Fin.mono (h.bind E) fun xs H1 ⟨ρ1, S1, ds, e1, R1, r1, hh⟩ => ?_⟩
  split at hh
  · rename_i x y
    cases r1 with
    | @cons v1 _ _ _ q1 r1 =>
      cases r1 with
      | @cons v2 _ _ _ q2 r1 =>
        cases r1
        refine ⟨by show 2 ≤ sizeLine; unfold sizeLine; decide, fun p hp => ?_⟩
        refine ⟨p, _, rfl, SqT.of upd_same, rfl, _, _, rfl, ?_⟩
        have E1 := E.ext (e1.trans (Ext.lay (o := .tup [v1, v2]) hp))
        have R1' := R1.lay (o := .tup [v1, v2]) hp
        have q1' := q1.ext (Ext.lay (o := .tup [v1, v2]) hp)
        have q2' := q2.ext (Ext.lay (o := .tup [v1, v2]) hp)
        have hh := FinS.ext (Ext.lay (o := .tup [v1, v2]) hp) hh
        refine ⟨ρ1, env, S1, E1, R1', Fin.mono (hh.bind E1) fun o H2 ⟨ρ2, S2, o', e2, R2, r2, h2⟩ => ?_⟩
        have E2 := E1.ext e2
        refine ⟨ρ2, env, S2, E2, R2, Fin.mono (h2.bind E2) fun i H3 ⟨ρ3, S3, i', e3, R3, r3, h3⟩ => ?_⟩
        split at h3
        · rename_i S4 hS
          refine setIx_ok R3 (r2.ext e3) r3 ((q1'.ext e2).ext e3) hS fun H4 e4 R4 => ?_
          have E3 := E2.ext e3
          have E4 := E3.ext e4
          refine ⟨_, _, rfl, ?_⟩
          have h4 := FinS.ext e4 h3
          refine ⟨ρ3, env, S4, E4, R4, Fin.mono (h4.bind E4) fun o H5 ⟨ρ5, S5, o5, e5, R5, r5, h5⟩ => ?_⟩
          have E5 := E4.ext e5
          refine ⟨ρ5, env, S5, E5, R5, Fin.mono (h5.bind E5) fun i H6 ⟨ρ6, S6, i6, e6, R6, r6, h6⟩ => ?_⟩
          split at h6
          · rename_i S7 hS7
            refine setIx_ok R6 (r5.ext e6) r6 ((((((q2'.ext e2).ext e3).ext e4).ext e5)).ext e6) hS7 fun H7 e7 R7 => ?_
            exact ⟨rfl, h6 ρ6 _ H7 e7 R7 ((E5.ext e6).ext e7)⟩
          · exact h6.elim
        · exact h3.elim
  · exact hh.elim
end
section
variable {Z : Zk} {N : List Str} {sc : Scope} {X : Cx} {W : WX} {o1 i1 o2 i2 a b e : Expr} {pos p1 p2 pt pt2 : Pos} {kt k2 : Nat} {fo1 fi1 fo2 fi2 fa : FE} {fs : FL}
theorem InS.swap (h : InS Z N sc X W) (ha : DA X W [a, b] fs) (ho1 : DE X W o1 fo1) (hi1 : DE X W i1 fi1) (ho2 : DE X W o2 fo2) (hi2 : DE X W i2 fi2)
    (h1 : ∀ v, assign (.Subscript o1 i1 p1) X.env v = (do
      let ov ← holding [v] (eval o1 X.env)
      let iv ← holding [v, ov] (eval i1 X.env)
      standAt p1
      holding [v, ov, iv] (setItem ov iv v)
      release [v, ov, iv] []) := by intro v; rfl)
    (h2 : ∀ v, assign (.Subscript o2 i2 p2) X.env v = (do
      let ov ← holding [v] (eval o2 X.env)
      let iv ← holding [v, ov] (eval i2 X.env)
      standAt p2
      holding [v, ov, iv] (setItem ov iv v)
      release [v, ov, iv] []) := by intro v; rfl) : DS X W (.Assign [.Tuple [.Subscript o1 i1 p1, .Subscript o2 i2 p2] kt pt] (.Tuple [a, b] k2 pt2) pos) (sSwap fo1 fi1 fo2 fi2 fs) :=
  ds_swap h.calm (by have := h.un; omega) ho1 hi1 ho2 hi2 ha h1 h2
end
section
variable {Z : Zk} {N : List Str} {sc : Scope} {X : Cx} {W : WX} {pos px : Pos} {es vs : List Expr} {k2 : Nat} {p2 : Pos} {fa : FE}
end
end G
namespace G
open PySem PySem.Spec L2 PyProof.Rows
def mergeT (kvs more : List (List Key × V)) : List (List Key × V) := more.foldl (fun acc kv => putK acc kv.1 kv.2) kvs
def mergeTD (kvs more : List (List Key × D)) : List (List Key × D) := more.foldl (fun acc kv => putD acc kv.1 kv.2) kvs
theorem KT.merge {H : Hp} {more : List (List Key × V)} {ys : List (List Key × Addr × Value)} (r : KT H more ys) : ∀ {kvs : List (List Key × V)} {xs : List (List Key × Addr × Value)}, KT H kvs xs → KT H (mergeT kvs more) (storedAllH xs ys) := by
  unfold KT at r
  induction r with
  | nil => intro kvs xs q; exact q
  | @cons p q ps qs h t ih =>
    intro kvs xs z
    obtain ⟨h1, h2, h3⟩ := h
    have := ih (KT.put z p.1 h2 h3)
    show KT H (mergeT (putK kvs p.1 p.2) ps) (storedAllH (storedH xs q.1 q.2.1 q.2.2) qs)
    rw [← h1]
    exact this
theorem RP.mergeT {c : Cc} {ρ : List Addr} {H : Hp} {more : List (List Key × V)} {moreD : List (List Key × D)} (r : RP c ρ H more moreD) : ∀ {vs : List (List Key × V)} {ds : List (List Key × D)}, RP c ρ H vs ds → RP c ρ H (G.mergeT vs more) (mergeTD ds moreD) := by
  induction r with
  | nil => intro vs ds q; exact q
  | cons h _ ih => intro vs ds q; exact ih (RP.put _ h q)
section
variable {Z : Zk} {N : List Str} {sc : Scope} {X : Cx} {W : WX} {e : Expr} {es : List Expr} {fs : FL} {p pos : Pos} {k : Nat}
end
section
variable {X : Cx} {W : WX} {e v1 v2 : Expr} {rest es : List Expr} {pos : Pos} {fe : FE} {fs : List FE}
end
section
variable {Z : Zk} {N : List Str} {sc : Scope} {X : Cx} {W : WX} {e a : Expr} {es : List Expr} {fs : FL} {fa : FE} {p pos apos : Pos}
end
end G
namespace G
open PySem PySem.Spec L2
section
variable {prog : Program} {w : World} {A : Around} {E : Value → Shared → Prop} {s : Shared}
set_option maxRecDepth 100000 in
end
section
variable {X : Cx} {o e : Expr} {lo hi : Option Expr} {pos p2 : Pos} {to : TE} {tl th : TO}
end
section
variable {X : Cx} {W : WX} {o e : Expr} {lo hi : Option Expr} {pos pos' p2 : Pos} {fo fv : FE} {fl fh : FO}
end
section
variable {Z : Zk} {N : List Str} {sc : Scope} {X : Cx} {W : WX} {o e : Expr} {lo hi : Option Expr} {pos px p2 : Pos} {fo fv : FE} {fl fh : FO}
end
section
variable {Z : Zk} {N : List Str} {sc : Scope} {X : Cx} {W : WX} {a e : Expr} {es : List Expr} {pos p apos : Pos} {fa : FE} {fs : FL}
end
end G
namespace G
open PySem PySem.Spec L2 PyProof.Rows
section
variable {Z : Zk} {N : List Str} {sc : Scope} {X : Cx} {W : WX} {a e : Expr} {es : List Expr} {pos p apos : Pos} {fa : FE} {fs : FL}
end
section
variable {X : Cx} {W : WX} {x : Str} {e : Expr} {pos p pos' : Pos} {fe : FE}
end
section
variable {Z : Zk} {N : List Str} {sc : Scope} {X : Cx} {W : WX} {x : Str} {e a : Expr} {es : List Expr} {pos p pos' apos : Pos} {fe fa : FE} {fs : FL}
end
section
variable {P : Program} {w : World} {K : PySem.W.Frag} {d : Addr} {o : Obj} {es : Array DictEntry} {ep : Nat}
end
section
variable {X : Cx} {W : WX}
theorem rp_get {c : Cc} {ρ : List Addr} {H : Hp} {κ : Type} : ∀ {vs : List (κ × V)} {ds : List (κ × D)} {j : Nat} {k : κ} {v : V}, RP c ρ H vs ds → vs[j]? = some (k, v) → ∃ d, ds[j]? = some (k, d) ∧ RD c ρ H v d
  | _, _, 0, _, _, .cons r t, h => by cases h; exact ⟨_, rfl, r⟩
  | _, _, j + 1, _, _, .cons r t, h => by
    rw [List.getElem?_cons_succ] at h ⊢
    exact rp_get t h
end
section
variable {Z : Zk} {N : List Str} {sc : Scope} {X : Cx} {W : WX} {a e : Expr} {es : List Expr} {pos p apos : Pos} {fa : FE} {fs : FL}
end
section
variable {P : Program} {w : World} {H : Hp} {h : Heap}
abbrev XV := NestedKey × Addr × V
abbrev XU := NestedKey × Addr × Value
abbrev PN : List XV → List XU → Prop := Paired fun p q => p.1 = q.1 ∧ p.2.1 = q.2.1 ∧ RelV p.2.2 q.2.2
theorem pn_keys {xs : List XV} {ys : List XU} (r : PN xs ys) : xs.map (·.1) = ys.map (·.1) := by
  induction r with
  | nil => rfl
  | cons a _ ih => rw [List.map_cons, List.map_cons, a.1, ih]
theorem pn_is {xs : List XV} {ys : List XU} (ok : HOk P w H h) (r : PN xs ys) (t : ∀ x ∈ xs, TN H x.1 (.ref x.2.1)) (d : ∀ x ∈ xs, x.1.depth ≤ 8) : ∀ y ∈ ys, (nestedKind P w).is h y.1 y.2.1 := by
  induction r with
  | nil => intro y hy; cases hy
  | cons a _ ih =>
    intro y hy
    rcases List.mem_cons.mp hy with rfl | hy
    · rw [← a.1, ← a.2.1]
      exact ⟨TN.is ok (t _ List.mem_cons_self) rfl, d _ List.mem_cons_self⟩
    · exact ih (fun x hx => t x (List.mem_cons_of_mem _ hx)) (fun x hx => d x (List.mem_cons_of_mem _ hx)) y hy
theorem pn_none {xs : List XV} {ys : List XU} {k : NestedKey} (r : PN xs ys) (n : ∀ x ∈ xs, x.1 ≠ k) : atKey ys k = none := by
  induction r with
  | nil => rfl
  | @cons a b _ _ q _ ih =>
    have h1 : b.1 ≠ k := by rw [← q.1]; exact n _ List.mem_cons_self
    have h2 := ih fun x hx => n x (List.mem_cons_of_mem _ hx)
    unfold atKey at h2 ⊢
    rw [List.find?_cons, decide_eq_false h1]
    exact h2
theorem dn_of {a : Addr} {o : Obj} {xs : List XV} (ok : HOk P w H h) (e : Rd H a (NDo a o)) (n : OkN w a o xs) (t : ∀ x ∈ xs, TN H x.1 (.ref x.2.1)) : h.get? a = some o ∧ ∃ ys, PN xs ys ∧ h.DictOfH (nestedKind P w) a ys := by
  obtain ⟨hs, hz, hx, nd, dp, ys, es, ep, pr, hd, he⟩ := n
  have g : h.get? a = some o := (show ObjOk P w H h a (NDo a o) from rd_of ok e).1
  exact ⟨g, ys, pr, o, es, ep, g, hx, hd, he P, pn_is ok pr t dp, by rw [← pn_keys pr]; exact nd⟩
theorem ndo_ok {a : Addr} {o : Obj} (g : h.get? a = some o) : ObjOk P w H h a (NDo a o) := ⟨g, ⟨o, g⟩, fun h1 h2 e k => k _ e⟩
theorem okNo_of {a : Addr} {xs : List XV} {ys : List XU} (hs : (a == sysModules) = false) (hz : xs.length ≤ sizeLine) (dp : ∀ x ∈ xs, x.1.depth ≤ 8) (pr : PN xs ys) (d : h.DictOfH (nestedKind P w) a ys) : ∃ o, h.get? a = some o ∧ OkN w a o xs := by
  obtain ⟨o, es, ep, g, hx, hd, he, _, nd⟩ := d
  exact ⟨o, g, hs, hz, hx, by rw [pn_keys pr]; exact nd, dp, ys, es, ep, pr, hd, fun P => he⟩
end
section
variable {X : Cx} {pos : Pos}
def tNewN (w : World) : TE := fun _ H Q => ∀ p o, H p = none → OkN w p o [] → Q (.ref p) (upd H p (NDo p o))
theorem pe_newN : PE X (.Dict [] [] pos) (tNewN X.w) := ⟨fun pins s σ H Q I h => by
  have hm : (s.heap.objs.size == sysModules) = false := beq_eq_false_iff_ne.mpr (Nat.ne_of_gt I.big)
  obtain ⟨o, g, n⟩ := okNo_of (P := X.prog) (w := X.w) (xs := []) (ys := []) hm (Nat.zero_le _) (fun _ z => nomatch z) .nil (Heap.DictOfH.new s.heap)
  exact wpAny_Dict_empty ⟨.ref s.heap.objs.size, _, I.laid (a := s.heap.objs.size) (o := NDo _ o) (t' := s.toks) (fun _ _ q => Heap.get?_push_of_some _ q) (Nat.le_refl _) (ndo_ok g), rfl, h _ o (I.hok.fresh (Nat.le_refl _)) n⟩⟩
def fNewN : FE := fun _ S => .ok (.obj S.length) (S ++ [.dN []])
@[simp] theorem fNewN_e {env : Env} {S : Sg} : fNewN env S = .ok (.obj S.length) (S ++ [.dN []]) := id rfl
theorem de_newN {W : WX} : DE X W (.Dict [] [] pos) fNewN := PE.imp pe_newN fun σ H Q ⟨ρ, env, S, E, R, h⟩ => fun p o hp n => h _ _ _ (Ext.put hp) (R.put hp ⟨o, [], upd_same, n, (fun _ z => nomatch z), .nil⟩) (.obj (by rw [← R.len]; simp))
end
mutual
def nkOf : D → Option NestedKey
  | .int i => some (.num i)
  | .str x => some (.text x)
  | .tup true ds => (nksOf ds).map .tup
  | _ => none
def nksOf : List D → Option (List NestedKey)
  | [] => some []
  | d :: ds => match nkOf d, nksOf ds with
    | some k, some ks => some (k :: ks)
    | _, _ => none
end
section
variable {c : Cc} {ρ : List Addr} {H : Hp}
mutual
theorem nk_ok : ∀ {v : V} {d : D} {k : NestedKey}, RD c ρ H v d → nkOf d = some k → TN H k v
  | _, .int i, k, .int _, h => by cases h; exact .num _
  | _, .str x, k, .str _, h => by cases h; exact .text _
  | _, .tup true ds, k, .tup ht hl, h => by
    unfold nkOf at h
    obtain ⟨ks, e, rfl⟩ := Option.map_eq_some_iff.mp h
    exact .tup (ht.1 rfl) (nks_ok hl e)
  | _, .tup false ds, k, _, h => by cases h
  | _, .non, _, _, h => by cases h
  | _, .bl _, _, _, h => by cases h
  | _, .il _, _, _, h => by cases h
  | _, .obj _, _, _, h => by cases h
  | _, .fn _, _, _, h => by cases h
  | _, .ty _, _, _, h => by cases h
  | _, .kd _ _, _, _, h => by cases h
theorem nks_ok : ∀ {vs : List V} {ds : List D} {ks : List NestedKey}, RL c ρ H vs ds → nksOf ds = some ks → TNs H ks vs
  | _, [], _, .nil, h => by cases h; exact .nil
  | _, d :: ds, ks, .cons r1 r2, h => by
    unfold nksOf at h
    split at h
    · rename_i k ks' e1 e2
      cases h
      exact .cons (nk_ok r1 e1) (nks_ok r2 e2)
    · cases h
end
end
def freshN (kvs : List (NestedKey × D)) (k : NestedKey) : Bool := kvs.all fun kv => !decide (kv.1 = k)
theorem rp_keys {κ : Type} {c : Cc} {ρ : List Addr} {H : Hp} : ∀ {vs : List (κ × V)} {ds : List (κ × D)}, RP c ρ H vs ds → vs.map (·.1) = ds.map (·.1)
  | _, _, .nil => rfl
  | _, _, .cons _ t => by rw [List.map_cons, List.map_cons, rp_keys t]
theorem fresh_of {c : Cc} {ρ : List Addr} {H : Hp} {xs : List XV} {kvs : List (NestedKey × D)} {k : NestedKey} (r : RP c ρ H (xs.map fun x => (x.1, x.2.2)) kvs) (h : freshN kvs k = true) : ∀ x ∈ xs, x.1 ≠ k := by
  intro x hx e
  have hk := rp_keys r
  rw [List.map_map] at hk
  have : x.1 ∈ kvs.map (·.1) := by
    rw [← hk]
    exact List.mem_map.mpr ⟨x, hx, rfl⟩
  obtain ⟨kv, h1, h2⟩ := List.mem_map.mp this
  have := List.all_eq_true.mp h kv h1
  rw [h2, e] at this
  simp at this
section
variable {X : Cx} {W : WX} {o e : Expr} {es : List Expr} {to : TE} {t : TA} {apos cpos : Pos} {fa : FE} {fs : FL}
def rGetN (w : World) : V → List V → Hp → VK → Prop := fun x ys H Q => ∃ a ob xs k b d, x = .ref a ∧ ys = [.ref b, d] ∧ H a = some (NDo a ob) ∧ OkN w a ob xs ∧ (∀ x ∈ xs, TN H x.1 (.ref x.2.1)) ∧ TN H k (.ref b) ∧ k.depth ≤ 8 ∧ (∀ x ∈ xs, x.1 ≠ k) ∧ Q d H
def tGetN (w : World) (to : TE) (t : TA) : TE := fun σ H Q => to σ H fun x H1 => (∃ a ob xs, x = .ref a ∧ H1 a = some (NDo a ob) ∧ OkN w a ob xs) ∧ t σ H1 fun ys H2 => rGetN w x ys H2 Q
theorem pe_getN (hu : X.A.units + 9 < cLine) (ho : PE X o to) (ha : PA X (e :: es) t) (hbase : attributeBase o "get" X.env (eval o X.env) = eval o X.env)
    (hfew : ((backTo cpos (starEach (e :: es) X.env)).all (fun x => !x.1) && (backToKw cpos (keywordEach [] X.env)).all (fun x => x.1.isSome)
      && decide ((e :: es).length + ([] : List Keyword).length + (if ([] : List Keyword).isEmpty then 0 else 1) < 30)) = true)
    (hline : (apos.endLine == cpos.line) = true) (hs : starEach (e :: es) X.env = (false, eval e X.env) :: starEach es X.env) (hplain : (backTo cpos (starEach es X.env)).any (·.1) = false) :
    PE X (.Call (.Attribute o "get" apos) (e :: es) [] cpos) (tGetN X.w to t) := by
  refine ⟨fun pins s σ H Q I h => ?_⟩
  refine wpAny_Call_method_late hbase hfew hline rfl (thn (ho.run pins s σ H _ I h) fun v s1 ⟨x, H1, I1, r1, ty, q1⟩ => ?_)
  obtain ⟨a, ob, xs, rfl, ea, n⟩ := ty
  cases r1
  have g : s1.heap.get? a = some ob := (show ObjOk X.prog X.w H1 s1.heap a (NDo a ob) from I1.hok a _ ea).1
  have hx := n.2.2.1
  refine ⟨"dict", "dict.get", PySem.F.plainAttrs_dict, PySem.F.slot_dict_get, PySem.F.type_dict_get, ⟨ob, g, hx.1⟩, fun b eb => (by cases eb; exact ⟨ob, g, hx.2.1⟩), ?_⟩
  have hA := ha.run cpos pins s1 σ H1 _ I1 q1
  rw [hs] at hA ⊢
  refine Calls.callWith_builtin (by show (false || (backTo cpos (starEach es X.env)).any (·.1)) = false; rw [hplain] <;> rfl) (Calls.evalArgs_plain ?_)
  refine thn hA fun us s2 ⟨vs, H2, I2, r2, q2⟩ => ?_
  obtain ⟨a', ob2, xs2, k, b, d, e1, rfl, ea2, n2, t2, tk, dk, nk, q⟩ := q2
  cases e1
  obtain ⟨u, u2, rfl, ru, ru2⟩ := r2.two
  cases ru
  obtain ⟨_, ys, pr, dd⟩ := dn_of I2.hok (.inl ea2) n2 t2
  have hn := pn_none pr nk
  refine call_meetsIn PySem.F.slot_dict_get dd.typeIs PySem.F.entry_dict_get (PySem.F.args_dict_get_3 _ _ _) (meetsH_dict_get_default (nestedKind X.prog X.w) a b n2.1 u2) ⟨?_, k, ys, ⟨TN.is I2.hok tk rfl, dk⟩, dd, ?_⟩
  · show X.A.in1.units + 8 < cLine
    rw [Around.in1_units]
    omega
  · rw [hn]
    exact ⟨d, H2, I2.tok _, ru2, q⟩
def fGetN (fa : FE) (fs : FL) : FE := fun env S => (fa env S).bind fun d S => match d with
  | .obj k => match S[k]? with
    | some (.dN _) => (fs env S).bind fun ds S => match ds with
      | [.tup true ks, x] => match S[k]?, nksOf ks with
        | some (.dN kvs), some key => if (NestedKey.tup key).depth ≤ 8 ∧ freshN kvs (.tup key) = true then .ok x S else .st
        | _, _ => .st
      | _ => .st
    | _ => .st
  | _ => .st
theorem dn_at {c : Cc} {ρ : List Addr} {S : Sg} {H : Hp} {k : Nat} {a : Addr} {kvs : List (NestedKey × D)} (R : Rel c ρ S H) (hk : ρ[k]? = some a) (h : S[k]? = some (.dN kvs)) :
    ∃ o xs, H a = some (NDo a o) ∧ OkN c.w a o xs ∧ (∀ x ∈ xs, TN H x.1 (.ref x.2.1)) ∧ RP c ρ H (xs.map fun x => (x.1, x.2.2)) kvs := by
  obtain ⟨a', ha', q⟩ := R.at_ k _ h
  rw [hk] at ha'; cases ha'
  exact q
theorem de_getN (hu : X.A.units + 9 < cLine) (ho : DE X W o fa) (ha : DA X W (e :: es) fs) (hbase : attributeBase o "get" X.env (eval o X.env) = eval o X.env)
    (hfew : ((backTo cpos (starEach (e :: es) X.env)).all (fun x => !x.1) && (backToKw cpos (keywordEach [] X.env)).all (fun x => x.1.isSome)
      && decide ((e :: es).length + ([] : List Keyword).length + (if ([] : List Keyword).isEmpty then 0 else 1) < 30)) = true)
    (hline : (apos.endLine == cpos.line) = true) (hs : starEach (e :: es) X.env = (false, eval e X.env) :: starEach es X.env) (hplain : (backTo cpos (starEach es X.env)).any (·.1) = false) :
    DE X W (.Call (.Attribute o "get" apos) (e :: es) [] cpos) (fGetN fa fs) := by
  refine PE.imp (pe_getN hu ho ha hbase hfew hline hs hplain) fun σ H Q ⟨ρ, env, S, E, R, h⟩ => ?_
  refine ⟨ρ, env, S, E, R, Fin.mono h.bind fun x H1 ⟨ρ1, S1, d, e1, R1, r1, h1⟩ => ?_⟩
  split at h1
  · rename_i k
    split at h1
    · rename_i kv0 hS
      cases r1 with
      | @obj _ a hk =>
        obtain ⟨ob, xs, ea, n, _, _⟩ := dn_at R1 hk hS
        refine ⟨⟨a, ob, xs, rfl, ea, n⟩, ρ1, env, S1, E.ext e1, R1, Fin.mono h1.bind fun ys H2 ⟨ρ2, S2, ds, e2, R2, r2, h2⟩ => ?_⟩
        split at h2
        · rename_i ks x2
          split at h2
          · rename_i kvs key hS2 hkey
            split at h2
            · rename_i hz
              cases r2 with
              | cons q1 q2 =>
                cases q2 with
                | cons q2 q3 =>
                  cases q3
                  have tk := nk_ok (k := .tup key) q1 (by unfold nkOf; rw [hkey]; rfl)
                  cases q1 with
                  | tup ht hl =>
                    obtain ⟨ob2, xs2, ea2, n2, t2, rp2⟩ := dn_at R2 (e2.get hk) hS2
                    exact ⟨a, ob2, xs2, _, _, _, rfl, rfl, ea2, n2, t2, tk, hz.1, fresh_of rp2 hz.2, h2.done R2 q2⟩
            · exact h2.elim
          · exact h2.elim
        · exact h2.elim
    · exact h1.elim
  · exact h1.elim
end
section
variable {X : Cx} {W : WX} {e : Expr} {pos pos' : Pos}
def rSetN (w : World) : TSet := fun o i v H Q => ∃ a ob xs k b, o = .ref a ∧ i = .ref b ∧ H a = some (NDo a ob) ∧ OkN w a ob xs ∧ (∀ x ∈ xs, TN H x.1 (.ref x.2.1)) ∧ TN H k (.ref b) ∧ k.depth ≤ 8 ∧ (∀ x ∈ xs, x.1 ≠ k) ∧ xs.length < sizeLine ∧
  ∀ ob', OkN w a ob' (xs ++ [(k, b, v)]) → Q (upd H a (NDo a ob'))
theorem set_N (hu : X.A.units + 9 < cLine) : PSet X (rSetN X.w) := by
  intro pins s σ H o i v ov iv u Q I ro ri rv h
  obtain ⟨a, ob, xs, k, b, rfl, rfl, ea, n, t, tk, dk, nk, hz, q⟩ := h
  cases ro
  cases ri
  obtain ⟨_, ys, pr, dd⟩ := dn_of I.hok (.inl ea) n t
  have hn := pn_none pr nk
  have hl : xs.length = ys.length := Paired.length pr
  refine wpAny_setItem_heap (hsz := by rw [← hl]; omega) (knd := nestedKind X.prog X.w) ?_ (show (nestedKind X.prog X.w).is s.heap k b from ⟨TN.is I.hok tk rfl, dk⟩) dd fun h' dd' hs => ?_
  · show X.A.in1.units + 8 < cLine
    rw [Around.in1_units]
    omega
  · rw [storedH_new hn] at dd'
    obtain ⟨ob', g, n'⟩ := okNo_of (xs := xs ++ [(k, b, v)]) n.1 (by simp; omega) (fun x hx => by
      rcases List.mem_append.mp hx with hx | hx
      · exact n.2.2.2.2.1 x hx
      · simp at hx; subst hx; exact dk) (Paired.snoc pr ⟨rfl, rfl, rv⟩) dd'
    exact ⟨_, d_write I (by rw [ea]; exact True.intro) hs ⟨ob', g⟩ (ndo_ok g), q ob' n'⟩
def setIxN (o i d : D) (S : Sg) : Option Sg := match o with
  | .obj k => match S[k]?, i with
    | some (.dN kvs), .tup true ks => match nksOf ks with
      | some key => if kvs.length < sizeLine ∧ (NestedKey.tup key).depth ≤ 8 ∧ freshN kvs (.tup key) = true then some (S.set k (.dN (kvs ++ [(.tup key, d)]))) else none
      | none => none
    | _, _ => none
  | _ => none
theorem rp_snoc {κ : Type} {c : Cc} {ρ : List Addr} {H : Hp} {k : κ} {v : V} {d : D} (r : RD c ρ H v d) : ∀ {vs : List (κ × V)} {ds : List (κ × D)}, RP c ρ H vs ds → RP c ρ H (vs ++ [(k, v)]) (ds ++ [(k, d)])
  | _, _, .nil => .cons r .nil
  | _, _, .cons a t => .cons a (rp_snoc r t)
theorem setIxN_ok {c : Cc} {ρ : List Addr} {S S' : Sg} {H : Hp} {o i v : V} {dO dI d : D} {Q : Hp → Prop} (R : Rel c ρ S H) (ro : RD c ρ H o dO) (ri : RD c ρ H i dI) (rv : RD c ρ H v d) (h : setIxN dO dI d S = some S')
    (k : ∀ H', Ext ρ H ρ H' → Rel c ρ S' H' → Q H') : rSetN c.w o i v H Q := by
  unfold setIxN at h
  split at h
  · rename_i kk
    split at h
    · rename_i kvs ks hS
      split at h
      · rename_i key hkey
        split at h
        · rename_i hz
          cases h
          have tk := nk_ok (k := .tup key) ri (by unfold nkOf; rw [hkey]; rfl)
          cases ro with
          | @obj _ a hk =>
            cases ri with
            | tup ht hl =>
              obtain ⟨ob, xs, ea, n, t, rp⟩ := dn_at R hk hS
              have hlen : xs.length = kvs.length := by have := RP.len rp; rw [List.length_map] at this; exact this
              refine ⟨a, ob, xs, _, _, rfl, rfl, ea, n, t, tk, hz.2.1, fresh_of rp hz.2.2, by omega, fun ob' n' => ?_⟩
              have ee := Ext.set (o := NDo a ob') R (List.mem_of_getElem? hk)
              refine k _ ee (R.set hk ⟨ob', _, upd_same, n', fun x hx => ?_, ?_⟩)
              · rcases List.mem_append.mp hx with hx | hx
                · exact (t x hx).ext ee.tup
                · simp at hx
                  subst hx
                  exact tk.ext ee.tup
              · rw [List.map_append]
                exact rp_snoc (rv.ext ee) (rp.ext ee)
        · cases h
      · cases h
    · cases h
  · cases h
def sSetIxN (fo fi fv : FE) : FS := fun env S => (fv env S).s env fun d S => (fo env S).s env fun o S => (fi env S).s env fun i S => match setIxN o i d S with
  | some S' => .nx env S'
  | none => .st
@[simp] theorem sSetIxN_e {fo fi fv : FE} {env : Env} {S : Sg} : sSetIxN fo fi fv env S = (fv env S).s env fun d S => (fo env S).s env fun o S => (fi env S).s env fun i S => match setIxN o i d S with
  | some S' => .nx env S'
  | none => .st := id rfl
theorem ds_setIxN {o i : Expr} {fo fi fv : FE} (hu : X.A.units + 9 < cLine) (ho : DE X W o fo) (hi : DE X W i fi) (hv : DE X W e fv) (hs : swapsWithSole [.Subscript o i pos'] e pos.line X.env = pure false)
    (hw : swappedStores [.Subscript o i pos'] e X.env = pure none)
    (ha : ∀ v, assign (.Subscript o i pos') X.env v = (do
      let ov ← holding [v] (eval o X.env)
      let iv ← holding [v, ov] (eval i X.env)
      standAt pos'
      holding [v, ov, iv] (setItem ov iv v)
      release [v, ov, iv] [])) : DS X W (.Assign [.Subscript o i pos'] e pos) (sSetIxN fo fi fv) := by
  refine PS.imp (ps_asg hv (pg_sub ho hi (set_N hu) ha) hs hw rfl) fun D σ H ⟨ρ, env, S, E, R, h⟩ => ⟨ρ, env, S, E, R, Fin.mono (h.bind E) fun x H1 ⟨ρ1, S1, d, e1, R1, r1, h1⟩ => ?_⟩
  have E1 := E.ext e1
  refine ⟨ρ1, env, S1, E1, R1, Fin.mono (h1.bind E1) fun y H2 ⟨ρ2, S2, o', e2, R2, r2, h2⟩ => ?_⟩
  have E2 := E1.ext e2
  refine ⟨ρ2, env, S2, E2, R2, Fin.mono (h2.bind E2) fun z H3 ⟨ρ3, S3, i', e3, R3, r3, h3⟩ => ?_⟩
  split at h3
  · rename_i S' hS
    exact setIxN_ok R3 (r2.ext e3) r3 ((r1.ext e2).ext e3) hS fun H' ee R' => h3 ρ3 _ H' ee R' ((E2.ext e3).ext ee)
  · exact h3.elim
end
section
variable {prog : Program} {w : World} {K : Type} [DecidableEq K] {knd : HeapKind prog w K} {A : Around} {E : Value → Shared → Prop} {s : Shared}
inductive HitsH (prog : Program) (w : World) {K : Type} [DecidableEq K] (A : Around) (s : Shared) (kb : List (K × Addr × Value)) : List (K × Addr × Value) → Bool → Prop
  | nil : HitsH prog w A s kb [] true
  | miss {x : K × Addr × Value} {r : List (K × Addr × Value)} : atKey kb x.1 = none → HitsH prog w A s kb (x :: r) false
  | hit {x : K × Addr × Value} {p : Addr × Value} {r : List (K × Addr × Value)} {e b : Bool} : atKey kb x.1 = some p → SeqAt.EqP prog w A s x.2.2 p.2 e → HitsH prog w A s kb r b → HitsH prog w A s kb (x :: r) (e && b)
theorem HitsH.inv {kb : List (K × Addr × Value)} {x : K × Addr × Value} {r : List (K × Addr × Value)} {b : Bool} (h : HitsH prog w A s kb (x :: r) b) :
    (atKey kb x.1 = none ∧ b = false) ∨ ∃ p e b', atKey kb x.1 = some p ∧ SeqAt.EqP prog w A s x.2.2 p.2 e ∧ HitsH prog w A s kb r b' ∧ b = (e && b') := by
  cases h with
  | miss hn => exact .inl ⟨hn, rfl⟩
  | hit hy he hr => exact .inr ⟨_, _, _, hy, he, hr, rfl⟩
theorem samePairsH {nm : String} {a b : Addr} {ka kb : List (K × Addr × Value)} {r : Bool} {Q : Bool → Shared → Prop} (ha : (a == sysModules) = false) (hb : (b == sysModules) = false) (hu : knd.room A)
    (da : s.heap.DictOfH knd a ka) (db : s.heap.DictOfH knd b kb) (hits : ka.length = kb.length → HitsH prog w A s kb ka r) (h : Q (ka.length == kb.length && r) s) :
    wpAny (model prog w) A (Builtin.Dict.samePairs nm a b) Q E s := by
  obtain ⟨oa, es, ep, hoa, _, hda, hea, hia, _⟩ := da
  obtain ⟨ob, es', ep', hob, _, hdb, heb, hib, hnb⟩ := db
  have hla : ka.length = es.size := (size_of_entries hea).symm
  have hlb : kb.length = es'.size := (size_of_entries heb).symm
  rw [hla, hlb] at h
  unfold Builtin.Dict.samePairs Builtin.Dict.showsAll
  rw [if_neg (show ¬ (a == sysModules) = true by rw [ha]; exact Bool.false_ne_true), if_neg (show ¬ (b == sysModules) = true by rw [hb]; exact Bool.false_ne_true)]
  refine wpAny_bind (wpAny_pure (wpAny_bind (wpAny_pure ?_)))
  refine wpAny_bind (wpAny_dictEntries hoa hda ?_)
  dsimp only
  refine wpAny_bind (wpAny_dictEntries hob hdb ?_)
  by_cases hsz : es.size = es'.size
  case neg =>
    rw [if_pos (by simpa using hsz)]
    have hbf : (es.size == es'.size) = false := by simpa using hsz
    rw [hbf, Bool.false_and] at h
    exact wpAny_bind (wpAny_rule (wpAny_pure h))
  case pos =>
    have h' : Q r s := by simpa [hsz] using h
    have hits' := hits (by rw [hla, hlb]; exact hsz)
    rw [if_neg (by rw [hsz]; simp)]
    refine wpAny_bind (wpAny_dictEpoch hoa hda ?_)
    refine wpAny_bind ?_
    rw [Std.Legacy.Range.forIn_eq_forIn_range']
    simp only [Std.Legacy.Range.size, Nat.sub_zero, Nat.add_sub_cancel, Nat.div_one]
    refine wpAny_forIn_list _
      (fun rest q s' => s' = s ∧ q = (none, ()) ∧ ∃ i, rest = List.range' i (es.size - i) ∧ i ≤ es.size ∧ HitsH prog w A s kb (ka.drop i) r)
      _ ?_ ?_ _ _ ⟨rfl, rfl, 0, by simp, Nat.zero_le _, hits'⟩
    · rintro x rest q s' ⟨rfl, rfl, i, hr, hi, hpre⟩
      have hlt : i < es.size := by
        rcases Nat.lt_or_ge i es.size with h | h
        · exact h
        · rw [Nat.sub_eq_zero_of_le h] at hr; simp at hr
      obtain ⟨rfl, hrest⟩ : x = i ∧ rest = List.range' (i + 1) (es.size - (i + 1)) := by
        have e : es.size - i = (es.size - (i + 1)) + 1 := by omega
        rw [e, List.range'_succ] at hr
        injection hr with h1 h2
        exact ⟨h1, h2⟩
      refine wpAny_bind (wpAny_dictEntries hoa hda ?_)
      rw [Array.getElem?_eq_getElem hlt]
      have hlt' : x < ka.length := by rw [hla]; exact hlt
      obtain ⟨k, c, v, hkv⟩ : ∃ k c v, ka[x] = (k, c, v) := ⟨_, _, _, rfl⟩
      have hdrop : ka.drop x = (k, c, v) :: ka.drop (x + 1) := by rw [← hkv]; exact List.drop_eq_getElem_cons hlt'
      have hent : es[x] = entryOfKey knd (k, c, v) := by
        have e1 := entry_at hea x
        rw [Array.getElem?_eq_getElem hlt, List.getElem?_eq_getElem hlt', hkv] at e1
        exact Option.some.inj e1
      have hkey : knd.is s'.heap k c := by
        have := hia _ (List.getElem_mem hlt')
        rw [hkv] at this
        exact this
      rw [hdrop] at hpre
      rw [hent]
      refine wpAny_bind (wpAny_holding (wpAny_bind (wpAny_dictFind_heap hu hkey hob hdb heb hib hnb (fun hno => ?_) (fun j p hj => ?_))))
      · have hn : atKey kb k = none := atKey_none_of_get hno
        rcases hpre.inv with ⟨_, er⟩ | ⟨y, _, _, hy, _⟩
        · rw [er] at h'
          refine wpAny_pure ?_
          show wpAny _ _ (if (!false) = true then _ else _) _ _ _
          rw [if_pos (by decide)]
          exact wpAny_pure (wpAny_pure h')
        · rw [show atKey kb (k, c, v).1 = atKey kb k from rfl, hn] at hy; exact nomatch hy
      · have hv' : atKey kb k = some p := atKey_of_get hnb hj
        have hej : es'[j]? = some (entryOfKey knd (k, p)) := by rw [entry_at heb j, hj]; rfl
        refine wpAny_bind (wpAny_dictEntries hob hdb ?_)
        rw [hej]
        rcases hpre.inv with ⟨hn, _⟩ | ⟨y, e, b', hy, he, hrr, er⟩
        · rw [show atKey kb (k, c, v).1 = atKey kb k from rfl, hv'] at hn; exact nomatch hn
        · have ey : p = y := Option.some.inj (hv'.symm.trans hy)
          rw [← ey] at he
          refine wpAny_holding (he _ _ ?_)
          cases e with
          | false =>
            rw [er, Bool.false_and] at h'
            show wpAny _ _ (if (!false) = true then _ else _) _ _ _
            rw [if_pos (by decide)]
            exact wpAny_pure (wpAny_pure h')
          | true =>
            rw [Bool.true_and] at er
            rw [← er] at hrr
            show wpAny _ _ (if (!true) = true then _ else _) _ _ _
            rw [if_neg (by decide)]
            refine wpAny_bind (wpAny_dictEpoch hoa hda ?_)
            rw [if_neg (by simp)]
            exact wpAny_pure ⟨rfl, rfl, x + 1, hrest, hlt, hrr⟩
    · rintro q s' ⟨rfl, rfl, i, hr, hi, hpre⟩
      have hin : i = es.size := by
        rcases Nat.lt_or_ge i es.size with h | h
        · have e : es.size - i = (es.size - (i + 1)) + 1 := by omega
          rw [e, List.range'_succ] at hr; exact nomatch hr
        · exact Nat.le_antisymm hi h
      refine wpAny_pure ?_
      rw [hin, ← hla, List.drop_length] at hpre
      cases hpre
      exact h'
theorem neH {a b : Addr} {ka kb : List (K × Addr × Value)} {r : Bool} {Q : Value → Shared → Prop} (ha : (a == sysModules) = false) (hb : (b == sysModules) = false) (hr : knd.room A.in1)
    (da : s.heap.DictOfH knd a ka) (db : s.heap.DictOfH knd b kb) (hu : A.units < cLine) (hits : ka.length = kb.length → HitsH prog w A.in1 s kb ka r) (h : Q (.bool (!(ka.length == kb.length && r))) s) :
    wpAny (model prog w) A (compareOp .NotEq (.ref a) (.ref b)) Q E s := by
  refine wpAny_richCompare_same_room (op := .NotEq) da.typeIs db.typeIs PySem.F.slot_dict_ne (wpAny_call_entry PySem.F.slot_dict_ne da.typeIs PySem.F.entry_dict_ne ?_ (PySem.F.args_dict_ne_2 _ _)) hu
  show wpAny _ _ (Builtin.Dict.dictSlotArgs "__ne__" ⟨[.ref a, .ref b], []⟩ >>= _) _ _ s
  refine wpAny_bind ?_
  unfold Builtin.Dict.dictSlotArgs
  refine wpAny_bind (wpAny_notOrdered_dict da.typeIs ?_)
  show wpAny _ _ (pure (Value.ref a, Value.ref b)) _ _ s
  refine wpAny_pure ?_
  refine wpAny_bind (wpAny_isInstance (T := "dict") db.typeIs PySem.F.sub_dict_dict ?_)
  simp only [Bool.not_true, Bool.false_eq_true, if_false]
  refine wpAny_bind (wpAny_pure (wpAny_bind (wpAny_pure ?_)))
  refine wpAny_bind (samePairsH ha hb hr da db hits ?_)
  refine wpAny_pure ⟨_, rfl, ?_, ?_⟩
  · exact fun x => nomatch x
  · simpa using h
end
inductive HitV (ys : List XV) : List XV → Bool → Prop
  | nil : HitV ys [] true
  | miss {x : XV} {r : List XV} : (∀ y ∈ ys, y.1 ≠ x.1) → HitV ys (x :: r) false
  | hit {x : XV} {r : List XV} {b : Addr} {i j : Int} {c : Bool} : (x.1, b, V.int j) ∈ ys → x.2.2 = .int i → HitV ys r c → HitV ys (x :: r) (decide (i = j) && c)
theorem HitV.h {prog : Program} {w : World} {A : Around} {s : Shared} {ys : List XV} {yu : List XU} (py : PN ys yu) (nd : (ys.map (·.1)).Nodup) {xs : List XV} {b : Bool} (h : HitV ys xs b) : ∀ {xu : List XU}, PN xs xu → HitsH prog w A s yu xu b := by
  induction h with
  | nil => intro xu px; cases px; exact .nil
  | @miss x r hn =>
    intro xu px
    cases px with
    | cons q t => exact .miss (by rw [← q.1]; exact pn_none py hn)
  | @hit x r b i j c hm hx _ ih =>
    intro xu px
    cases px with
    | @cons _ x' _ _ q t =>
      obtain ⟨k, hk⟩ := List.mem_iff_getElem?.mp hm
      obtain ⟨y', hy, e1, e2, e3⟩ := paired_get py hk
      obtain ⟨ky, by', uy⟩ := y'
      cases e1
      cases e2
      obtain ⟨t', rfl⟩ := e3
      obtain ⟨q1, q2, q3⟩ := q
      rw [hx] at q3
      obtain ⟨t2, h2⟩ := q3
      refine .hit (p := (b, .int j t')) (by rw [← q1]; exact atKey_of_get (by rw [← pn_keys py]; exact nd) hy) ?_ (ih t)
      rw [h2]
      exact SeqAt.EqAt.eqP (SeqAt.EqAt.int_int i t2 j t')
section
variable {X : Cx} {W : WX}
def rNeN (w : World) : R2 := fun x y H Q => ∃ a b oa ob xs ys r, x = .ref a ∧ y = .ref b ∧ H a = some (NDo a oa) ∧ OkN w a oa xs ∧ (∀ x ∈ xs, TN H x.1 (.ref x.2.1)) ∧ H b = some (NDo b ob) ∧ OkN w b ob ys ∧ (∀ x ∈ ys, TN H x.1 (.ref x.2.1)) ∧
  (xs.length = ys.length → HitV ys xs r) ∧ Q (.bl (!(xs.length == ys.length && r))) H
theorem op_neN (hu : X.A.units + 20 < cLine) : OpR X (compareOp .NotEq) (rNeN X.w) := by
  intro pins s σ H x y v u Q I rx ry h
  obtain ⟨a, b, oa, ob, xs, ys, r, rfl, rfl, ea, na, ta, eb, nb, tb, hits, q⟩ := h
  cases rx
  cases ry
  obtain ⟨_, xu, px, da⟩ := dn_of I.hok (.inl ea) na ta
  obtain ⟨_, yu, py, db⟩ := dn_of I.hok (.inl eb) nb tb
  have l1 : xs.length = xu.length := Paired.length px
  have l2 : ys.length = yu.length := Paired.length py
  refine neH (knd := nestedKind X.prog X.w) (r := r) na.1 nb.1 ?_ da db (by omega) (fun e => HitV.h py nb.2.2.2.1 (hits (by omega)) px) ?_
  · show X.A.in1.units + 8 < cLine
    rw [Around.in1_units]
    omega
  · rw [← l1, ← l2]
    exact ⟨.bl _, H, I, rfl, q⟩
def eqNk (kvs kws : List (NestedKey × D)) : Bool := kvs.all fun kv => match valD kws kv.1, kv.2 with
  | some (.int j), .int i => decide (i = j)
  | _, _ => false
def isIntD : D → Bool
  | .int _ => true
  | _ => false
def dNeN (x y : D) (S : Sg) : Res D := match x, y with
  | .obj k, .obj l => match S[k]?, S[l]? with
    | some (.dN kvs), some (.dN kws) => if kvs.all (fun kv => isIntD kv.2) = true ∧ kws.all (fun kv => isIntD kv.2) = true then .ok (.bl (!(kvs.length == kws.length && eqNk kvs kws))) S else .st
    | _, _ => .st
  | _, _ => .st
theorem isIntD_v {c : Cc} {ρ : List Addr} {H : Hp} {v : V} {d : D} (r : RD c ρ H v d) (h : isIntD d = true) : ∃ i, d = .int i ∧ v = .int i := by
  cases r with
  | int i => exact ⟨i, rfl, rfl⟩
  | _ => cases h
theorem hit_of {c : Cc} {ρ : List Addr} {H : Hp} {ys : List XV} {kws : List (NestedKey × D)} (ry : RP c ρ H (ys.map fun x => (x.1, x.2.2)) kws) (iy : kws.all (fun kv => isIntD kv.2) = true) :
    ∀ {xs : List XV} {kvs : List (NestedKey × D)}, RP c ρ H (xs.map fun x => (x.1, x.2.2)) kvs → kvs.all (fun kv => isIntD kv.2) = true → HitV ys xs (eqNk kvs kws)
  | [], [], .nil, _ => .nil
  | x :: xs, (_, d) :: kvs, .cons r t, hi => by
    rw [List.all_cons, Bool.and_eq_true] at hi
    have ih := hit_of ry iy t hi.2
    obtain ⟨i, rfl, hv⟩ := isIntD_v r hi.1
    unfold eqNk
    rw [List.all_cons]
    have e0 : (kvs.all fun kv => match valD kws kv.1, kv.2 with | some (.int j), .int i => decide (i = j) | _, _ => false) = eqNk kvs kws := rfl
    rw [e0]
    cases hf : valD kws x.1 with
    | none =>
      dsimp only
      rw [Bool.false_and]
      refine .miss (fresh_of ry ?_)
      unfold freshN
      rw [List.all_eq_true]
      intro kv hk
      have : kws.find? (fun kv => decide (kv.1 = x.1)) = none := by
        unfold valD at hf
        exact Option.map_eq_none_iff.mp hf
      rw [List.find?_eq_none] at this
      have := this kv hk
      simpa using this
    | some d2 =>
      unfold valD at hf
      obtain ⟨kv, hk, rfl⟩ := Option.map_eq_some_iff.mp hf
      have hmem := List.mem_of_find?_eq_some hk
      have hkk := List.find?_some hk
      have hkey : kv.1 = x.1 := by simpa using hkk
      obtain ⟨j, hj⟩ := List.mem_iff_getElem?.mp hmem
      have hint := List.all_eq_true.mp iy kv hmem
      have hl := RP.len ry
      have hjl : j < (ys.map fun x => (x.1, x.2.2)).length := by rw [hl]; exact (List.getElem?_eq_some_iff.mp hj).1
      have hjl' : j < ys.length := by simpa using hjl
      obtain ⟨y, hy⟩ : ∃ y, ys[j]? = some y := ⟨_, List.getElem?_eq_getElem hjl'⟩
      obtain ⟨d', hd', rd'⟩ := rp_get (k := y.1) (v := y.2.2) ry (by rw [List.getElem?_map, hy]; rfl)
      rw [hj] at hd'
      cases hd'
      obtain ⟨jj, e1, e2⟩ := isIntD_v rd' hint
      dsimp only at e1 hkey ⊢
      rw [e1]
      dsimp only
      refine .hit (b := y.2.1) ?_ hv ih
      rw [← e2, ← hkey]
      exact List.mem_of_getElem? hy
theorem dNeN_ok {c : Cc} : OpD c (rNeN c.w) dNeN := by
  intro W σ ρ S H x y a b Q R r1 r2 q
  unfold dNeN at q
  split at q
  · split at q
    · rename_i kvs kws h1 h2
      split at q
      · rename_i hz
        cases r1 with
        | @obj _ a1 k1 =>
          cases r2 with
          | @obj _ a2 k2 =>
            obtain ⟨oa, xs, ea, na, ta, ra⟩ := dn_at R k1 h1
            obtain ⟨ob, ys, eb, nb, tb, rb⟩ := dn_at R k2 h2
            have l1 : xs.length = kvs.length := by have := RP.len ra; rw [List.length_map] at this; exact this
            have l2 : ys.length = kws.length := by have := RP.len rb; rw [List.length_map] at this; exact this
            refine ⟨a1, a2, oa, ob, xs, ys, eqNk kvs kws, rfl, rfl, ea, na, ta, eb, nb, tb, fun _ => hit_of rb hz.2 ra hz.1, ?_⟩
            rw [l1, l2]
            exact q.done R (.bl _)
      · exact q.elim
    · exact q.elim
  · exact q.elim
end
def rSortN (K : PySem.W.Frag) : List V → Hp → VK → Prop := fun vs H Q => ∃ (a : Addr) (xs : List V), vs = [.ref a] ∧ SqL K H a xs ∧ (∀ x ∈ xs, ∃ t s i j, x = .ref t ∧ H t = some (.tup [.str s, .int i, .int j])) ∧
  ∀ (ys : List V) (p : Addr), ys.Perm xs → (∀ (x y : Addr) (s s' : Str) (i j i' j' : Int), ys = [.ref x, .ref y] → H x = some (.tup [.str s, .int i, .int j]) → H y = some (.tup [.str s', .int i', .int j']) → ¬ s'.cps.toList < s.cps.toList) → H p = none → Q (.ref p) (upd H p (.lst ys))
theorem two_of {α : Type} : ∀ {l : List α}, l.length = 2 → ∃ a b, l = [a, b]
  | [], h => by cases h
  | [_], h => by simp at h
  | [a, b], _ => ⟨a, b, rfl⟩
  | _ :: _ :: _ :: _, h => by simp at h
def shp : Nat → Bool := fun i => i == 0
theorem tupN_raw {P : Program} {w : World} {H : Hp} {h : Heap} {t : Addr} {s : Str} {i j : Int} (ok : HOk P w H h) (e : H t = some (.tup [.str s, .int i, .int j])) :
    (∃ f, TupOf h shp (.ref t) f) ∧ PyProof.Rows.G.tupKeyC h shp (.ref t) = some [Sum.inr s.cps.toList, Sum.inl i, Sum.inl j] := by
  obtain ⟨_, its, rv, o, h1, h2, n, h3⟩ := ok _ _ e
  cases rv with
  | cons r1 rv =>
    cases rv with
    | cons r2 rv =>
      cases rv with
      | cons r3 rv =>
        cases rv
        obtain ⟨t1, rfl⟩ := r1
        obtain ⟨t2, rfl⟩ := r2
        obtain ⟨t3, rfl⟩ := r3
        refine ⟨⟨.str s t1, t, o, _, n, rfl, h1, h2, h3, rfl, (fun z => by cases z), fun _ => ⟨_, _, rfl⟩⟩, ?_⟩
        have hc : PyProof.Rows.G.isTupObj h (.ref t) = true := by
          unfold PyProof.Rows.G.isTupObj
          simp only [h1, h2]
          decide
        unfold PyProof.Rows.G.tupKeyC
        rw [if_pos hc]
        unfold tupKey
        simp only [h1, h3]
        simp [tupItems, shp]
theorem tups_raw {P : Program} {w : World} {H : Hp} {h : Heap} (ok : HOk P w H h) : ∀ {xs : List V} {us : List Value}, Vals xs us → (∀ x ∈ xs, ∃ t s i j, x = .ref t ∧ H t = some (.tup [.str s, .int i, .int j])) → ∃ fs, TupsOf h shp us fs
  | _, _, .nil, _ => ⟨[], .nil⟩
  | _, _, .cons r t, k => by
    obtain ⟨fs, q⟩ := tups_raw ok t fun x hx => k x (List.mem_cons_of_mem _ hx)
    obtain ⟨t', s, i, j, rfl, e⟩ := k _ List.mem_cons_self
    cases r
    obtain ⟨⟨f, hf⟩, _⟩ := tupN_raw ok e
    exact ⟨f :: fs, .cons hf q⟩
theorem cr_sortN {X : Cx} : CallR X (.builtin "sorted") (rSortN X.K) := by
  intro pins s σ H vs us Q I r h
  obtain ⟨a, xs, rfl, hs, hx, q⟩ := h
  obtain ⟨its, rv, hl, hz⟩ := I.list hs
  obtain ⟨u, rfl, ru⟩ := vals1 r
  obtain rfl : u = Value.ref a := ru
  obtain ⟨e1, e2⟩ := refs_back rv fun x m => by
    obtain ⟨t, _, _, _, e, _⟩ := hx x m
    exact ⟨t, e⟩
  obtain ⟨fs, hf⟩ := tups_raw I.hok rv hx
  have key : ∀ v ∈ its, ∃ t s' i j, v = .ref t ∧ H t = some (.tup [.str s', .int i, .int j]) := fun v hv => by
    obtain ⟨t, rfl⟩ := e2 v hv
    have hm : V.ref t ∈ xs := by rw [e1]; exact List.mem_map.mpr ⟨_, hv, rfl⟩
    obtain ⟨t', s', i, j, e, ht⟩ := hx _ hm
    cases e
    exact ⟨t, s', i, j, rfl, ht⟩
  refine PyProof.Rows.G.sorted_tups (shape := shp) (vs := its) (fs := fs) hl.isList hf (fun v hv => ?_) (by rw [← rv.length]; exact hz) fun st' hp hso hst => ?_
  · obtain ⟨t, s', i, j, rfl, ht⟩ := key v hv
    exact ⟨_, (tupN_raw I.hok ht).2⟩
  · obtain ⟨out, hout⟩ : ∃ out, out = ((arrOf st').map (·.2)).toList := ⟨_, rfl⟩
    have hpl : (arrOf st').toList.Perm (its.zip its) := by
      have := Array.perm_iff_toList_perm.mp hp
      rw [pairsOf_toList] at this
      exact this
    have self : ∀ p ∈ (arrOf st').toList, p.1 = p.2 ∧ p.1 ∈ its := fun p hp => mem_zip_self (hpl.mem_iff.mp hp)
    have ho2 : out = (arrOf st').toList.map (·.2) := by rw [hout, Array.toList_map]
    have hperm : out.Perm its := by
      rw [ho2]
      have := hpl.map (fun p : Value × Value => p.2)
      rwa [List.map_snd_zip (Nat.le_refl _)] at this
    have h3 : ∀ u ∈ out, ∃ a, u = Value.ref a := fun u hu => e2 u (hperm.mem_iff.mp hu)
    have hpx : (out.map backV).Perm xs := by
      rw [e1]
      exact hperm.map backV
    obtain ⟨n, hn⟩ := sortedAll_at s.heap its ((arrOf st').map (·.2))
    have hlen : (out.map backV).length ≤ sizeLine := by rw [hpx.length_eq]; exact hz
    refine ⟨.ref (s.heap.objs.size + 1), upd H (s.heap.objs.size + 1) (.lst (out.map backV)), I.laid (t' := s.toks) (fun b o e => sortedAll_old e) (Nat.le_succ _) ⟨hlen, out, n, vals_back h3, ?_⟩, rfl, q _ _ hpx ?_ (I.hok.fresh (Nat.le_succ _))⟩
    · rw [hout]
      rw [Array.toArray_toList]
      exact hn
    · intro x y sx sy i j i' j' ey hxx hyy hlt
      have hl2 : out.length = 2 := by have := congrArg List.length ey; simpa using this
      obtain ⟨p, q', hpq⟩ : ∃ p q', (arrOf st').toList = [p, q'] := by
        rw [ho2, List.length_map] at hl2
        exact two_of hl2
      rw [ho2, hpq] at ey
      simp only [List.map_cons, List.map_nil, List.cons.injEq, and_true] at ey
      obtain ⟨s1, m1⟩ := self p (by rw [hpq]; simp)
      obtain ⟨s2, m2⟩ := self q' (by rw [hpq]; simp)
      obtain ⟨tp, r1⟩ := e2 _ m1
      obtain ⟨tq, r2⟩ := e2 _ m2
      have ep : tp = x := by
        have := ey.1
        rw [← s1, r1] at this
        injection this
      have eq' : tq = y := by
        have := ey.2
        rw [← s2, r2] at this
        injection this
      subst ep eq'
      have hsz : (arrOf st').size = 2 := by rw [← Array.length_toList, hpq]; rfl
      have hk0 : KK (PyProof.Rows.G.tupKindC s.heap shp) (arrOf st') 0 = [Sum.inr sx.cps.toList, Sum.inl i, Sum.inl j] := by
        unfold KK
        have : (arrOf st')[0]? = some p := by rw [← Array.getElem?_toList, hpq]; rfl
        rw [this]
        show (PyProof.Rows.G.tupKeyC s.heap shp p.1).getD _ = _
        rw [r1, (tupN_raw I.hok hxx).2]
        rfl
      have hk1 : KK (PyProof.Rows.G.tupKindC s.heap shp) (arrOf st') 1 = [Sum.inr sy.cps.toList, Sum.inl i', Sum.inl j'] := by
        unfold KK
        have : (arrOf st')[1]? = some q' := by rw [← Array.getElem?_toList, hpq]; rfl
        rw [this]
        show (PyProof.Rows.G.tupKeyC s.heap shp q'.1).getD _ = _
        rw [r2, (tupN_raw I.hok hyy).2]
        rfl
      have h01 := hso 0 1 (by omega) (by rw [← hp.size_eq, hsz]; omega)
      rw [hk0, hk1] at h01
      have h01' : lexLt itemOrd [Sum.inr sy.cps.toList, Sum.inl i', Sum.inl j'] [Sum.inr sx.cps.toList, Sum.inl i, Sum.inl j] = false := h01
      have := (lex_false.mp h01').1
      have h2 : decide (sy.cps.toList < sx.cps.toList) = false := this
      exact of_decide_eq_false h2 hlt
def tripD : D → Option Str
  | .tup true [.str s, .int _, .int _] => some s
  | _ => none
def oSortN (ds : List D) (S : Sg) : Res D := match ds with
  | [d] => match lstD S d with
    | some [] => newL [] S
    | some [x] => match tripD x with
      | some _ => newL [x] S
      | none => .st
    | some [x, y] => match tripD x, tripD y with
      | some s, some t => if s.cps.toList < t.cps.toList then newL [x, y] S else if t.cps.toList < s.cps.toList then newL [y, x] S else .st
      | _, _ => .st
    | _ => .st
  | _ => .st
theorem tripD_v {c : Cc} {ρ : List Addr} {H : Hp} {v : V} {d : D} {s : Str} (r : RD c ρ H v d) (h : tripD d = some s) : ∃ t i j, v = .ref t ∧ H t = some (.tup [.str s, .int i, .int j]) := by
  unfold tripD at h
  split at h
  · cases h
    cases r with
    | tup ht hl =>
      cases hl with
      | cons a hl =>
        cases hl with
        | cons b hl =>
          cases hl with
          | cons c hl =>
            cases hl
            cases a
            cases b
            cases c
            exact ⟨_, _, _, rfl, ht.1 rfl⟩
  · cases h
theorem oSortN_ok {c : Cc} : CallD c (rSortN c.K) oSortN := by
  intro W σ ρ S H vs ds Q R r h
  unfold oSortN at h
  split at h
  · rename_i d
    cases r with
    | cons r1 r2 =>
      cases r2
      split at h
      · rename_i hd
        obtain ⟨a, xs, rfl, hs, hl⟩ := lstD_ok R r1 hd
        cases hl
        refine ⟨a, [], rfl, hs, (fun _ z => nomatch z), fun ys p hp _ hn => ?_⟩
        rw [hp.eq_nil]
        exact newL_ok R .nil hn h
      · rename_i x hd
        split at h
        · rename_i s hx
          obtain ⟨a, xs, rfl, hs, hl⟩ := lstD_ok R r1 hd
          cases hl with
          | cons q1 q2 =>
            cases q2
            obtain ⟨t, i, j, rfl, ht⟩ := tripD_v q1 hx
            refine ⟨a, _, rfl, hs, fun x hx => ?_, fun ys p hp _ hn => ?_⟩
            · simp at hx
              subst hx
              exact ⟨t, s, i, j, rfl, ht⟩
            · rw [hp.eq_singleton]
              exact newL_ok R (.cons q1 .nil) hn h
        · exact h.elim
      · rename_i x y hd
        split at h
        · rename_i s s' hx hy
          obtain ⟨a, xs, rfl, hs, hl⟩ := lstD_ok R r1 hd
          cases hl with
          | cons q1 q2 =>
            cases q2 with
            | cons q2 q3 =>
              cases q3
              obtain ⟨t, i, j, rfl, ht⟩ := tripD_v q1 hx
              obtain ⟨t', i', j', rfl, ht'⟩ := tripD_v q2 hy
              refine ⟨a, _, rfl, hs, fun x hx => ?_, fun ys p hp hlt hn => ?_⟩
              · simp at hx
                rcases hx with rfl | rfl
                · exact ⟨t, s, i, j, rfl, ht⟩
                · exact ⟨t', s', i', j', rfl, ht'⟩
              · have two : ys = [V.ref t, V.ref t'] ∨ ys = [V.ref t', V.ref t] := by
                  have hl := hp.length_eq
                  obtain ⟨p1, p2, rfl⟩ := two_of hl
                  have m1 : p1 ∈ [V.ref t, V.ref t'] := hp.mem_iff.mp (by simp)
                  simp only [List.mem_cons, List.not_mem_nil, or_false] at m1
                  rcases m1 with rfl | rfl
                  · left
                    have := (List.Perm.cons_inv hp)
                    rw [this.eq_singleton]
                  · right
                    have h1 : [V.ref t', p2].Perm [V.ref t', V.ref t] := hp.trans (List.Perm.swap _ _ _)
                    have := (List.Perm.cons_inv h1)
                    rw [this.eq_singleton]
                split at h
                · rename_i hc
                  have : ys = [V.ref t, V.ref t'] := by
                    rcases two with e | e
                    · exact e
                    · exact absurd hc (hlt _ _ _ _ _ _ _ _ e ht' ht)
                  rw [this]
                  exact newL_ok R (.cons q1 (.cons q2 .nil)) hn h
                · split at h
                  · rename_i hc
                    have : ys = [V.ref t', V.ref t] := by
                      rcases two with e | e
                      · exact absurd hc (hlt _ _ _ _ _ _ _ _ e ht ht')
                      · exact e
                    rw [this]
                    exact newL_ok R (.cons q2 (.cons q1 .nil)) hn h
                  · exact h.elim
        · exact h.elim
      · exact h.elim
  · exact h.elim
section
variable {X : Cx}
theorem frzN {pins : List (Addr × Obj)} {σ : L2.St} {H : Hp} {s : Shared} {d : Addr} {od o : Obj} {xs : List XV} (I : Inv X pins σ H s) (h : H d = some (.frz od (NDo d o))) (n : OkN X.w d o xs) :
    s.heap.get? d = some o ∧ ∃ (es : Array DictEntry) (ep : Nat), o.data = .dict es ep ∧ es.size = xs.length ∧ ∀ (i : Nat) (k : NestedKey) (b : Addr) (v : V), xs[i]? = some (k, b, v) → ∃ en, es[i]? = some en ∧ en.key = .ref b := by
  obtain ⟨hd, q⟩ := I.hok d _ h
  have g : s.heap.get? d = some o := (show ObjOk X.prog X.w H s.heap d (NDo d o) from q).1
  obtain ⟨hs, hz, hx, nd, dp, ys, es, ep, pr, hdat, he⟩ := n
  refine ⟨g, es, ep, hdat, ?_, fun i k b v e => ?_⟩
  · have l1 : es.size = ys.length := size_of_entries (he X.prog)
    have l2 : xs.length = ys.length := Paired.length pr
    omega
  · obtain ⟨y, hy, e1, e2, e3⟩ := paired_get pr e
    have q := entry_at (he X.prog) i
    rw [hy] at q
    refine ⟨_, q, ?_⟩
    show Value.ref y.2.1 = _
    rw [← e2]
def Itn (d : Addr) (od o : Obj) (xs : List XV) : It :=
  ⟨fun i H => H d = some (.frz od (NDo d o)) ∧ i < xs.length, fun i H x H' => H' = H ∧ ∃ k b v, xs[i]? = some (k, b, v) ∧ x = .ref b, fun i H => H d = some (.frz od (NDo d o)) ∧ xs.length ≤ i⟩
theorem turn_keysN {P : Program} {w : World} {K : PySem.W.Frag} {tg : Expr} {d : Addr} {od o : Obj} {es : Array DictEntry} {ep : Nat} {xs : List XV} (it : Addr) (hod : o.data = .dict es ep) (n : OkN w d o xs) :
    Turn P w K tg (Itn d od o xs) [it] it (fun i h => h.IsKeyIter it d i xs.length ep) where
  mem := by simp
  obj := fun i h st b hb => by
    have e : b = it := by simpa using hb
    subst e
    obtain ⟨oi, e, c, dd⟩ := st
    exact ⟨oi, e, fun v z => by rw [dd] at z; cases z⟩
  keep := fun i h h' st k => st.at fun oi e => k it (by simp) oi e
  item := by
    intro X hP hw hK hc i pins s σ H E I hf st hg
    subst hP hw hK
    obtain ⟨hd, hi⟩ := hg
    obtain ⟨f0, f1, f2, f3, f4, f5⟩ := hf it (by simp)
    obtain ⟨hgd, es', ep', hdt, hsz, ent⟩ := frzN I hd n
    obtain ⟨rfl, rfl⟩ := dict_ep hod hdt
    obtain ⟨⟨k, b, v⟩, hkv⟩ : ∃ p, xs[i]? = some p := ⟨xs[i], List.getElem?_eq_getElem hi⟩
    obtain ⟨en, hen, hkey⟩ := ent i k b v hkv
    refine next_key_item st hgd hdt hsz hen fun h' st' sb => ?_
    have I1 : Inv X pins σ H { s with heap := h' } := I.turned (t' := s.toks) (fun b ob hb e => (sb.2 b hb).trans e) f0 f1 f3 f4 f5
    obtain ⟨oi, e, c, dd⟩ := id st'
    exact ⟨en.key, rfl, go_of (s := { s with heap := h' }) e c dd (by decide) ⟨.ref b, H, I1, hkey, ⟨rfl, k, b, v, hkv, rfl⟩, st', fun b hb => (hf b hb).1⟩⟩
  done := by
    intro X hP hw hK hc i pins s σ H E I hf st hg
    subst hP hw hK
    obtain ⟨hd, hi⟩ := hg
    obtain ⟨f0, f1, f2, f3, f4, f5⟩ := hf it (by simp)
    obtain ⟨hgd, es', ep', hdt, hsz, ent⟩ := frzN I hd n
    obtain ⟨rfl, rfl⟩ := dict_ep hod hdt
    exact next_key_end (I.ok.hd hc) st hgd hdt hsz hi fun h' eb => ⟨rfl, I.turned (t' := s.toks) (fun b ob hb e => eb b ob hb e) f0 f1 f3 f4 f5⟩
  self := fun A i s Q E st h => by
    refine wpAny_pyIter_slot st.typeIs PySem.F.slot_dict_keyiterator_iter (wpAny_call_entry PySem.F.slot_dict_keyiterator_iter st.typeIs PySem.F.entry_dict_keyiterator_iter ?_ (PySem.F.args_dict_keyiterator_iter_1 _))
    show wpAny _ _ (ret (.ref it)) _ _ s
    exact wpAny_pure ⟨_, rfl, "dict_keyiterator", _, st.typeIs, PySem.F.slot_dict_keyiterator_next.lookup, h⟩
def iKeysN (w : World) (td : TE) : TI := fun σ H R => td σ H fun x H1 => ∃ d od o xs, x = .ref d ∧ H1 d = some (.frz od (NDo d o)) ∧ OkN w d o xs ∧ R (Itn d od o xs) H1
theorem pi_keysN {tg e : Expr} {td : TE} (he : PE X e td) : PI X tg e (iKeysN X.w td) := by
  refine ⟨fun pins s σ H R I h => ?_⟩
  refine thn (he.run pins s σ H _ I h) fun u s1 ⟨x, H1, I1, rx, d, od, o, xs, ex, hd, n, q⟩ => ?_
  subst ex
  obtain rfl : u = Value.ref d := rx
  obtain ⟨hgd, es, ep, hdt, hsz, ent⟩ := frzN I1 hd n
  refine iter_keys n.1 hgd n.2.2.1 hdt (pi_one (tk := s1.toks) I1 _ (turn_keysN _ hdt n) ⟨_, Heap.get?_push_size _ rfl, rfl, ?_⟩ q)
  rw [hsz] <;> rfl
def rIxN (w : World) : R2 := fun x y H Q => ∃ a o xs k b b' v, x = .ref a ∧ y = .ref b ∧ Rd H a (NDo a o) ∧ OkN w a o xs ∧ (∀ x ∈ xs, TN H x.1 (.ref x.2.1)) ∧ TN H k (.ref b) ∧ (k, b', v) ∈ xs ∧ Q v H
theorem ix_N (hu : X.A.units + 9 < cLine) : IxR X (rIxN X.w) := by
  intro value slice pins s σ H x y v u Q I rx ry h hs
  obtain ⟨a, o, xs, k, b, b', z, rfl, rfl, ea, n, t, tk, hm, q⟩ := h
  cases rx
  cases ry
  obtain ⟨_, ys, pr, dd⟩ := dn_of I.hok ea n t
  obtain ⟨j, hj⟩ := List.mem_iff_getElem?.mp hm
  obtain ⟨y', hy, e1, e2, e3⟩ := paired_get pr hj
  obtain ⟨ky, by', uy⟩ := y'
  cases e1
  cases e2
  have hn : (ys.map (·.1)).Nodup := by rw [← pn_keys pr]; exact n.2.2.2.1
  refine PyProof.Rows.tail_any dd.typeIs PySem.F.slot_dict_getitem.lookup (wpAny_getItem_heap (knd := nestedKind X.prog X.w) ?_ (show (nestedKind X.prog X.w).is s.heap k b from ⟨TN.is I.hok tk rfl, n.2.2.2.2.1 _ hm⟩) dd (atKey_of_get hn hy) ⟨z, H, I.tok _, e3, q⟩) hs
  show X.A.in1.units + 8 < cLine
  rw [Around.in1_units]
  omega
def rDictN (w : World) : List V → Hp → VK → Prop := fun vs H Q => ∃ (a : Addr) (ps : List Addr) (zs : List XV), vs = [.ref a] ∧ H a = some (.lst (ps.map V.ref)) ∧ Paired (fun p (z : XV) => H p = some (.tup [.ref z.2.1, z.2.2])) ps zs ∧
  (∀ z ∈ zs, TN H z.1 (.ref z.2.1) ∧ z.1.depth ≤ 8) ∧ (zs.map (·.1)).Nodup ∧ ∀ p o, H p = none → OkN w p o zs → Q (.ref p) (upd H p (NDo p o))
theorem pairsN_of {pins : List (Addr × Obj)} {σ : L2.St} {H : Hp} {s : Shared} (I : Inv X pins σ H s) : ∀ {ps : List Addr} {zs : List XV}, Paired (fun p (z : XV) => H p = some (.tup [.ref z.2.1, z.2.2])) ps zs →
    ∃ ys : List XU, PN zs ys ∧ ys.length = ps.length ∧ ∀ (j : Nat) (y : XU), ys[j]? = some y → ∃ b, ps[j]? = some b ∧ IsTup s.heap b #[.ref y.2.1, y.2.2]
  | _, _, .nil => ⟨[], .nil, rfl, fun j y e => by simp at e⟩
  | _, _, .cons (a := p) (b := z) h t => by
    obtain ⟨ys, r, hl, hx⟩ := pairsN_of I t
    obtain ⟨its, rv, ht, _⟩ := I.tuple (.inl (.inl h))
    obtain ⟨u, y, ei, ru, ry⟩ := vals2 rv
    subst ei
    cases (show u = Value.ref z.2.1 from ru)
    refine ⟨(z.1, z.2.1, y) :: ys, .cons ⟨rfl, rfl, ry⟩ r, by rw [List.length_cons, List.length_cons, hl], fun j x e => ?_⟩
    cases j with
    | zero =>
      have e' : (z.1, z.2.1, y) = x := Option.some.inj e
      subst e'
      exact ⟨p, rfl, ht⟩
    | succ j =>
      obtain ⟨b, e1, e2⟩ := hx j x (by simpa using e)
      exact ⟨b, by simpa using e1, e2⟩
theorem stored_new {K : Type} [DecidableEq K] : ∀ (ps xs : List (K × Addr × Value)), ((xs ++ ps).map (·.1)).Nodup → storedAllH xs ps = xs ++ ps
  | [], xs, _ => by rw [List.append_nil]; rfl
  | p :: ps, xs, h => by
    have hn : atKey xs p.1 = none := by
      refine atKey_none_of_get fun j q hj => ?_
      rw [List.map_append, List.nodup_append] at h
      exact h.2.2 p.1 (List.mem_map.mpr ⟨_, List.mem_of_getElem? hj, rfl⟩) p.1 (by simp) rfl
    show storedAllH (storedH xs p.1 p.2.1 p.2.2) ps = _
    rw [storedH_new hn, stored_new ps _ (by rw [List.append_assoc]; exact h), List.append_assoc]
    rfl
theorem call_dictN (hcalm : X.calm = true) (hu : X.A.units + 20 < cLine) : CallR X (.type "dict") (rDictN X.w) := by
  intro pins s σ H xs us Q I r q
  obtain ⟨a, ps, zs, rfl, ha, hp, ht, hnd, q⟩ := q
  obtain ⟨u, rfl, rx⟩ := vals1 r
  cases rx
  obtain ⟨its, rv, hls, hz⟩ := I.list (.inl (.inl ha))
  have ei := refs_at rv
  subst ei
  rw [List.length_map] at hz
  obtain ⟨ys, pr, hl, hx⟩ := pairsN_of I hp
  have hpz : ps.length = zs.length := Paired.length hp
  have hks : ∀ y ∈ ys, (nestedKind X.prog X.w).is s.heap y.1 y.2.1 := pn_is I.hok pr (fun z hz => (ht z hz).1) fun z hz => (ht z hz).2
  have ok : PlainSeq "list" s.heap a (ps.map Value.ref).toArray ∧ PairItems s.heap (ps.map Value.ref).toArray (fun j => (ps[j]?).getD 0) (ys.map fun x => (Value.ref x.2.1, x.2.2)) := by
    obtain ⟨_, its2, n2, rv2, hg⟩ := (show ObjOk X.prog X.w H s.heap a (.lst (ps.map V.ref)) from I.hok a _ ha)
    have ei2 := refs_at rv2
    subst ei2
    refine ⟨⟨_, n2, hg, rfl, rfl, rfl⟩, by simp [hl], fun j k v e => ?_⟩
    rw [List.getElem?_map] at e
    obtain ⟨x, e1, e2⟩ := Option.map_eq_some_iff.mp e
    cases e2
    obtain ⟨b, e3, e4⟩ := hx j x e1
    simp only [e3, Option.getD_some]
    exact ⟨by simp [e3], .inl e4⟩
  refine PySem.call_dict_pairsH (knd := nestedKind X.prog X.w) (ps := ys) (PairArg.list (prog := X.prog) (w := X.w) a (ps.map Value.ref).toArray (fun j => (ps[j]?).getD 0) (ys.map fun x => (Value.ref x.2.1, x.2.2))) (I.ok.hd hcalm) ?_ ok ⟨by simp, fun i key v e => ?_⟩ ?_ (by simp [hl]; exact hz) fun h' tk hd' hk => ?_
  · show X.A.in1.in1.units + 8 < cLine
    rw [Around.in1_units, Around.in1_units]
    omega
  · have e' : (ys.map fun x => (Value.ref x.2.1, x.2.2))[i]? = some (key, v) := e
    rw [List.getElem?_map] at e'
    obtain ⟨x, e1, e2⟩ := Option.map_eq_some_iff.mp e'
    cases e2
    exact ⟨x.1, x.2.1, e1, rfl⟩
  · intro h' hk x hx'
    have q1 := hks x hx'
    refine ⟨NestedIs.at (fun b o vs m e _ => hk b o (Nat.ne_of_lt (Heap.lt_size e)) (fun z => nomatch z) e) _ _ q1.1, q1.2⟩
  · have hm : (s.heap.objs.size == sysModules) = false := beq_eq_false_iff_ne.mpr (Nat.ne_of_gt I.big)
    have hf : H s.heap.objs.size = none := I.hok.fresh (Nat.le_refl _)
    have hndy : (ys.map (·.1)).Nodup := by rw [← pn_keys pr]; exact hnd
    rw [stored_new ys [] (by simpa using hndy), List.nil_append] at hd'
    obtain ⟨o, g, n⟩ := okNo_of hm (by omega) (fun z hz => (ht z hz).2) pr hd'
    exact ⟨.ref s.heap.objs.size, upd H s.heap.objs.size (NDo _ o), I.laid (t' := tk) (fun b u e => hk b u (fun z => nomatch z) e) (Nat.le_refl _) (ndo_ok g), rfl, q _ o hf n⟩
def nzV : V → Bool
  | .int i => decide (i ≠ 0)
  | _ => false
def nzD : D → Bool
  | .int i => decide (i ≠ 0)
  | _ => false
theorem rp_filter {c : Cc} {ρ : List Addr} {H : Hp} : ∀ {xs : List XV} {kvs : List (NestedKey × D)}, RP c ρ H (xs.map fun x => (x.1, x.2.2)) kvs → kvs.all (fun kv => isIntD kv.2) = true →
    RP c ρ H ((xs.filter fun x => nzV x.2.2).map fun x => (x.1, x.2.2)) (kvs.filter fun kv => nzD kv.2)
  | [], [], .nil, _ => .nil
  | x :: xs, (_, d) :: kvs, .cons r t, hi => by
    rw [List.all_cons, Bool.and_eq_true] at hi
    have ih := rp_filter t hi.2
    obtain ⟨i, rfl, hv⟩ := isIntD_v r hi.1
    rw [List.filter_cons, List.filter_cons, hv]
    by_cases hz : i ≠ 0
    · rw [if_pos (show nzV (.int i) = true from decide_eq_true hz), if_pos (show nzD (.int i) = true from decide_eq_true hz)]
      exact .cons r ih
    · rw [if_neg (show ¬ nzV (.int i) = true by unfold nzV; simpa using hz), if_neg (show ¬ nzD (.int i) = true by unfold nzD; simpa using hz)]
      exact ih
theorem rp_int {c : Cc} {ρ : List Addr} {H : Hp} : ∀ {xs : List XV} {kvs : List (NestedKey × D)}, RP c ρ H (xs.map fun x => (x.1, x.2.2)) kvs → kvs.all (fun kv => isIntD kv.2) = true → ∀ x ∈ xs, ∃ i, x.2.2 = V.int i
  | [], [], .nil, _, _, hx => by cases hx
  | x :: xs, (_, d) :: kvs, .cons r t, hi, y, hy => by
    rw [List.all_cons, Bool.and_eq_true] at hi
    rcases List.mem_cons.mp hy with rfl | hy
    · obtain ⟨i, _, hv⟩ := isIntD_v r hi.1
      exact ⟨i, hv⟩
    · exact rp_int t hi.2 y hy
structure LaidN (HL : Hp) (Dl : Addr) (zs : List XV) (Hc : Hp) : Prop where
  ex : ∃ ps : List Addr, Hc Dl = some (.lst (ps.map V.ref)) ∧ Paired (fun p (z : XV) => Hc p = some (.tup [.ref z.2.1, z.2.2])) ps zs
  sub : ∀ b u, HL b = some u → Hc b = some u
theorem LaidN.step {HL : Hp} {Dl : Addr} {zs : List XV} {Hc : Hp} (L : LaidN HL Dl zs Hc) (hD : HL Dl = none) {p : Addr} {z : XV} (hp : Hc p = none) :
    ∃ acc, (upd Hc p (.tup [.ref z.2.1, z.2.2])) Dl = some (.lst acc) ∧ acc.length = zs.length ∧ LaidN HL Dl (zs ++ [z]) (upd (upd Hc p (.tup [.ref z.2.1, z.2.2])) Dl (.lst (acc ++ [.ref p]))) := by
  obtain ⟨⟨ps, hDl, hps⟩, hs⟩ := L
  have np : ∀ b u, Hc b = some u → b ≠ p := fun b u e z => by rw [z, hp] at e; cases e
  have keep : ∀ b u, Hc b = some u → (upd Hc p (.tup [.ref z.2.1, z.2.2])) b = some u := fun b u e => by rw [upd_ne (np b u e)]; exact e
  have nD : ∀ b xs, Hc b = some (.tup xs) → b ≠ Dl := fun b xs e z => by rw [z, hDl] at e; cases e
  have pD : p ≠ Dl := fun z => by rw [z, hDl] at hp; cases hp
  have hlen := Paired.length hps
  refine ⟨ps.map V.ref, keep _ _ hDl, by rw [List.length_map]; exact hlen, ⟨ps ++ [p], by rw [upd_same]; simp, Paired.snoc (Paired.mapP hps fun q y e => ?_) ?_⟩, fun b u e => ?_⟩
  · rw [upd_ne (nD _ _ e)]
    exact keep _ _ e
  · rw [upd_ne pD, upd_same]
  · have hb : b ≠ Dl := fun z => by rw [z, hD] at e; cases e
    rw [upd_ne hb]
    exact keep _ _ (hs b u e)
def fFiltN (jd jk : Nat) : FE := fun env S => match env[jd]? with
  | some (some (.v (.obj k))) => match S[k]? with
    | some (.dN kvs) => if kvs.length < sizeLine ∧ kvs.all (fun kv => isIntD kv.2) = true ∧ jk < env.length then .ok (.obj S.length) (S ++ [.dN (kvs.filter fun kv => nzD kv.2)]) else .st
    | _ => .st
  | _ => .st
theorem take_filter {xs : List XV} {c : Nat} {x : XV} (h : xs[c]? = some x) (p : XV → Bool) : (xs.take (c + 1)).filter p = (xs.take c).filter p ++ (if p x = true then [x] else []) := by
  rw [List.take_succ, h, List.filter_append]
  congr 1
  show [x].filter p = _
  rw [List.filter_cons]
  rfl
end
section
variable {Z : Zk} {N : List Str} {sc : Scope} {X : Cx} {W : WX}
theorem InE.filtN (h : InE Z N sc X W) {jd jk : Nat} {d a : Str} {p pa pa2 pa3 pa4 pd pd2 pd3 p1 p2 p3 pc pz lpos pos : Pos} {k1 kz : Nat} {scope : Scope} (own : List (Str × Nat))
    (hg : glB sc "dict" = true := by decide +kernel)
    (hd : N[jd]? = some d := by rfl) (hv : visB sc d = true := by decide +kernel) (hpd : plainN d = true := by decide +kernel)
    (hb : blkC N sc scope own = true := by decide +kernel) (ha : jk ∈ own.map (·.2) := by decide) (hnd : jd ∉ own.map (·.2) := by decide)
    (na : N[jk]? = some a := by rfl) (la : (relS scope sc).names.lookup a = some .local := by decide +kernel) (hpa : plainN a = true := by decide +kernel)
    (va : visB (relS scope sc) a = true := by decide +kernel) (vd : visB (relS scope sc) d = true := by decide +kernel) :
    DE X W (.Call (.Name "dict" p) [.ListComp (.Tuple [.Name a pa, .Subscript (.Name d pd) (.Name a pa2) p1] k1 p2) [⟨.Name a pa3, .Name d pd2, [.Compare (.Subscript (.Name d pd3) (.Name a pa4) p3) [.NotEq] [.Constant (.int 0) kz pz] pc], 0⟩] scope lpos] [] pos) (fFiltN jd jk) := by
  have hne : jd ≠ jk := fun e => hnd (e ▸ ha)
  have hu := h.un
  have hix : ∀ (s : Shared) (H : Hp) (C : Addr) (cl : List (Str × Addr)) (fp : List Addr) {p4 p5 p6 : Pos}, PE (X.blk s H scope (compEnvC scope cl C X.env) fp) (.Subscript (.Name d p4) (.Name a p5) p6) (tOp (rIxN X.w) (tVar jd) (tVar jk)) := fun s H C cl fp _ _ _ =>
    have q := h.blk (scope := scope) s H C cl fp
    pe_ix (ix_N (by have := q.un; omega)) (pe_var (by rw [q.n]; exact hd) (by rw [q.sc]; exact vis_by vd) (plainN_1 hpd) (plainN_2 hpd)) (pe_var (by rw [q.n]; exact na) (by rw [q.sc]; exact vis_by va) (plainN_1 hpa) (plainN_2 hpa)) (plainI_is rfl)
  have hlc : PE X (.ListComp (.Tuple [.Name a pa, .Subscript (.Name d pd) (.Name a pa2) p1] k1 p2) [⟨.Name a pa3, .Name d pd2, [.Compare (.Subscript (.Name d pd3) (.Name a pa4) p3) [.NotEq] [.Constant (.int 0) kz pz] pc], 0⟩] scope lpos)
      (tLc (iKeysN X.w (tVar jd)) ((Tg.one jk).t X.K) (tTest (tOp rNe (tOp (rIxN X.w) (tVar jd) (tVar jk)) (tC (.int 0)))) (tTup (tCons (tVar jk) (tCons (tOp (rIxN X.w) (tVar jd) (tVar jk)) tNil))) (own.map (·.2))) :=
    pe_lc h.calm h.nd (pi_keysN (pe_var (by rw [h.n]; exact hd) (by rw [h.sc]; exact vis_by hv) (plainN_1 hpd) (plainN_2 hpd))) (by rw [h.n, h.sc]; exact blkOk_by hb)
      (fun s H C cl fp => (h.blk (scope := scope) s H C cl fp).nmB na la)
      (fun s H C cl fp => pts_one (pt_cmpR op_ne (hix s H C cl fp) pe_int (by with_unfolding_all rfl)))
      (fun s H C cl fp => have q := h.blk (scope := scope) s H C cl fp; pe_tup (pa_cons (pe_var (by rw [q.n]; exact na) (by rw [q.sc]; exact vis_by va) (plainN_1 hpa) (plainN_2 hpa)) (pa_cons (hix s H C cl fp) pa_nil)))
      (noSet_f rfl)
  refine PE.imp (pe_callTy (call_dictN h.calm (by omega)) (h.glb hg) (h.free (by decide)) (by decide +kernel) (pa_cons (pe_lock hlc) pa_nil (star_cons rfl)) (by decide) (by decide) (star_cons rfl) (star_no rfl)) fun σ H Q ⟨ρ, env, S, E, R, hf⟩ => ?_
  unfold fFiltN at hf
  split at hf
  · rename_i k henv
    split at hf
    · rename_i kvs hS
      split at hf
      · rename_i hz
        obtain ⟨hz1, hz2, hz3⟩ := hz
        obtain ⟨v, hσ, rv⟩ := E.v jd _ henv
        cases rv with
        | @obj _ a0 hk =>
          obtain ⟨o, xs, hH, n, t, rp⟩ := dn_at R hk hS
          have hlen : xs.length = kvs.length := by have := RP.len rp; rw [List.length_map] at this; exact this
          have hint := rp_int rp hz2
          refine ⟨a0, NDo a0 o, hH, trivial, fun od => ?_⟩
          obtain ⟨H0, hH0⟩ : ∃ H0, H0 = upd H a0 (.frz od (NDo a0 o)) := ⟨_, rfl⟩
          rw [← hH0]
          have h0a : H0 a0 = some (.frz od (NDo a0 o)) := by rw [hH0]; exact upd_same
          refine ⟨.ref a0, hσ, a0, od, o, xs, rfl, h0a, n, fun Dl hD => ?_⟩
          have tups : ∀ b ys, H b = some (.tup ys) → H0 b = some (.tup ys) := fun b ys e => by
            rw [hH0, upd_ne (fun z => by rw [z, hH] at e; cases e)]
            exact e
          have t0 : ∀ x ∈ xs, TN H0 x.1 (.ref x.2.1) := fun x hx => (t x hx).ext tups
          refine ⟨fun c m Hc => m = xs.length - c ∧ c ≤ xs.length ∧ LaidN H0 Dl ((xs.take c).filter fun x => nzV x.2.2) Hc, ⟨xs.length, by simp, Nat.zero_le _, ⟨[], upd_same, .nil⟩, fun b u e => by
            rw [upd_ne (fun z => by rw [z, hD] at e; cases e)]; exact e⟩, ?_⟩
          rintro c m Hc ⟨rfl, hcl, L⟩
          have hfr : Hc a0 = some (.frz od (NDo a0 o)) := L.sub a0 _ h0a
          have tc : ∀ x ∈ xs, TN Hc x.1 (.ref x.2.1) := fun x hx => (t0 x hx).ext fun b ys e => L.sub b _ e
          by_cases hlt : c < xs.length
          · refine .inr ⟨⟨hfr, hlt⟩, fun H' => LaidN H0 Dl ((xs.take (c + 1)).filter fun x => nzV x.2.2) H', fun H' q => ⟨xs.length - (c + 1), by omega, rfl, hlt, q⟩, fun x H2 hx => ?_⟩
            obtain ⟨e0, key, b, v, hkv, rfl⟩ := hx
            obtain rfl : Hc = H2 := e0.symm
            have hmem : (key, b, v) ∈ xs := List.mem_of_getElem? hkv
            obtain ⟨i, hi⟩ := hint _ hmem
            have hi' : v = .int i := hi
            subst hi'
            have l1 : jk < (L2.wipe σ (own.map (·.2))).length := by rw [wipe_length, E.len]; exact hz3
            have g1 : ((L2.wipe σ (own.map (·.2))).set jk (some (V.ref b)))[jd]? = some (some (.ref a0)) := by
              rw [List.getElem?_set_ne (Ne.symm hne), wipe_out hnd]
              exact hσ
            have g2 : ((L2.wipe σ (own.map (·.2))).set jk (some (V.ref b)))[jk]? = some (some (.ref b)) := List.getElem?_set_self l1
            have read : ∀ (Q2 : VK), Q2 (.int i) Hc → tOp (rIxN X.w) (tVar jd) (tVar jk) ((L2.wipe σ (own.map (·.2))).set jk (some (V.ref b))) Hc Q2 := fun Q2 q2 =>
              ⟨.ref a0, g1, .ref b, g2, a0, o, xs, key, b, b, .int i, rfl, rfl, .inr ⟨od, hfr⟩, n, tc, tc _ hmem, hmem, q2⟩
            refine ⟨?_, ?_⟩
            · rw [wipe_set ha, wipe_wipe _ _ fun _ z => z]
            refine read _ ⟨rfl, _, rfl, ?_⟩
            have tf := take_filter hkv fun x => nzV x.2.2
            by_cases hn0 : i = 0
            · subst hn0
              rw [show (!decide (V.int 0 = V.int 0)) = false from by simp]
              dsimp only
              rw [if_neg Bool.false_ne_true, tf]
              rw [if_neg (show ¬ nzV (V.int 0) = true by decide), List.append_nil]
              exact L
            · rw [show (!decide (V.int i = V.int 0)) = true from by simp [hn0]]
              dsimp only
              rw [if_pos rfl, tf]
              rw [if_pos (show nzV (V.int i) = true from decide_eq_true hn0)]
              refine ⟨.ref b, g2, read _ ⟨by show 2 ≤ sizeLine; decide, fun p hp => ?_⟩⟩
              obtain ⟨acc, k1, k2, L'⟩ := L.step hD (z := (key, b, V.int i)) hp
              refine ⟨acc, k1, ?_, L'⟩
              rw [k2]
              refine Nat.lt_of_le_of_lt (List.length_filter_le _ _) (Nat.lt_of_le_of_lt (List.length_take_le' _ _) ?_)
              omega
          · have hce : c = xs.length := by omega
            subst hce
            rw [List.take_length] at L
            refine .inl ⟨⟨hfr, Nat.le_refl _⟩, hfr, ?_⟩
            obtain ⟨⟨ps, hDl, hps⟩, hsub⟩ := L
            obtain ⟨H2, hH2⟩ : ∃ H2, H2 = upd Hc a0 (NDo a0 o) := ⟨_, rfl⟩
            rw [← hH2]
            have sub : ∀ b u, H b = some u → H2 b = some u := fun b u e => by
              rw [hH2]
              by_cases q : b = a0
              · rw [q] at e ⊢
                rw [hH] at e
                rw [upd_same, e]
              · rw [upd_ne q]
                exact hsub b u (by rw [hH0, upd_ne q]; exact e)
            have gone : ∀ b, H2 b = none → H b = none := fun b e => by
              cases hb : H b with
              | none => rfl
              | some u => rw [sub b u hb] at e; cases e
            have e2 : Ext ρ H ρ H2 := ⟨⟨[], by simp, fun _ h => nomatch h⟩, fun b o e _ => sub b o e, fun b xs e => sub b _ e, fun b o u e => sub b _ e, gone⟩
            have R2 : Rel X.cc ρ S H2 := R.same e2 fun b _ o e => sub b o e
            have nea : ∀ b ys, Hc b = some (.tup ys) → b ≠ a0 := fun b ys e z => by rw [z, hfr] at e; cases e
            have t2 : ∀ z ∈ xs, TN H2 z.1 (.ref z.2.1) := fun x hx => (t x hx).ext fun b ys e => sub b _ e
            refine ⟨Dl, ps, xs.filter fun x => nzV x.2.2, rfl, ?_, ?_, fun z hz => ?_, ?_, fun p o2 hp n2 => ?_⟩
            · rw [hH2, upd_ne (fun z => by rw [z, hfr] at hDl; cases hDl)]
              exact hDl
            · exact Paired.mapP hps fun q y e => by rw [hH2, upd_ne (nea _ _ e)]; exact e
            · have hz' := (List.mem_filter.mp hz).1
              exact ⟨t2 z hz', n.2.2.2.2.1 z hz'⟩
            · exact (List.filter_sublist.map _).nodup n.2.2.2.1
            · have e3 := e2.trans (Ext.put (o := NDo p o2) hp)
              refine hf _ _ _ e3 (R2.put hp ⟨o2, _, upd_same, n2, fun z hz => (t2 z ((List.mem_filter.mp hz).1)).ext (Ext.put (ρ := ρ) hp).tup, (rp_filter rp hz2).ext e3⟩) (.obj ?_)
              rw [← R.len]
              simp
      · exact hf.elim
    · exact hf.elim
  · exact hf.elim
theorem InE.newN (h : InE Z N sc X W) {pos : Pos} : DE X W (.Dict [] [] pos) fNewN := de_newN
theorem InN.neN (h : InN Z N sc X) : CmpD X.cc X .NotEq dNeN := .mk _ (op_neN (by have := h.un; omega)) dNeN_ok
theorem InN.sortedN_ (h : InN Z N sc X) {e : Expr} {es : List Expr} {fs : FL} {p pos : Pos} (ha : DA X W (e :: es) fs) (hg : glB sc "sorted" = true := by decide +kernel) (hs : (e :: es).all noStar = true := by rfl) : DE X W (.Call (.Name "sorted" p) (e :: es) [] pos) (fCall oSortN fs) :=
  h.blt cr_sortN oSortN_ok (by decide +kernel) ha hg (by decide +kernel) (by decide +kernel) hs
theorem InN.getN (h : InN Z N sc X) {a e : Expr} {es : List Expr} {fa : FE} {fs : FL} {apos pos : Pos} (ha : DE X W a fa) (hs : DA X W (e :: es) fs) (hb : noCall0 a = true := by rfl) (hn : (e :: es).all noStar = true := by rfl) (hl : decide ((e :: es).length < 29) = true := by rfl) (hline : (apos.endLine == pos.line) = true := by rfl) :
    DE X W (.Call (.Attribute a "get" apos) (e :: es) [] pos) (fGetN fa fs) :=
  de_getN (by have := h.un; omega) ha hs (noCall_base hb) (few_ok hn hl) hline (star_cons (by rw [List.all_cons, Bool.and_eq_true] at hn; exact hn.1)) (star_no (by rw [List.all_cons, Bool.and_eq_true] at hn; exact hn.2))
theorem InS.setIxN (h : InS Z N sc X W) {e o i : Expr} {fo fi fv : FE} {px pos : Pos} (hv : DE X W e fv) (ho : DE X W o fo) (hi : DE X W i fi) (hc : noComp e = true := by rfl)
    (ha : ∀ v, assign (.Subscript o i px) X.env v = (do
      let ov ← holding [v] (eval o X.env)
      let iv ← holding [v, ov] (eval i X.env)
      standAt px
      holding [v, ov, iv] (setItem ov iv v)
      release [v, ov, iv] []) := by intro v; rfl) : DS X W (.Assign [.Subscript o i px] e pos) (sSetIxN fo fi fv) :=
  ds_setIxN (by have := h.un; omega) ho hi hv (noComp_sole hc) (noTup_st (.inl rfl)) ha
end
end G
namespace G
open PySem PySem.Spec L2
theorem walk_ofX {l : PySem.W.OpenLaw} {n k : Nat} {q : Program} {loose : List Str} {XP : (Str → Option Value) → Heap → Prop} {YP : World → Heap → Prop} {d : DefRec} {x : Str}
    (hn : l.most = some n) (hn2 : n ≤ sizeLine) (hdf : d.params.defaults = []) (hr : Room k callerA)
    (F : ∀ (w : World) (mg : Str → Option Value) (fa : Addr) (h : Heap), YP w h → h.Ns mainGlobals mg → mg d.name = some (.ref fa) →
      ∃ (K : PySem.W.Frag) (fd : FuncData) (sp : Sp), K.In h ∧ (∀ (s : Shared) (u : Value), BindsTo s fd ⟨[u], []⟩ [(x, u)]) ∧
        (∀ (H : Hp) (a : Addr) (ns : List Int), ns.length ≤ n → Only H → SqL K H a (ns.map V.int) → sp [.ref a] H (fun v _ => v = .bl true) fun _ _ _ => False) ∧
        ∀ base : Heap, K.In base → base.Ns mainGlobals mg → FnOk l.prog w K mg base (L2.CX l.prog w) k fa fd [x] sp) :
    PySem.W.WalkO q loose XP YP l.row.toRowW d [] (fun f vs => PySem.call f vs) := by
  refine Att.attach_call hn hdf fun w s₀ s₁ mg mb fa o pm cd doc a vs ns G Y ho hd hcd hmg hobj hints hlen hg => ?_
  obtain ⟨K, fd, sp, KX, hb, hsp, hF⟩ := F w mg fa _ Y G.T.g hmg
  exact law_call KX G.T.g G.T.b G.T.builtins G.T.nolimit hg hobj hints (Nat.le_trans hlen hn2) hr hF hb (fun H hO hS => hsp H a ns hlen hO hS) fun H e s' ⟨_, _, _, _, _, _, _, _, _, _, _, _, q⟩ => q
section
variable {K : PySem.W.Frag} {h : Heap} {mg : Str → Option Value} {defs names : List Str} {more : List He.Fa} {fn : List He.DefD}
theorem con_mem (X : K.In h) (Gn : h.Ns mainGlobals mg) {cs : List (Str × D)} (e : conB cs K = true) {x : Str} {d : D} (hx : (x, d) ∈ cs) : ∃ u, mg x = some u ∧ constB K d u = true := by
  have q := List.all_eq_true.mp e _ hx
  unfold conOne at q
  split at q
  · rename_i u hu
    exact ⟨u, PySem.W.mg_of X Gn hu, q⟩
  · cases q
theorem fact_mem {fa : List He.Fa} (c : He.SaysD fa fn K) {f : He.Fa} (h : f ∈ fa) : f.ok K = true := by
  obtain ⟨i, hi, e⟩ := List.mem_iff_getElem.mp h
  exact c.fact i (f := f) (by rw [List.getElem?_eq_getElem hi, e])
theorem def_mem {fa : List He.Fa} (c : He.SaysD fa fn K) {d : He.DefD} (h : d ∈ fn) : ∃ fd, FunD K d.name d.qual d.params d.body d.scope (d.dvs K) (d.kws K) (He.fAd K d.at_) fd := by
  obtain ⟨i, hi, e⟩ := List.mem_iff_getElem.mp h
  exact c.def_ i (d := d) (by rw [List.getElem?_eq_getElem hi, e])
theorem glo_mem (X : K.In h) (Gn : h.Ns mainGlobals mg) (c : He.SaysD (faOf defs names more) fn K) {x : Str} (hx : x ∈ defs ∨ x ∈ names) : mg x = some (.ref (He.ga K x)) :=
  He.glo_ok X Gn (fact_mem c (f := .glo x) (by
    unfold faOf
    rcases hx with hx | hx
    · exact List.mem_append_left _ (List.mem_map_of_mem hx)
    · exact List.mem_append_right _ (List.mem_append_left _ (List.mem_map_of_mem hx))))
theorem free_all (X : K.In h) (Gn : h.Ns mainGlobals mg) (c : He.SaysD (faOf defs names more) fn K) : Free mg := fun x hx =>
  He.free_ok X Gn (fact_mem c (f := .free x) (List.mem_append_right _ (List.mem_append_right _ (List.mem_append_right _ (List.mem_append_left _ (List.mem_map_of_mem hx))))))
theorem and_l {a b : Bool} (h : (a && b) = true) : a = true := (Bool.and_eq_true_iff.mp h).1
theorem and_r {a b : Bool} (h : (a && b) = true) : b = true := (Bool.and_eq_true_iff.mp h).2
theorem excT_of (X : K.In h) (Gn : h.Ns mainGlobals mg) (c : He.SaysD (faOf defs names more) fn K) (e : excB names K = true) (hv : ("ValueError" : Str) ∉ names) : ExcT K mg names := by
  have gl : ∀ x ∈ names, mg x = some (.ref (He.ga K x)) := fun x hx => glo_mem X Gn c (.inr hx)
  have ex : ∀ x ∈ names, _ := fun x hx => He.exc_ok (fact_mem c (f := .exc x) (List.mem_append_right _ (List.mem_append_right _ (List.mem_append_left _ (List.mem_map_of_mem hx)))))
  have on : ∀ x ∈ names, excOne K names x = true := fun x hx => List.all_eq_true.mp e x hx
  have cv : ∀ y u, y ∈ ("ValueError" : Str) :: names → clsX mg y u → u = clV K y := fun y u hy hu => by
    unfold clV
    rcases hu with ⟨C, h1, rfl⟩ | ⟨rfl, _, rfl⟩
    · have hne : y ∈ names := by
        rcases List.mem_cons.mp hy with q | q
        · subst q
          rw [free_all X Gn c _ (by decide)] at h1
          cases h1
        · exact q
      have : (y == ("ValueError" : Str)) = false := by
        apply beq_eq_false_iff_ne.mpr
        rintro rfl
        exact hv hne
      rw [this, gl y hne] at *
      cases h1
      rfl
    · rfl
  refine ⟨fun x hx => ⟨_, gl x hx, ex x hx⟩, fun x hx C hC => ?_, fun x hx C hC y hy u hu => ?_, fun x hx C hC y hy u hu => ?_⟩
  · rw [gl x hx] at hC
    cases hC
    have q := on x hx
    unfold excOne at q
    exact ⟨of_decide_eq_true (and_l q), of_decide_eq_true (and_l (and_r q)), (ex x hx).2.2.1, and_l (and_r (and_r q)), of_decide_eq_true (and_l (and_r (and_r (and_r q)))), of_decide_eq_true (and_l (and_r (and_r (and_r (and_r q))))),
      of_decide_eq_true (and_l (and_r (and_r (and_r (and_r (and_r q)))))), of_decide_eq_true (and_l (and_r (and_r (and_r (and_r (and_r (and_r q)))))))⟩
  · rw [gl x hx] at hC
    cases hC
    have q := on x hx
    unfold excOne at q
    rw [cv y u hy hu]
    exact of_decide_eq_true (List.all_eq_true.mp (and_l (and_r (and_r (and_r (and_r (and_r (and_r (and_r q)))))))) y hy)
  · rw [gl x hx] at hC
    cases hC
    have q := on x hx
    unfold excOne at q
    rw [cv y u (List.mem_cons_of_mem _ hy) hu]
    exact of_decide_eq_true (List.all_eq_true.mp (and_r (and_r (and_r (and_r (and_r (and_r (and_r (and_r q)))))))) y hy)
theorem fun_mem (X : K.In h) (Gn : h.Ns mainGlobals mg) (c : He.SaysD (faOf defs names more) fn K) {x : Str} {st : Stmt} (hx : x ∈ defs) (hd : defF x st ∈ fn) : ∃ f fd, mg x = some (.ref f) ∧ FunD K x x (defArgs st) (defBody st) (defScope st) [] [] f fd := by
  obtain ⟨fd, F⟩ := def_mem c hd
  exact ⟨_, fd, glo_mem X Gn c (.inl hx), F⟩
theorem dfl_mem (X : K.In h) (Gn : h.Ns mainGlobals mg) (c : He.SaysD (faOf defs names more) fn K) {x : Str} {st : Stmt} {ds : List He.Dv} (hx : x ∈ defs) (hd : defFd x st ds ∈ fn) : ∃ f fd, mg x = some (.ref f) ∧ FunD K x x (defArgs st) (defBody st) (defScope st) (ds.map (He.Dv.v K)) [] f fd := by
  obtain ⟨fd, F⟩ := def_mem c hd
  exact ⟨_, fd, glo_mem X Gn c (.inl hx), F⟩
theorem kvB_ok (X : K.In h) (Gn : h.Ns mainGlobals mg) {w : World} {d : D} {u : Value} (e : kvB K d u = true) : ∃ v, RelV v u ∧ ∀ ρ H, RD ⟨K, mg, w⟩ ρ H v d := by
  unfold kvB at e
  split at e
  · have := of_decide_eq_true e; subst this; exact ⟨.int _, ⟨_, rfl⟩, fun _ _ => .int _⟩
  · have := of_decide_eq_true e; subst this; exact ⟨.str _, ⟨_, rfl⟩, fun _ _ => .str _⟩
  · have := of_decide_eq_true e; subst this; exact ⟨.bl _, rfl, fun _ _ => .bl _⟩
  · exact ⟨.ref _, rfl, fun _ _ => .fn (PySem.W.mg_of X Gn (of_decide_eq_true e))⟩
  · cases e
theorem kvsB_ok (X : K.In h) (Gn : h.Ns mainGlobals mg) {w : World} : ∀ {ds : List D} {us : List Value}, kvsB K ds us = true → ∃ vs, Vals vs us ∧ ∀ ρ H, RL ⟨K, mg, w⟩ ρ H vs ds
  | [], [], _ => ⟨[], .nil, fun _ _ => .nil⟩
  | d :: ds, u :: us, e => by
    unfold kvsB at e
    rw [Bool.and_eq_true] at e
    obtain ⟨v, r, q⟩ := kvB_ok X Gn (w := w) e.1
    obtain ⟨vs, rs, qs⟩ := kvsB_ok X Gn (w := w) e.2
    exact ⟨v :: vs, .cons r rs, fun ρ H => .cons (q ρ H) (qs ρ H)⟩
  | [], _ :: _, e => by cases e
  | _ :: _, [], e => by cases e
theorem kd_mem (X : K.In h) (Gn : h.Ns mainGlobals mg) {w : World} {ts : List Tb} (t : tabO ts K = tabV ts w) {cs : List (Str × List D)} (e : kdB cs K = true) {x : Str} {ks : List Str} {ds : List D} (i : Nat) (hi : ts[i]? = some (x, ks)) (hx : (x, ds) ∈ cs) :
    ∃ p vs, mg x = some (.ref p) ∧ KdAt K w p ks vs ∧ ∀ ρ H, RL ⟨K, mg, w⟩ ρ H vs ds := by
  have q : kdOne K x ds = true := List.all_eq_true.mp e _ hx
  have t2 : He.dicW K (He.ga K x) = some (He.keysIn w.params ks) := by
    have e2 : (tabO ts K)[i]? = (tabV ts w)[i]? := by rw [t]
    unfold tabO tabV at e2
    rw [List.getElem?_map, List.getElem?_map, hi] at e2
    exact Option.some.inj e2
  unfold kdOne at q
  split at q
  · rename_i p hp
    have hg : He.ga K x = p := by unfold He.ga; rw [hp]
    rw [hg] at t2
    split at q
    · rename_i oc od es n sl hl
      obtain ⟨vs, rv, rl⟩ := kvsB_ok X Gn (w := w) q
      obtain ⟨es', n', D⟩ := He.dicW_ok t2
      have hD := D.at_
      rw [hl] at hD
      cases hD
      refine ⟨p, vs, PySem.W.mg_of X Gn hp, ⟨es, n, D, ?_, rv⟩, rl⟩
      unfold He.dicW at t2
      rw [hl] at t2
      dsimp only at t2
      split at t2
      · exact Option.some.inj t2
      · cases t2
    · cases q
  · cases q
theorem law_spec {w : World} {F : Fn} (hF : ∀ ns : List Int, ∃ S, F [.il (ns.map .int)] [] = .ok (.bl true) S) (H : Hp) (a : Addr) (ns : List Int) (hO : Only H) (hS : SqL K H a (ns.map V.int)) : spD ⟨K, mg, w⟩ 1 F [.ref a] H (fun v _ => v = .bl true) fun _ _ _ => False := by
  obtain ⟨S, e⟩ := hF ns
  refine ⟨[], [], [.il (ns.map .int)], ⟨rfl, List.nodup_nil, fun k m h => by simp at h⟩, .cons (.il ?_ .ints) .nil, rfl, ?_⟩
  · rcases hS with (h | ⟨o, h⟩) | h
    · exact .inl ⟨h, by simp⟩
    · exact .inr (.inl ⟨o, h⟩)
    · exact .inr (.inr h)
  · show FinC ⟨K, mg, w⟩ [] H (F [.il (ns.map .int)] []) _ _
    rw [e]
    intro ρ' H' v _ _ r
    cases r
    rfl
end
end G
namespace G
end G
namespace G
open PySem PySem.Spec L2
def fD (n q : Str) (st : Stmt) (gl : Addr) (cl : List (Str × Addr)) (df kd dc pm : Value) (an : Option Addr) (cd ct : Value) (bt : Addr) : FuncData := ⟨n, q, defArgs st, .stmts (defBody st), defScope st, gl, cl, df, kd, dc, pm, an, cd, ct, bt⟩
def dO (n q : Str) (st : Stmt) : Obj := ⟨.none, .none, .func (fD n q st 0 [] .none .none .none .none .none .none .none 0), #[]⟩
section
variable {env env' : Env} {S S' : Sg} {f fa fb fc : FE} {fs : FL} {t u : FT} {g g2 : FS} {d : D} {i j : Int} {n k : Nat}
@[simp] theorem andThen_nx (k : FS) : (SR.nx env S).andThen k = k env S := id rfl
@[simp] theorem andThen_rt (k : FS) : (SR.rt d S).andThen k = .rt d S := id rfl
@[simp] theorem andThen_bk (k : FS) : (SR.bk env S).andThen k = .bk env S := id rfl
@[simp] theorem andThen_ct (k : FS) : (SR.ct env S).andThen k = .ct env S := id rfl
@[simp] theorem andThen_er (k : FS) (c : Str) : (SR.er c env S).andThen k = .er c env S := id rfl
@[simp] theorem andThen_st (k : FS) : SR.st.andThen k = .st := id rfl
@[simp] theorem fin_nx : (SR.nx env S).fin = .ok .non S := id rfl
@[simp] theorem fin_rt : (SR.rt d S).fin = .ok d S := id rfl
@[simp] theorem fin_er (c : Str) : (SR.er c env S).fin = .er c S := id rfl
@[simp] theorem fin_st : SR.st.fin = .st := id rfl
@[simp] theorem andThen_ite {c : Prop} [Decidable c] (a b : SR) (k : FS) : (if c then a else b).andThen k = if c then a.andThen k else b.andThen k := by split <;> rfl
@[simp] theorem fin_ite {c : Prop} [Decidable c] (a b : SR) : (if c then a else b).fin = if c then a.fin else b.fin := by split <;> rfl
@[simp] theorem bind_ite {α β : Type} {c : Prop} [Decidable c] (a b : Res α) (k : α → Sg → Res β) : (if c then a else b).bind k = if c then a.bind k else b.bind k := by split <;> rfl
@[simp] theorem s_ite {α : Type} {c : Prop} [Decidable c] (a b : Res α) (k : α → Sg → SR) : (if c then a else b).s env k = if c then a.s env k else b.s env k := by split <;> rfl
@[simp] theorem sSeq_e : sSeq g g2 env S = (g env S).andThen g2 := id rfl
@[simp] theorem sNil_e : sNil env S = .nx env S := id rfl
@[simp] theorem sRet_e : sRet fa env S = (fa env S).s env fun d S => .rt d S := id rfl
@[simp] theorem sDrop_e : sDrop fa env S = (fa env S).s env fun _ S => .nx env S := id rfl
@[simp] theorem sIf_e : sIf t g g2 env S = (t env S).s env fun b S => if b = true then g env S else g2 env S := id rfl
@[simp] theorem sRaise_e (x : Str) : sRaise x env S = .er x env S := id rfl
@[simp] theorem sAsg_e (k : Nat) : sAsg fa (gNm k) env S = (fa env S).s env fun d S => .nx (env.set k (some (.v d))) S := id rfl
@[simp] theorem sAsgT_e (is : List Nat) : sAsg fa (gTupN is) env S = (fa env S).s env fun d S => match gTupN is d env with
  | some env' => .nx env' S
  | none => .st := id rfl
@[simp] theorem gTupN_e (is : List Nat) (w : Bool) (ds : List D) : gTupN is (.tup w ds) env = gNms is ds env := id rfl
@[simp] theorem gNms_nil : gNms [] [] env = some env := id rfl
@[simp] theorem gNms_cons (k : Nat) (is : List Nat) (ds : List D) : gNms (k :: is) (d :: ds) env = gNms is ds (env.set k (some (.v d))) := id rfl
@[simp] theorem gNm_e : gNm k d env = some (env.set k (some (.v d))) := id rfl
@[simp] theorem fVar_e (h : env[k]? = some (some (.v d))) : fVar k env S = .ok d S := by unfold fVar; rw [h]
@[simp] theorem fC_e : fC d env S = .ok d S := id rfl
@[simp] theorem fBin_e (o : D → D → Sg → Res D) : fBin o fa fb env S = (fa env S).bind fun x S1 => (fb env S1).bind fun y S2 => o x y S2 := id rfl
@[simp] theorem fB_e : fB f env S = (f env S).bind fun d S => match d with
  | .bl b => .ok b S
  | _ => .st := id rfl
@[simp] theorem fTup_e : fTup fs env S = (fs env S).bind fun ds S => if ds.length ≤ sizeLine then .ok (.tup true ds) S else .st := id rfl
@[simp] theorem fLst_e : fLst fs env S = (fs env S).bind fun ds S => if ds.length ≤ sizeLine then .ok (.obj S.length) (S ++ [.lst ds]) else .st := id rfl
@[simp] theorem fNil_e : fNil env S = .ok [] S := id rfl
@[simp] theorem fCons_e : fCons fa fs env S = (fa env S).bind fun d S => (fs env S).bind fun ds S => .ok (d :: ds) S := id rfl
@[simp] theorem fCall_e (o : List D → Sg → Res D) : fCall o fs env S = (fs env S).bind o := id rfl
@[simp] theorem fMth_e (T : String) (o : D → List D → Sg → Res D) : fMth T o fa fs env S = (fa env S).bind fun d S => if tyM S d = some T then (fs env S).bind fun ds S => o d ds S else .st := id rfl
@[simp] theorem fAnd_e : fAnd t u env S = (t env S).bind fun b S => if b = true then u env S else .ok false S := id rfl
@[simp] theorem fOr_e : fOr t u env S = (t env S).bind fun b S => if b = true then .ok true S else u env S := id rfl
@[simp] theorem fNot_e : fNot t env S = (t env S).bind fun b S => .ok (!b) S := id rfl
def tK {α : Type} (o : Option Bool) (x y : Res α) : Res α := match o with
  | some true => x
  | some false => y
  | none => .st
@[simp] theorem tK_some {α : Type} (b : Bool) (x y : Res α) : tK (some b) x y = if b = true then x else y := by cases b <;> rfl
def oK {α : Type} (o : Option α) (S : Sg) : Res α := match o with
  | some d => .ok d S
  | none => .st
@[simp] theorem oK_some {α : Type} (d : α) (S : Sg) : oK (some d) S = .ok d S := id rfl
@[simp] theorem fTru_e : fTru f env S = (f env S).bind fun d S => oK (truD S d) S := by
  unfold fTru
  congr
  funext d S
  cases truD S d <;> rfl
@[simp] theorem fAndV_e : fAndV fa fb env S = (fa env S).bind fun d S => tK (truD S d) (fb env S) (.ok d S) := by
  unfold fAndV
  congr
@[simp] theorem fOrV_e : fOrV fa fb env S = (fa env S).bind fun d S => tK (truD S d) (.ok d S) (fb env S) := by
  unfold fOrV
  congr
@[simp] theorem fNotV_e : fNotV fa env S = (fa env S).bind fun d S => (oK (truD S d) S).bind fun b S => .ok (.bl (!b)) S := by
  unfold fNotV
  congr
  funext d S
  cases truD S d <;> rfl
@[simp] theorem truD_bl (b : Bool) : truD S (.bl b) = some b := id rfl
@[simp] theorem truD_int : truD S (.int i) = some (decide (i ≠ 0)) := id rfl
@[simp] theorem truD_non : truD S .non = some false := id rfl
@[simp] theorem truD_tup (w : Bool) (ds : List D) : truD S (.tup w ds) = some (!ds.isEmpty) := id rfl
@[simp] theorem fNeg_e : fNeg fa env S = (fa env S).bind fun d S => match d with
  | .int i => .ok (.int (-i)) S
  | _ => .st := id rfl
@[simp] theorem dLt_e : dLt (.int i) (.int j) S = .ok (.bl (decide (i < j))) S := id rfl
@[simp] theorem dLe_e : dLe (.int i) (.int j) S = .ok (.bl (decide (i ≤ j))) S := id rfl
@[simp] theorem dGt_e : dGt (.int i) (.int j) S = .ok (.bl (decide (j < i))) S := id rfl
@[simp] theorem dGe_e : dGe (.int i) (.int j) S = .ok (.bl (decide (j ≤ i))) S := id rfl
@[simp] theorem dAdd_e : dAdd (.int i) (.int j) S = .ok (.int (i + j)) S := id rfl
@[simp] theorem dIAdd_e : dIAdd (.int i) (.int j) S = .ok (.int (i + j)) S := id rfl
@[simp] theorem dSub_e : dSub (.int i) (.int j) S = .ok (.int (i - j)) S := id rfl
theorem dMul_e : dMul (.int i) (.int j) S = if okMul i j = true then .ok (.int (i * j)) S else .st := rfl
theorem dDiv_e : dDiv (.int i) (.int j) S = if okDiv j = true then .ok (.int (i / j)) S else .st := rfl
theorem dMod_e : dMod (.int i) (.int j) S = if decide (0 < j) = true then .ok (.int (i % j)) S else .st := rfl
theorem dPow_e : dPow (.int i) (.int j) S = if okPow i j = true then .ok (.int (i ^ j.toNat)) S else .st := rfl
theorem mulL (h1 : -(2 ^ 64) < i) (h2 : i < 2 ^ 64) : dMul (.int i) (.int j) S = .ok (.int (i * j)) S := by
  rw [dMul_e, if_pos]
  unfold okMul
  rw [decide_eq_true h1, decide_eq_true h2]
  rfl
theorem mulR (h1 : -(2 ^ 64) < j) (h2 : j < 2 ^ 64) : dMul (.int i) (.int j) S = .ok (.int (i * j)) S := by
  rw [dMul_e, if_pos]
  unfold okMul
  rw [decide_eq_true h1, decide_eq_true h2]
  simp
theorem log_lt {a m : Nat} (h : a < 2 ^ m) (hm : 0 < m) : a.log2 < m := by
  by_cases h0 : a = 0
  · subst h0; exact hm
  · exact (Nat.log2_lt h0).mpr h
theorem divB {m : Nat} (hm : 0 < m) (hm2 : m ≤ 9000) (h0 : 0 < j) (h : j.natAbs < 2 ^ m) : dDiv (.int i) (.int j) S = .ok (.int (i / j)) S := by
  rw [dDiv_e, if_pos]
  unfold okDiv
  have a := log_lt h hm
  have : j.natAbs.log2 < 9000 := by omega
  simp [this, h0]
theorem modB (h0 : 0 < j) : dMod (.int i) (.int j) S = .ok (.int (i % j)) S := by
  rw [dMod_e, if_pos (by simpa using h0)]
@[simp] theorem tyM_str (z : Str) : tyM S (.str z) = some "str" := id rfl
@[simp] theorem seqD_tup (w : Bool) (ds : List D) : seqD S (.tup w ds) = some ds := id rfl
@[simp] theorem seqD_il (ds : List D) : seqD S (.il ds) = some ds := id rfl
theorem seqD_obj {ds : List D} (h : S[k]? = some (.lst ds)) : seqD S (.obj k) = some ds := by unfold seqD; simp only [h]
theorem lstD_obj {ds : List D} (h : S[k]? = some (.lst ds)) : lstD S (.obj k) = some ds := by unfold lstD; simp only [h]
theorem ix_seq {a : D} {ds : List D} (h : seqD S a = some ds) (hs : ∀ z, a ≠ .str z) : dIx a (.int i) S = oK (atI ds i) S := by
  unfold dIx
  split
  · rename_i z; exact absurd rfl (hs _)
  · simp only [h]
    cases atI ds i <;> rfl
@[simp] theorem ix_tup (w : Bool) (ds : List D) : dIx (.tup w ds) (.int i) S = oK (atI ds i) S := ix_seq (seqD_tup _ _) (fun _ h => nomatch h)
theorem ix_obj {ds : List D} (h : S[k]? = some (.lst ds)) : dIx (.obj k) (.int i) S = oK (atI ds i) S := ix_seq (seqD_obj h) (fun _ h => nomatch h)
theorem append_ok {ds : List D} (h : S[k]? = some (.lst ds)) (hl : ds.length < sizeLine) : oAppend (.obj k) [d] S = .ok .non (S.set k (.lst (ds ++ [d]))) := by
  unfold oAppend
  simp only [h, if_pos hl]
@[simp] theorem last_get (S : Sg) (m : MO) : (S ++ [m])[S.length]? = some m := by simp
@[simp] theorem last_set (S : Sg) (m m' : MO) : (S ++ [m]).set S.length m' = S ++ [m'] := by simp
@[simp] theorem sFor_e (fi : FI) (f : FG) : sFor fi f g env S = (fi env S).s env fun I S => forL I.ok f g I.ds env S := id rfl
@[simp] theorem fIt_e (o : List D → Sg → Res Items) : fIt o fs env S = (fs env S).bind o := id rfl
@[simp] theorem fSeq_e : fSeq fa env S = (fa env S).bind iSeq := id rfl
theorem range1 (h1 : -(2 ^ 62) ≤ j) (h2 : j < 2 ^ 62) : iRange1 [.int j] S = .ok ⟨rangeD 0 1 j.toNat, fun _ => True⟩ S := by
  unfold iRange1
  exact if_pos ⟨h1, h2⟩
theorem forL_run {f : FG} : ∀ (ds : List D) (P : Nat → Env → Sg → Prop) (env : Env) (S : Sg), P 0 env S →
    (∀ k d env S, ds[k]? = some d → P k env S → ∃ env1, f d env = some env1 ∧ ∃ env' S', (g env1 S = .nx env' S' ∨ g env1 S = .ct env' S') ∧ P (k + 1) env' S') →
    ∃ env' S', forL (fun _ => True) f g ds env S = .nx env' S' ∧ P ds.length env' S'
  | [], P, env, S, h0, _ => ⟨env, S, if_pos trivial, h0⟩
  | d :: ds, P, env, S, h0, hs => by
    obtain ⟨env1, e1, env', S', e2, p⟩ := hs 0 d env S rfl h0
    obtain ⟨env2, S2, e3, q⟩ := forL_run ds (fun k => P (k + 1)) env' S' p fun k d env S hk h => hs (k + 1) d env S hk h
    refine ⟨env2, S2, ?_, q⟩
    unfold forL
    rw [if_pos trivial, e1]
    rcases e2 with e2 | e2 <;> (dsimp only; rw [e2]; exact e3)
theorem forL_nx {g : FS} {f : FG} (ds : List D) (P : Nat → Env → Sg → Prop) {env : Env} {S : Sg} (h0 : P 0 env S)
    (hs : ∀ k d env S, ds[k]? = some d → P k env S → ∃ env1, f d env = some env1 ∧ ∃ env' S', g env1 S = .nx env' S' ∧ P (k + 1) env' S') :
    ∃ env' S', forL (fun _ => True) f g ds env S = .nx env' S' ∧ P ds.length env' S' :=
  forL_run ds P env S h0 fun k d env S hk hp => by
    obtain ⟨env1, e, env', S', e2, p⟩ := hs k d env S hk hp
    exact ⟨env1, e, env', S', .inl e2, p⟩
theorem range_get {lo st : Int} {n k : Nat} {d : D} (h : (rangeD lo st n)[k]? = some d) : k < n ∧ d = .int (lo + k * st) := by
  unfold rangeD at h
  rw [List.getElem?_map] at h
  obtain ⟨a, ha, e⟩ := Option.map_eq_some_iff.mp h
  obtain ⟨hk, e2⟩ := List.getElem?_eq_some_iff.mp ha
  simp at hk e2
  exact ⟨hk, by rw [← e, ← e2]⟩
theorem range_len {lo st : Int} {n : Nat} : (rangeD lo st n).length = n := by unfold rangeD; simp
theorem for_range {ix : Nat} {lo st : Int} {n : Nat} (P : Nat → Env → Sg → Prop) (h0 : P 0 env S)
    (hs : ∀ k env S, k < n → P k env S → ∃ env' S', g (env.set ix (some (.v (.int (lo + k * st))))) S = .nx env' S' ∧ P (k + 1) env' S') :
    ∃ env' S', forL (fun _ => True) (gNm ix) g (rangeD lo st n) env S = .nx env' S' ∧ P n env' S' := by
  obtain ⟨env', S', e, p⟩ := forL_run (f := gNm ix) (rangeD lo st n) P env S h0 fun k d env S hd hP => by
    obtain ⟨hk, rfl⟩ := range_get hd
    obtain ⟨env', S', e, p⟩ := hs k env S hk hP
    exact ⟨_, rfl, env', S', .inl e, p⟩
  rw [range_len] at p
  exact ⟨env', S', e, p⟩
@[simp] theorem sWhile_e : sWhile t g env S = sLoop t g mostTurns env S := id rfl
theorem while_run {t : FT} (P : Env → Sg → Prop) (m : Env → Sg → Nat) (Q : Env → Sg → Prop)
    (hs : ∀ env S, P env S → (t env S = .ok false S ∧ Q env S) ∨ (t env S = .ok true S ∧ ∃ env' S', g env S = .nx env' S' ∧ P env' S' ∧ m env' S' < m env S)) :
    ∀ (k : Nat) (env : Env) (S : Sg), P env S → m env S < k → ∃ env' S', sLoop t g k env S = .nx env' S' ∧ Q env' S'
  | 0, env, S, _, hk => absurd hk (Nat.not_lt_zero _)
  | k + 1, env, S, hp, hk => by
    rcases hs env S hp with ⟨e, q⟩ | ⟨e, env', S', e2, p, hm⟩
    · refine ⟨env, S, ?_, q⟩
      unfold sLoop
      rw [e]
      simp
    · obtain ⟨env2, S2, e3, q⟩ := while_run P m Q hs k env' S' p (by omega)
      refine ⟨env2, S2, ?_, q⟩
      unfold sLoop
      rw [e]
      simp [e2, e3]
end
theorem runF_e {m : Nat} {g : FS} {ds : List D} {S : Sg} : runF m g ds S = (g (startE m ds) S).fin := rfl
theorem weak_st {S : Sg} {r : Res D} : Weak S r .st := .inl rfl
theorem weak_eq {S : Sg} {r r' : Res D} (h : r = r') : Weak S r r' := .inr (.inl h)
theorem weak_ok {S : Sg} {r : Res D} {d : D} (G : Sg) (h : r = .ok d (S ++ G)) (hd : d.free = true) : Weak S r (.ok d S) := .inr (.inr (.inl ⟨d, G, h, hd, rfl⟩))
theorem weak_er {S : Sg} {r : Res D} {x : Str} (G : Sg) (h : r = .er x (S ++ G)) : Weak S r (.er x S) := .inr (.inr (.inr (.inl ⟨x, G, h, rfl⟩)))
@[simp] theorem free_ints (w : Bool) (ns : List Int) : (D.tup w (ns.map .int)).free = true := by
  unfold D.free
  induction ns with
  | nil => rfl
  | cons n ns ih => simpa [D.frees, D.free] using ih
theorem enum_get {ds : List D} {k : Nat} {d : D} (h : (enumD ds)[k]? = some d) : k < ds.length ∧ d = .tup true [.int k, ds.getD k .non] := by
  unfold enumD at h
  rw [List.getElem?_map] at h
  obtain ⟨a, ha, e⟩ := Option.map_eq_some_iff.mp h
  obtain ⟨hk, e2⟩ := List.getElem?_eq_some_iff.mp ha
  simp at hk e2
  subst e2
  exact ⟨hk, e.symm⟩
structure StC where
  cells : List Int
  a : Nat
  n : Int
  b : Bool
  hl : cells.length ≤ 63
def SX (cells : List D) (x y z : D) (G : Sg) : Sg := .lst cells :: .lst [.obj 0, x, y, z] :: G
@[simp] theorem SX_0 (cells : List D) (x y z : D) (G : Sg) : (SX cells x y z G)[0]? = some (.lst cells) := id rfl
@[simp] theorem SX_1 (cells : List D) (x y z : D) (G : Sg) : (SX cells x y z G)[1]? = some (.lst [.obj 0, x, y, z]) := id rfl
@[simp] theorem SX_len (cells : List D) (x y z : D) (G : Sg) : oLen [.obj 0] (SX cells x y z G) = .ok (.int cells.length) (SX cells x y z G) := id rfl
@[simp] theorem SX_ix (cells : List D) (x y z : D) (G : Sg) (i : Int) : dIx (.obj 0) (.int i) (SX cells x y z G) = oK (atI cells i) (SX cells x y z G) := ix_obj rfl
@[simp] theorem SX_i0 (cells : List D) (x y z : D) (G : Sg) : dIx (.obj 1) (.int 0) (SX cells x y z G) = .ok (.obj 0) (SX cells x y z G) := id rfl
@[simp] theorem SX_i1 (cells : List D) (x y z : D) (G : Sg) : dIx (.obj 1) (.int 1) (SX cells x y z G) = .ok x (SX cells x y z G) := id rfl
@[simp] theorem SX_i2 (cells : List D) (x y z : D) (G : Sg) : dIx (.obj 1) (.int 2) (SX cells x y z G) = .ok y (SX cells x y z G) := id rfl
@[simp] theorem SX_i3 (cells : List D) (x y z : D) (G : Sg) : dIx (.obj 1) (.int 3) (SX cells x y z G) = .ok z (SX cells x y z G) := id rfl
@[simp] theorem SX_s1 (cells : List D) (x y z d : D) (G : Sg) : setIx (.obj 1) (.int 1) d (SX cells x y z G) = some (SX cells d y z G) := id rfl
@[simp] theorem SX_s2 (cells : List D) (x y z d : D) (G : Sg) : setIx (.obj 1) (.int 2) d (SX cells x y z G) = some (SX cells x d z G) := id rfl
@[simp] theorem SX_s3 (cells : List D) (x y z d : D) (G : Sg) : setIx (.obj 1) (.int 3) d (SX cells x y z G) = some (SX cells x y d G) := id rfl
@[simp] theorem sSetIx_e {env : Env} {S : Sg} (fo fi fv : FE) : sSetIx fo fi fv env S = (fv env S).s env fun d S => (fo env S).s env fun o S => (fi env S).s env fun i S => match setIx o i d S with
  | some S' => .nx env S'
  | none => .st := id rfl
@[simp] theorem sPar_e {env : Env} {S : Sg} (is : List Nat) (fs : FL) : sPar is fs env S = (fs env S).s env fun ds S => match gNms is ds env with
  | some env' => .nx env' S
  | none => .st := id rfl
theorem sAug_e {env : Env} {S : Sg} {i : Nat} {x : D} {o : D → D → Sg → Res D} {fa : FE} (h : env[i]? = some (some (.v x))) : sAug i o fa env S = (fa env S).s env fun y S => (o x y S).s env fun z S => .nx (env.set i (some (.v z))) S := by
  unfold sAug
  simp only [h]
@[simp] theorem p1018 {S : Sg} : dPow (.int 10) (.int 18) S = .ok (.int 1000000000000000000) S := by
  rw [dPow_e, if_pos (by decide)]
  simp
def St (c : StC) (G : Sg) : Sg := SX (c.cells.map .int) (.int c.a) (.int c.n) (.bl c.b) G
@[simp] theorem St_0 (c : StC) (G : Sg) : (St c G)[0]? = some (.lst (c.cells.map .int)) := id rfl
@[simp] theorem St_1 (c : StC) (G : Sg) : (St c G)[1]? = some (.lst [.obj 0, .int c.a, .int c.n, .bl c.b]) := id rfl
@[simp] theorem St_k (c : StC) (G : Sg) (k : Nat) : (St c G)[k + 2]? = G[k]? := id rfl
@[simp] theorem St_len (c : StC) (G : Sg) : (St c G).length = G.length + 2 := id rfl
@[simp] theorem St_app (c : StC) (G T : Sg) : St c G ++ T = St c (G ++ T) := id rfl
@[simp] theorem St_set (c : StC) (G : Sg) (k : Nat) (m : MO) : (St c G).set (k + 2) m = St c (G.set k m) := id rfl
section
variable {S : Sg} {i j : Int}
theorem eqO_int : eqO S (.int i) (.int j) = some (decide (i = j)) := by
  simp [eqO, toPS, toP, PyData.eqv, PyData.depth]
  by_cases h : i = j <;> simp [h]
theorem toPs_int : ∀ ns : List Int, toPs (ns.map .int) = some (ns.map .int)
  | [] => rfl
  | n :: ns => by
    rw [List.map_cons, List.map_cons]
    unfold toPs
    rw [toPs_int ns]
    rfl
theorem depth_ints : ∀ ns : List Int, PyData.depthAll (ns.map .int) ≤ 1
  | [] => by simp [PyData.depthAll]
  | n :: ns => by
    have := depth_ints ns
    simp [PyData.depthAll, PyData.depth]
    omega
theorem eqv_ints : ∀ ns ms : List Int, PyData.eqvAll (ns.map .int) (ms.map .int) = decide (ns = ms)
  | [], [] => by simp [PyData.eqvAll]
  | [], m :: ms => by simp [PyData.eqvAll]
  | n :: ns, [] => by simp [PyData.eqvAll]
  | n :: ns, m :: ms => by
    rw [List.map_cons, List.map_cons, PyData.eqvAll, eqv_ints ns ms]
    simp [PyData.eqv]
    by_cases h : n = m <;> simp [h]
theorem eqO_ints {w w' : Bool} {ns ms : List Int} : eqO S (.tup w (ns.map .int)) (.tup w' (ms.map .int)) = some (decide (ns = ms)) := by
  have d := depth_ints ns
  have e : toPS S (.tup w (ns.map .int)) = some (.tuple (ns.map .int)) := by simp [toPS, toP, toPs_int]
  have e' : toPS S (.tup w' (ms.map .int)) = some (.tuple (ms.map .int)) := by simp [toPS, toP, toPs_int]
  simp only [eqO, e, e']
  rw [if_pos (by simp only [PyData.depth]; omega)]
  rw [PyData.eqv, eqv_ints]
@[simp] theorem dEq_int : dEq (.int i) (.int j) S = .ok (.bl (decide (i = j))) S := by simp only [dEq, eqO_int]
@[simp] theorem dNe_int : dNe (.int i) (.int j) S = .ok (.bl (decide (i ≠ j))) S := by
  simp only [dNe, eqO_int]
  simp
@[simp] theorem dEq_ints {w w' : Bool} {ns ms : List Int} : dEq (.tup w (ns.map .int)) (.tup w' (ms.map .int)) S = .ok (.bl (decide (ns = ms))) S := by simp only [dEq, eqO_ints]
@[simp] theorem dNe_ints {w w' : Bool} {ns ms : List Int} : dNe (.tup w (ns.map .int)) (.tup w' (ms.map .int)) S = .ok (.bl (decide (ns ≠ ms))) S := by
  simp only [dNe, eqO_ints]
  simp
theorem eqO_str {a b : Str} : eqO S (.str a) (.str b) = some (decide (a = b)) := by
  simp [eqO, toPS, toP, PyData.eqv, PyData.depth]
  by_cases h : a = b <;> simp [h]
@[simp] theorem dEq_str {a b : Str} : dEq (.str a) (.str b) S = .ok (.bl (decide (a = b))) S := by simp only [dEq, eqO_str]
@[simp] theorem dNe_str {a b : Str} : dNe (.str a) (.str b) S = .ok (.bl (decide (a ≠ b))) S := by
  simp only [dNe, eqO_str]
  simp
end
def turnsLeft (ix : Nat) (top : Int) (env : Env) : Nat := match env[ix]? with
  | some (some (EV.v (D.int y))) => (top - y).toNat
  | _ => 0
theorem at_ints {cells : List Int} {i : Int} (h0 : 0 ≤ i) (h1 : i < cells.length) : ∃ x : Int, atI (cells.map D.int) i = some (.int x) := by
  have hl : i.toNat < cells.length := by omega
  refine ⟨cells[i.toNat], ?_⟩
  unfold atI ixN
  rw [List.length_map, if_pos h0, if_pos h1]
  simp [hl]
def digs (B : Int) : Nat → Int → List Int
  | 0, _ => []
  | n + 1, x => x % B :: digs B n (x / B)
def val (B : Int) : List Int → Int
  | [] => 0
  | d :: ds => d + B * val B ds
theorem oTuple_obj {S : Sg} {k : Nat} {ds : List D} (h : S[k]? = some (.lst ds)) : oTuple [.obj k] S = .ok (.tup true ds) S := by
  unfold oTuple
  simp only [lstD_obj h]
@[simp] theorem oTuple_tup {S : Sg} {w : Bool} {ds : List D} : oTuple [.tup w ds] S = .ok (.tup w ds) S := id rfl
@[simp] theorem oTuple_il {S : Sg} {ds : List D} : oTuple [.il ds] S = .ok (.tup true ds) S := id rfl
@[simp] theorem oLen_tup {S : Sg} {w : Bool} {ds : List D} : oLen [.tup w ds] S = .ok (.int ds.length) S := id rfl
@[simp] theorem oLen_il {S : Sg} {ds : List D} : oLen [.il ds] S = .ok (.int ds.length) S := id rfl
@[simp] theorem iSeq_tup {S : Sg} {w : Bool} {ds : List D} : iSeq (.tup w ds) S = .ok ⟨ds, fun _ => True⟩ S := id rfl
@[simp] theorem iSeq_il {S : Sg} {ds : List D} : iSeq (.il ds) S = .ok ⟨ds, fun _ => True⟩ S := id rfl
theorem blsD_map (bs : List Bool) : blsD (bs.map .bl) = some bs := by
  induction bs with
  | nil => rfl
  | cons b bs ih => simp [blsD, ih]
@[simp] theorem isi_int_bool (x : Int) (S : Sg) : oIsi [(.int x), .ty "bool"] S = .ok (.bl false) S := id rfl
@[simp] theorem isi_int_int (x : Int) (S : Sg) : oIsi [(.int x), .ty "int"] S = .ok (.bl true) S := id rfl
@[simp] theorem isi_int_str (x : Int) (S : Sg) : oIsi [(.int x), .ty "str"] S = .ok (.bl false) S := id rfl
@[simp] theorem isi_int_tuple (x : Int) (S : Sg) : oIsi [(.int x), .ty "tuple"] S = .ok (.bl false) S := id rfl
@[simp] theorem isi_int_list (x : Int) (S : Sg) : oIsi [(.int x), .ty "list"] S = .ok (.bl false) S := id rfl
@[simp] theorem isi_int_dict (x : Int) (S : Sg) : oIsi [(.int x), .ty "dict"] S = .ok (.bl false) S := id rfl
@[simp] theorem isi_bl_bool (x : Bool) (S : Sg) : oIsi [(.bl x), .ty "bool"] S = .ok (.bl true) S := id rfl
@[simp] theorem isi_bl_int (x : Bool) (S : Sg) : oIsi [(.bl x), .ty "int"] S = .ok (.bl true) S := id rfl
@[simp] theorem isi_bl_str (x : Bool) (S : Sg) : oIsi [(.bl x), .ty "str"] S = .ok (.bl false) S := id rfl
@[simp] theorem isi_bl_tuple (x : Bool) (S : Sg) : oIsi [(.bl x), .ty "tuple"] S = .ok (.bl false) S := id rfl
@[simp] theorem isi_bl_list (x : Bool) (S : Sg) : oIsi [(.bl x), .ty "list"] S = .ok (.bl false) S := id rfl
@[simp] theorem isi_bl_dict (x : Bool) (S : Sg) : oIsi [(.bl x), .ty "dict"] S = .ok (.bl false) S := id rfl
@[simp] theorem isi_str_bool (x : Str) (S : Sg) : oIsi [(.str x), .ty "bool"] S = .ok (.bl false) S := id rfl
@[simp] theorem isi_str_int (x : Str) (S : Sg) : oIsi [(.str x), .ty "int"] S = .ok (.bl false) S := id rfl
@[simp] theorem isi_str_str (x : Str) (S : Sg) : oIsi [(.str x), .ty "str"] S = .ok (.bl true) S := id rfl
@[simp] theorem isi_str_tuple (x : Str) (S : Sg) : oIsi [(.str x), .ty "tuple"] S = .ok (.bl false) S := id rfl
@[simp] theorem isi_str_list (x : Str) (S : Sg) : oIsi [(.str x), .ty "list"] S = .ok (.bl false) S := id rfl
@[simp] theorem isi_str_dict (x : Str) (S : Sg) : oIsi [(.str x), .ty "dict"] S = .ok (.bl false) S := id rfl
@[simp] theorem isi_tup_bool (w : Bool) (x : List D) (S : Sg) : oIsi [(.tup w x), .ty "bool"] S = .ok (.bl false) S := id rfl
@[simp] theorem isi_tup_int (w : Bool) (x : List D) (S : Sg) : oIsi [(.tup w x), .ty "int"] S = .ok (.bl false) S := id rfl
@[simp] theorem isi_tup_str (w : Bool) (x : List D) (S : Sg) : oIsi [(.tup w x), .ty "str"] S = .ok (.bl false) S := id rfl
@[simp] theorem isi_tup_tuple (w : Bool) (x : List D) (S : Sg) : oIsi [(.tup w x), .ty "tuple"] S = .ok (.bl true) S := id rfl
@[simp] theorem isi_tup_list (w : Bool) (x : List D) (S : Sg) : oIsi [(.tup w x), .ty "list"] S = .ok (.bl false) S := id rfl
@[simp] theorem isi_tup_dict (w : Bool) (x : List D) (S : Sg) : oIsi [(.tup w x), .ty "dict"] S = .ok (.bl false) S := id rfl
@[simp] theorem isi_il_bool (x : List D) (S : Sg) : oIsi [(.il x), .ty "bool"] S = .ok (.bl false) S := id rfl
@[simp] theorem isi_il_int (x : List D) (S : Sg) : oIsi [(.il x), .ty "int"] S = .ok (.bl false) S := id rfl
@[simp] theorem isi_il_str (x : List D) (S : Sg) : oIsi [(.il x), .ty "str"] S = .ok (.bl false) S := id rfl
@[simp] theorem isi_il_tuple (x : List D) (S : Sg) : oIsi [(.il x), .ty "tuple"] S = .ok (.bl false) S := id rfl
@[simp] theorem isi_il_list (x : List D) (S : Sg) : oIsi [(.il x), .ty "list"] S = .ok (.bl true) S := id rfl
@[simp] theorem isi_il_dict (x : List D) (S : Sg) : oIsi [(.il x), .ty "dict"] S = .ok (.bl false) S := id rfl
@[simp] theorem isi_non_bool  (S : Sg) : oIsi [.non, .ty "bool"] S = .ok (.bl false) S := id rfl
@[simp] theorem isi_non_int  (S : Sg) : oIsi [.non, .ty "int"] S = .ok (.bl false) S := id rfl
@[simp] theorem isi_non_str  (S : Sg) : oIsi [.non, .ty "str"] S = .ok (.bl false) S := id rfl
@[simp] theorem isi_non_tuple  (S : Sg) : oIsi [.non, .ty "tuple"] S = .ok (.bl false) S := id rfl
@[simp] theorem isi_non_list  (S : Sg) : oIsi [.non, .ty "list"] S = .ok (.bl false) S := id rfl
@[simp] theorem isi_non_dict  (S : Sg) : oIsi [.non, .ty "dict"] S = .ok (.bl false) S := id rfl
@[simp] theorem at_last {α : Type} (l : List α) (x : α) : atI (l ++ [x]) (-1) = some x := by
  unfold atI ixN
  rw [if_neg (by omega), if_pos (by simp; omega)]
  show (l ++ [x])[((-1 : Int) + ((l ++ [x]).length : Nat)).toNat]? = some x
  have : ((-1 : Int) + ((l ++ [x]).length : Nat)).toNat = l.length := by simp; omega
  rw [this]
  simp
theorem at_nat {α : Type} (l : List α) (k : Nat) : atI l (k : Int) = l[k]? := by
  unfold atI ixN
  by_cases h : k < l.length
  · simp [h]
  · rw [if_pos (by omega), if_neg (by omega), List.getElem?_eq_none (by omega)]
    rfl
theorem frees_map {α : Type} {f : α → D} : ∀ xs : List α, (∀ x ∈ xs, (f x).free = true) → D.frees (xs.map f) = true
  | [], _ => rfl
  | x :: xs, h => by
    rw [List.map_cons, D.frees, h x List.mem_cons_self, frees_map xs fun y hy => h y (List.mem_cons_of_mem _ hy)]
    rfl
theorem blsD_mapf {α : Type} (f : α → Bool) (xs : List α) : blsD (xs.map fun x => .bl (f x)) = some (xs.map f) := by
  have := blsD_map (xs.map f)
  rwa [List.map_map] at this
theorem oAll_map {α : Type} (f : α → Bool) (xs : List α) (S : Sg) : oAll [.il (xs.map fun x => .bl (f x))] S = .ok (.bl (xs.all f)) S := by
  unfold oAll
  simp only [lstD, Option.bind_some, blsD_mapf]
  simp
@[simp] theorem fChain_e {o o' : D → D → Sg → Res D} {fa fb fc : FE} {env : Env} {S : Sg} : fChain o o' fa fb fc env S = (fa env S).bind fun x S1 => (fb env S1).bind fun y S2 => (o x y S2).bind fun k S3 => match k with
  | .bl true => (fc env S3).bind fun z S4 => o' y z S4
  | .bl false => .ok (.bl false) S3
  | _ => .st := id rfl
theorem fLc_mapf {α : Type} {own : List Nat} {fi : FI} {T : Tg} {fe : FE} {env : Env} {S S1 : Sg} {k : α → D} {xs : List α} (h : α → D) (hi : fi env S = .ok ⟨xs.map k, fun _ => True⟩ S1) (hx : noExc env = true)
    (hd : ∀ x ∈ xs, ∃ env1, T.f (k x) (wipeE env own) = some env1 ∧ ∀ T, fe env1 (S1 ++ T) = .ok (h x) (S1 ++ T)) (hl : xs.length ≤ sizeLine) (hf : ∀ x ∈ xs, (h x).free = true) :
    fLc true own fi T fYes fe env S = .ok (.il (xs.map h)) S1 := by
  unfold fLc
  rw [hi]
  simp only [Res.bind_ok, hx, if_true]
  have key : ∀ (xs : List α) (acc : List D), (∀ x ∈ xs, ∃ env1, T.f (k x) (wipeE env own) = some env1 ∧ ∀ T, fe env1 (S1 ++ T) = .ok (h x) (S1 ++ T)) → acc.length + xs.length ≤ sizeLine →
      lcL (fun _ => True) T.f fYes fe (wipeE env own) S1.length (xs.map k) (S1 ++ [.lst acc]) = .ok () (S1 ++ [.lst (acc ++ xs.map h)]) := by
    intro xs
    induction xs with
    | nil => intro acc _ _; simp [lcL]
    | cons x xs ih =>
      intro acc hd hl
      obtain ⟨env1, e1, e2⟩ := hd x List.mem_cons_self
      rw [List.length_cons] at hl
      have ih := ih (acc ++ [h x]) (fun y hy => hd y (List.mem_cons_of_mem _ hy)) (by simp; omega)
      rw [List.append_assoc] at ih
      rw [List.map_cons]
      unfold lcL
      rw [if_pos trivial, e1]
      simp only [fYes, Res.quiet, Res.bind_ok, if_true, e2, last_get, last_set]
      rw [if_pos (by omega)]
      exact ih
  rw [key xs [] hd (by simpa using hl)]
  simp [lcEnd, frees_map xs hf]
@[simp] theorem unbind_nx (env : Env) (S : Sg) (i : Nat) : (SR.nx env S).unbind i = if noExc (env.set i none) = true then .nx (env.set i none) S else .st := id rfl
@[simp] theorem oInt_bl (b : Bool) (S : Sg) : oInt [.bl b] S = .ok (.int (if b = true then 1 else 0)) S := id rfl
@[simp] theorem oInt_int (i : Int) (S : Sg) : oInt [.int i] S = .ok (.int i) S := id rfl
@[simp] theorem noExc_nil : noExc [] = true := rfl
def sl (x : Option D) : Option EV := x.map .v
@[simp] theorem dNe_tups {w w' : Bool} {a b c d e f : Int} {S : Sg} : dNe (.tup w [.int a, .int b, .int c]) (.tup w' [.int d, .int e, .int f]) S = .ok (.bl (decide ([a, b, c] ≠ [d, e, f]))) S := dNe_ints (ns := [a, b, c]) (ms := [d, e, f])
@[simp] theorem iRange_2 {S : Sg} : iRange1 [.int 2] S = .ok ⟨rangeD 0 1 2, fun _ => True⟩ S := range1 (j := 2) (by omega) (by omega)
@[simp] theorem sl_some (d : D) : sl (some d) = some (.v d) := rfl
@[simp] theorem sl_none : sl none = none := rfl
@[simp] theorem at_0 {α : Type} (x0 : α) (l : List α) : atI (x0 :: l) 0 = some x0 := at_nat _ 0
@[simp] theorem at_1 {α : Type} (x0 x1 : α) (l : List α) : atI (x0 :: x1 :: l) 1 = some x1 := at_nat _ 1
@[simp] theorem at_2 {α : Type} (x0 x1 x2 : α) (l : List α) : atI (x0 :: x1 :: x2 :: l) 2 = some x2 := at_nat _ 2
@[simp] theorem at_3 {α : Type} (x0 x1 x2 x3 : α) (l : List α) : atI (x0 :: x1 :: x2 :: x3 :: l) 3 = some x3 := at_nat _ 3
@[simp] theorem at_4 {α : Type} (x0 x1 x2 x3 x4 : α) (l : List α) : atI (x0 :: x1 :: x2 :: x3 :: x4 :: l) 4 = some x4 := at_nat _ 4
@[simp] theorem at_5 {α : Type} (x0 x1 x2 x3 x4 x5 : α) (l : List α) : atI (x0 :: x1 :: x2 :: x3 :: x4 :: x5 :: l) 5 = some x5 := at_nat _ 5
@[simp] theorem at_6 {α : Type} (x0 x1 x2 x3 x4 x5 x6 : α) (l : List α) : atI (x0 :: x1 :: x2 :: x3 :: x4 :: x5 :: x6 :: l) 6 = some x6 := at_nat _ 6
@[simp] theorem at_7 {α : Type} (x0 x1 x2 x3 x4 x5 x6 x7 : α) (l : List α) : atI (x0 :: x1 :: x2 :: x3 :: x4 :: x5 :: x6 :: x7 :: l) 7 = some x7 := at_nat _ 7
@[simp] theorem at_8 {α : Type} (x0 x1 x2 x3 x4 x5 x6 x7 x8 : α) (l : List α) : atI (x0 :: x1 :: x2 :: x3 :: x4 :: x5 :: x6 :: x7 :: x8 :: l) 8 = some x8 := at_nat _ 8
@[simp] theorem at_9 {α : Type} (x0 x1 x2 x3 x4 x5 x6 x7 x8 x9 : α) (l : List α) : atI (x0 :: x1 :: x2 :: x3 :: x4 :: x5 :: x6 :: x7 :: x8 :: x9 :: l) 9 = some x9 := at_nat _ 9
@[simp] theorem at_10 {α : Type} (x0 x1 x2 x3 x4 x5 x6 x7 x8 x9 x10 : α) (l : List α) : atI (x0 :: x1 :: x2 :: x3 :: x4 :: x5 :: x6 :: x7 :: x8 :: x9 :: x10 :: l) 10 = some x10 := at_nat _ 10
@[simp] theorem at_11 {α : Type} (x0 x1 x2 x3 x4 x5 x6 x7 x8 x9 x10 x11 : α) (l : List α) : atI (x0 :: x1 :: x2 :: x3 :: x4 :: x5 :: x6 :: x7 :: x8 :: x9 :: x10 :: x11 :: l) 11 = some x11 := at_nat _ 11
def tb (x y : Int) (j : Nat) : Int := x / 2 ^ j % 2 + y / 2 ^ j % 2
def nx (t : Nat → Int) : Nat → Nat → Nat
  | 0, q => q
  | r + 1, q => if t q = 1 then nx t r (q + 1) else q
@[simp] theorem is_int (i : Int) (S : Sg) : dIs (.int i) .non S = .ok (.bl false) S := id rfl
@[simp] theorem is_non (S : Sg) : dIs .non .non S = .ok (.bl true) S := id rfl
@[simp] theorem oMin_e (i j : Int) (S : Sg) : oMin [.int i, .int j] S = .ok (.int (if j < i then j else i)) S := id rfl
theorem iSeq_obj {S : Sg} {k : Nat} {ds : List D} (h : S[k]? = some (.lst ds)) : iSeq (.obj k) S = .ok ⟨ds, fun S => S[k]? = some (.lst ds)⟩ S := by
  unfold iSeq
  simp only [lstD_obj h]
  rfl
@[simp] theorem app_get {α : Type} (S l : List α) (k : Nat) : (S ++ l)[S.length + k]? = l[k]? := by
  rw [List.getElem?_append_right (by omega)]
  congr 1
  omega
@[simp] theorem app_get0 {α : Type} (S : List α) (a : α) (l : List α) : (S ++ a :: l)[S.length]? = some a := by
  have := app_get S (a :: l) 0
  simpa using this
@[simp] theorem app_set {α : Type} (S l : List α) (k : Nat) (x : α) : (S ++ l).set (S.length + k) x = S ++ l.set k x := by
  rw [List.set_append_right _ _ (by omega)]
  congr 2
  omega
@[simp] theorem app_set0 {α : Type} (S : List α) (a : α) (l : List α) (x : α) : (S ++ a :: l).set S.length x = S ++ x :: l := by
  have := app_set S (a :: l) 0 x
  simpa using this
@[simp] theorem unbind_rt (d : D) (S : Sg) (i : Nat) : (SR.rt d S).unbind i = .rt d S := id rfl
theorem add_objs {S : Sg} {k l : Nat} {xs ys : List D} (h1 : S[k]? = some (.lst xs)) (h2 : S[l]? = some (.lst ys)) (hl : xs.length + ys.length ≤ sizeLine) : dAdd (.obj k) (.obj l) S = .ok (.obj S.length) (S ++ [.lst (xs ++ ys)]) := by
  unfold dAdd
  simp only [h1, h2, if_pos hl]
@[simp] theorem add_tups {S : Sg} {w u : Bool} {xs ys : List D} : dAdd (.tup w xs) (.tup u ys) S = if xs.length + ys.length ≤ sizeLine then .ok (.tup (w && u) (xs ++ ys)) S else .st := id rfl
@[simp] theorem add_strs {S : Sg} {x y : Str} : dAdd (.str x) (.str y) S = if x.length + y.length ≤ sizeLine then .ok (.str (x ++ y)) S else .st := id rfl
end G
namespace G
@[simp] theorem lowR_ok (d : D) (S : Sg) : lowR (.ok d S) = .ok d.low S := id rfl
@[simp] theorem lowR_er (x : PySem.Str) (S : Sg) : lowR (.er x S) = .er x S := id rfl
@[simp] theorem lowR_st : lowR .st = .st := id rfl
@[simp] theorem low_tup (w : Bool) (ds : List D) : (D.tup w ds).low = .tup false (D.lows ds) := id rfl
@[simp] theorem low_int (i : Int) : (D.int i).low = .int i := id rfl
@[simp] theorem low_str (i : PySem.Str) : (D.str i).low = .str i := id rfl
@[simp] theorem low_bl (i : Bool) : (D.bl i).low = .bl i := id rfl
@[simp] theorem low_non : D.non.low = .non := id rfl
@[simp] theorem low_obj (k : Nat) : (D.obj k).low = .obj k := id rfl
@[simp] theorem lows_nil : D.lows [] = [] := id rfl
@[simp] theorem lows_cons (d : D) (ds : List D) : D.lows (d :: ds) = d.low :: D.lows ds := id rfl
end G
namespace G
open PySem PySem.Spec L2
open Classical in
noncomputable def fgt (S : Sg) (r : Res D) : Res D := match r with
  | .ok d S' => if d.free = true ∧ ∃ G, S' = S ++ G then .ok d S else .ok d S'
  | .er x S' => if ∃ G, S' = S ++ G then .er x S else .er x S'
  | .st => .st
theorem weak_fgt {S : Sg} {r : Res D} : Weak S r (fgt S r) := by
  cases r with
  | ok d S' =>
    unfold fgt
    dsimp only
    split
    · rename_i h
      obtain ⟨hf, G, rfl⟩ := h
      exact weak_ok G rfl hf
    · exact weak_eq rfl
  | er x S' =>
    unfold fgt
    dsimp only
    split
    · rename_i h
      obtain ⟨G, rfl⟩ := h
      exact weak_er G rfl
    · exact weak_eq rfl
  | st => exact weak_st
theorem fgt_ok {S : Sg} {r : Res D} {d : D} (G : Sg) (h : r = .ok d (S ++ G)) (hf : d.free = true) : fgt S r = .ok d S := by
  subst h
  unfold fgt
  exact if_pos ⟨hf, G, rfl⟩
theorem fgt_ex {S : Sg} {r : Res D} {d : D} (h : ∃ G, r = .ok d (S ++ G)) (hf : d.free = true) : fgt S r = .ok d S := by
  obtain ⟨G, h⟩ := h
  exact fgt_ok G h hf
@[simp] theorem p1040 {S : Sg} : dPow (.int 10) (.int 40) S = .ok (.int (10 ^ 40)) S := by rw [dPow_e, if_pos (by decide)]; rfl
@[simp] theorem oAbs_e (i : Int) (S : Sg) : oAbs [.int i] S = .ok (.int (if i < 0 then -i else i)) S := id rfl
theorem cut_1 {w : Bool} {d : D} {ds : List D} {S : Sg} : dCut (.tup w (d :: ds)) (some 1) none S = .ok (.tup w ds) S := by
  show Res.ok (D.tup w (cutD (d :: ds) (some 1) none)) S = _
  have : cutD (d :: ds) (some 1) none = ds := by
    unfold cutD HT.sIx
    simp
  rw [this]
@[simp] theorem fCut_e {f : FE} {l h : FO} {env : Env} {S : Sg} : fCut f l h env S = (f env S).bind fun d S => (l env S).bind fun lo S => (h env S).bind fun hi S => dCut d lo hi S := id rfl
@[simp] theorem fO0_e {env : Env} {S : Sg} : fO0 env S = .ok none S := id rfl
@[simp] theorem fO1_e {f : FE} {env : Env} {S : Sg} : fO1 f env S = (f env S).bind fun d S => match d with
  | .int i => .ok (some i) S
  | _ => .st := id rfl
def tyO : Option MO → Option String
  | some (.lst _) => some "list"
  | some (.dK _) => some "dict"
  | some (.dT _) => some "dict"
  | _ => none
section
variable {S : Sg} {k l : Nat} {y z i d : D} {xs ys : List D} {n m : Str} {fs : List (Str × D)} {kv : List (Key × D)} {kt : List (List Key × D)}
theorem tyM_o : tyM S (.obj k) = tyO S[k]? := by
  unfold tyM tyO
  rfl
@[simp] theorem tyO_l : tyO (some (.lst xs)) = some "list" := id rfl
@[simp] theorem tyO_k : tyO (some (.dK kv)) = some "dict" := id rfl
@[simp] theorem tyO_t : tyO (some (.dT kt)) = some "dict" := id rfl
@[simp] theorem fInv_e {env : Env} {n m : Str} {F : Fn} {fo : FE} {fs : FL} : fInv n m F fo fs env S = (fo env S).bind fun o S => match insD S n o with
  | some (_, fl) => if (fl.lookup m).isNone = true then (fs env S).bind fun ds S => F (o :: ds) S else .st
  | none => .st := id rfl
@[simp] theorem fCallV_e {env : Env} {T : List (Str × Fn)} {fe : FE} {fs : FL} : fCallV T fe fs env S = (fe env S).bind fun f S => (fs env S).bind fun ds S => match f with
  | .fn x => match T.lookup x with
    | some F => F ds S
    | none => .st
  | _ => .st := id rfl
@[simp] theorem fOnly_e {env : Env} {T : List (Str × Fn)} {fe : FE} : fOnly T fe env S = (fe env S).bind fun f S => match f with
  | .fn x => if (T.lookup x).isSome = true then .ok f S else .st
  | _ => .st := id rfl
@[simp] theorem fCallK_e {env : Env} {F : Fn} {is : List Nat} {dfl : List D} {fs fks : FL} : fCallK F is dfl fs fks env S = (fs env S).bind fun vs S => (fks env S).bind fun zs S => F (pick is (vs ++ (dfl ++ zs))) S := id rfl
@[simp] theorem dInK_e {x : Str} {ks : List Str} {ds : List D} : dInK (.str x) (.kd ks ds) S = .ok (.bl (lookK x ks ds).isSome) S := id rfl
@[simp] theorem dIxK_e {x : Str} {ks : List Str} {ds : List D} : dIxK (.kd ks ds) (.str x) S = oK (lookK x ks ds) S := by
  unfold dIxK
  dsimp only
  cases lookK x ks ds <;> rfl
end
structure Ix where
  c : Int
  i : Int
  j : Int
  m : Int
inductive UnOp where
  | move | bare | twice | half
inductive BiOp where
  | sum | less | both | any | odd
inductive Row (κ : Type) where
  | set (to : κ) (d : Int) | mark (d : Int) | ask (x : κ) | un (o : UnOp) (to x : κ) | bi (o : BiOp) (to x y : κ) | times (lo hi x y : κ)
abbrev TC := Str × Ix
abbrev PC := Str × Int
def UnOp.t : UnOp → Str
  | .move => "move"
  | .bare => "bare"
  | .twice => "twice"
  | .half => "half"
def BiOp.t : BiOp → Str
  | .sum => "sum"
  | .less => "less"
  | .both => "both"
  | .any => "any"
  | .odd => "odd"
inductive Thing where
  | slice (l : Str) (a b : Ix) | mark
structure Term where
  f : Int
  e0 : Int
  e1 : Int
  e2 : Int
  e3 : Int
  e4 : Int
  e5 : Int
  th : List Thing
structure Cnt where
  c : Int
  m : Int
  t : Int
inductive Inner where
  | row (r : Row TC) | rounds (n : Cnt) (s : List Term) (ps : List (Row TC))
inductive Part where
  | row (r : Row TC) | rounds (n : Cnt) (s : List Term) (ps : List Inner)
def encIx (a : Ix) : D := .tup false [.int a.c, .int a.i, .int a.j, .int a.m]
def encTC (a : TC) : D := .tup false [.str a.1, encIx a.2]
def encRow {κ : Type} (w : Bool) (e : κ → D) : Row κ → D
  | .set to d => .tup w [.str "set", e to, .int d]
  | .mark d => .tup w [.str "mark", .int d]
  | .ask x => .tup w [.str "ask", e x]
  | .un o to x => .tup w [.str o.t, e to, e x]
  | .bi o to x y => .tup w [.str o.t, e to, e x, e y]
  | .times lo hi x y => .tup w [.str "times", e lo, e hi, e x, e y]
def encThing : Thing → D
  | .slice l a b => .tup false [.str "slice", .str l, encIx a, encIx b]
  | .mark => .tup false [.str "mark"]
def encTerm (t : Term) : D := .tup false [.int t.f, .tup false [.int t.e0, .int t.e1, .int t.e2, .int t.e3, .int t.e4, .int t.e5], .tup false (t.th.map encThing)]
def encSen (s : List Term) : D := .tup false (s.map encTerm)
def encCnt (n : Cnt) : D := .tup false [.int n.c, .int n.m, .int n.t]
def encDeep (r : Row TC) : D := .tup false [.str "row", encRow false encTC r]
def encInner : Inner → D
  | .row r => .tup false [.str "row", encRow false encTC r]
  | .rounds n s ps => .tup false [.str "rounds", encCnt n, encSen s, .tup false (ps.map encDeep)]
def encPart : Part → D
  | .row r => .tup false [.str "row", encRow false encTC r]
  | .rounds n s ps => .tup false [.str "rounds", encCnt n, encSen s, .tup false (ps.map encInner)]
def encPs (ps : List Part) : D := .tup false (ps.map encPart)
def Ix.at (a : Ix) (n i j : Int) : Int := a.c + a.i * i + a.j * j + a.m * n
def TC.at (a : TC) (n i j : Int) : PC := (a.1, a.2.at n i j)
def Row.map {κ μ : Type} (f : κ → μ) : Row κ → Row μ
  | .set to d => .set (f to) d
  | .mark d => .mark d
  | .ask x => .ask (f x)
  | .un o to x => .un o (f to) (f x)
  | .bi o to x y => .bi o (f to) (f x) (f y)
  | .times lo hi x y => .times (f lo) (f hi) (f x) (f y)
def Cnt.at (k : Cnt) (w n : Int) : Int := k.c + k.m * n + k.t * w * n
structure Mc where
  f : PC → Int
  m : Int
def Mc.put (s : Mc) (c : PC) (v : Int) : Mc := ⟨fun a => if a = c then v else s.f a, s.m⟩
def stepU (W : Int) (o : UnOp) (to x : PC) (s : Mc) : Mc := match o with
  | .move => s.put to (s.f x)
  | .bare => s.put to (W - 1 - s.f x)
  | .twice => ⟨(s.put to ((2 * s.f x + s.m) % W)).f, (2 * s.f x + s.m) / W⟩
  | .half => ⟨(s.put to (s.f x / 2 + s.m * (W / 2))).f, s.f x % 2⟩
def stepB (W : Int) (o : BiOp) (to x y : PC) (s : Mc) : Mc := match o with
  | .sum => ⟨(s.put to ((s.f x + s.f y + s.m) % W)).f, (s.f x + s.f y + s.m) / W⟩
  | .less => ⟨(s.put to ((s.f x - s.f y - s.m) % W)).f, if s.f x - s.f y - s.m < 0 then 1 else 0⟩
  | .both => s.put to (Builtin.bitAnd (s.f x) (s.f y))
  | .any => s.put to (Builtin.bitOr (s.f x) (s.f y))
  | .odd => s.put to (Builtin.bitXor (s.f x) (s.f y))
def step (W : Int) (s : Mc) : Row PC → Mc
  | .set to d => s.put to d
  | .mark d => ⟨s.f, d⟩
  | .ask x => ⟨s.f, if s.f x ≠ 0 then 1 else 0⟩
  | .un o to x => stepU W o to x s
  | .bi o to x y => stepB W o to x y s
  | .times lo hi x y => (s.put lo (s.f x * s.f y % W)).put hi (s.f x * s.f y / W)
def keyC (c : PC) : List Key := [.inr c.1, .inl c.2]
@[simp] theorem keysC (c : PC) : keysD [.str c.1, .int c.2] = some (keyC c) := id rfl
def cl (l : Str) (c i j m : Int) : TC := (l, ⟨c, i, j, m⟩)
def zC : TC := cl "z" 0 0 0 0
def tC : TC := cl "t" 0 0 0 0
def timesN (rs : List (Row TC)) (s : List Term) : Part := .rounds ⟨0, 1, 0⟩ s (rs.map .row)
def markTo (a : Int) : List Part := [.row (.bi .sum (cl "m" a 0 0 0) zC zC)]
def bareMarkTo (a : Int) : List Part := [.row (.set (cl "u" 0 0 0 0) 1), .row (.bi .less (cl "m" a 0 0 0) (cl "u" 0 0 0 0) zC)]
def endsT (l : Str) (c m : Int) : List Part :=
  [.row (.set tC 0), .rounds ⟨c, m, 0⟩ [] [.row (.bi .any tC tC (cl l 0 1 0 0))], .row (.ask tC)] ++ bareMarkTo 2 ++ [.row (.mark 0), .row (.un .twice tC (cl l (c - 1) 0 0 m))] ++ markTo 3
@[simp] theorem ofString_inj {a b : String} : Str.ofString a = Str.ofString b ↔ a = b := by
  constructor
  · intro h
    rw [Str.ofString_eq_toList, Str.ofString_eq_toList] at h
    have h2 : a.toList.map Char.toNat = b.toList.map Char.toNat := by
      have := congrArg (fun s : Str => s.cps.toList) h
      simpa using this
    have h4 : ∀ x y : List Char, x.map Char.toNat = y.map Char.toNat → x = y := by
      intro x
      induction x with
      | nil => intro y q; cases y with
        | nil => rfl
        | cons _ _ => simp at q
      | cons c x ih => intro y q; cases y with
        | nil => simp at q
        | cons d y =>
          simp only [List.map_cons, List.cons.injEq] at q
          rw [ih y q.2, Char.ext (UInt32.toNat_inj.mp q.1)]
    have h3 : a.toList = b.toList := h4 _ _ h2
    exact String.toList_inj.mp h3
  · intro h; rw [h]
example : Str.ofString "sum" = Str.ofString "difference" ↔ False := by simp
@[simp] theorem lookK_nil {x : Str} {ds : List D} : lookK x [] ds = none := by unfold lookK; rfl
@[simp] theorem lookK_cons {x k : Str} {ks : List Str} {d : D} {ds : List D} : lookK x (k :: ks) (d :: ds) = if k = x then some d else lookK x ks ds := by
  rw [lookK]
def abc : List Str := ["a", "b", "c", "d", "e", "f", "g", "h", "i", "j", "k", "l", "m", "n", "o", "p", "q", "r", "s", "t", "u", "v", "w", "x", "y", "z"]
def okL (l : Str) : Bool := abc.contains l
theorem okL_mem {l : Str} (h : okL l = true) : l ∈ abc := by simpa [okL] using h
theorem abc_len {l : Str} (h : okL l = true) : l.length = 1 := by
  have : ∀ l ∈ abc, l.length = 1 := by decide +kernel
  exact this l (okL_mem h)
theorem abc_in {l : Str} (h : okL l = true) (S : Sg) : dIn (.str l) (.str "abcdefghijklmnopqrstuvwxyz") S = .ok (.bl true) S := by
  have : ∀ l ∈ abc, inO [] (.str l) (.str "abcdefghijklmnopqrstuvwxyz") = some true := by decide +kernel
  have h2 := this l (okL_mem h)
  show (match inO [] (.str l) (.str "abcdefghijklmnopqrstuvwxyz") with | some k => Res.ok (D.bl k) S | none => .st) = _
  rw [h2]
def okN (d : Int) : Bool := decide (-200 ≤ d) && decide (d ≤ 200)
def okIx (a : Ix) : Bool := okN a.c && okN a.i && okN a.j && okN a.m
def okTC (a : TC) : Bool := okL a.1 && okIx a.2
def bit1 (d : Int) : Bool := decide (d = 0) || decide (d = 1)
def eqTC (a b : TC) : Bool := decide (a.1 = b.1) && (decide (a.2.c = b.2.c) && (decide (a.2.i = b.2.i) && (decide (a.2.j = b.2.j) && decide (a.2.m = b.2.m))))
def okRow : Row TC → Bool
  | .set to d => okTC to && bit1 d
  | .mark d => bit1 d
  | .ask x => okTC x
  | .un _ to x => okTC to && okTC x
  | .bi _ to x y => okTC to && (okTC x && okTC y)
  | .times lo hi x y => okTC lo && (okTC hi && (okTC x && (okTC y && !eqTC lo hi)))
def okThing : Thing → Bool
  | .slice l a b => okL l && (okIx a && okIx b)
  | .mark => true
def okTerm (t : Term) : Bool := decide (-(10 ^ 40) < t.f) && decide (t.f < 10 ^ 40) && okN t.e0 && okN t.e1 && okN t.e2 && okN t.e3 && okN t.e4 && okN t.e5 && decide (t.th.length ≤ 2) && t.th.all okThing
def okSen (s : List Term) : Bool := decide (s.length ≤ 20) && s.all okTerm
def okCnt (n : Cnt) : Bool := okN n.c && okN n.m && okN n.t
def okInner : Inner → Bool
  | .row r => okRow r
  | .rounds n s ps => okCnt n && okSen s && decide (ps.length ≤ 500) && ps.all okRow
def okPart : Part → Bool
  | .row r => okRow r
  | .rounds n s ps => okCnt n && okSen s && decide (ps.length ≤ 500) && ps.all okInner
def okPs (ps : List Part) : Bool := decide (ps.length ≤ 500) && ps.all okPart
theorem okN_r {d : Int} (h : okN d = true) : -200 ≤ d ∧ d ≤ 200 := by simpa [okN] using h
theorem eqO_tc (a b : TC) (S : Sg) : eqO S (encTC a) (encTC b) = some (eqTC a b) := by
  simp [eqO, toPS, toP, toPs, encTC, encIx, PyData.depth, PyData.depthAll, PyData.eqv, PyData.eqvAll, eqTC]
  rfl
theorem forL_foldC {α β γ : Type} {h : α → D} {f : FG} {g : FS} {step : β → α → β} {P : Sg → Prop} (E : β → γ → Env) (T : β → γ → Sg) (hP : ∀ b y, P (T b y)) (Q : List α → β → Prop)
    (hs : ∀ x xs b y, Q (x :: xs) b → Q xs (step b x) ∧ ∃ env1, f (h x) (E b y) = some env1 ∧ ∃ y', g env1 (T b y) = .nx (E (step b x) y') (T (step b x) y')) :
    ∀ (xs : List α) (b : β) (y : γ), Q xs b → ∃ y', forL P f g (xs.map h) (E b y) (T b y) = .nx (E (xs.foldl step b) y') (T (xs.foldl step b) y')
  | [], b, y, _ => ⟨y, if_pos (hP b y)⟩
  | x :: xs, b, y, hq => by
    obtain ⟨q2, env1, e1, y', e2⟩ := hs x xs b y hq
    obtain ⟨y2, e3⟩ := forL_foldC E T hP Q hs xs (step b x) y' q2
    refine ⟨y2, ?_⟩
    rw [List.map_cons]
    unfold forL
    rw [if_pos (hP b y), e1]
    simp only [e2]
    exact e3
theorem forL_pass {α γ : Type} {h : α → D} {f : FG} {g : FS} {P : Sg → Prop} (E : γ → Env) (S : Sg) (hP : P S) (xs : List α) (y : γ)
    (hs : ∀ x ∈ xs, ∀ y, ∃ env1, f (h x) (E y) = some env1 ∧ ∃ y', g env1 S = .nx (E y') S) :
    ∃ y', forL P f g (xs.map h) (E y) S = .nx (E y') S := by
  obtain ⟨y', e⟩ := forL_foldC (step := fun (_ : Unit) _ => ()) (fun _ y => E y) (fun _ _ => S) (fun _ _ => hP) (fun zs _ => ∀ x ∈ zs, ∀ y, ∃ env1, f (h x) (E y) = some env1 ∧ ∃ y', g env1 S = .nx (E y') S)
    (fun x zs b y hq => ⟨fun z hz => hq z (List.mem_cons_of_mem _ hz), hq x List.mem_cons_self y⟩) xs () y hs
  exact ⟨y', e⟩
theorem strLen {l : Str} {S : Sg} (h : l.length ≤ sizeLine) : oLen [.str l] S = .ok (.int l.length) S := by
  simp only [oLen, lenD, if_pos h]
theorem in01 (d : Int) (S : Sg) : dIn (.int d) (.tup true [.int 0, .int 1]) S = .ok (.bl (bit1 d)) S := by
  have : inO S (.int d) (.tup true [.int 0, .int 1]) = some (bit1 d) := by
    by_cases h0 : d = 0 <;> by_cases h1 : d = 1 <;>
    simp [inO, seqD, toPs, toP, PyData.depth, PyData.depthAll, PyData.eqv, bit1, h0, h1] <;> omega
  show (match inO S (.int d) (.tup true [.int 0, .int 1]) with | some k => Res.ok (D.bl k) S | none => .st) = _
  rw [this]
theorem dNe_tc (a b : TC) (S : Sg) : dNe (encTC a) (encTC b) S = .ok (.bl (!eqTC a b)) S := by unfold dNe; rw [eqO_tc]
def Row.nm {κ : Type} : Row κ → Str
  | .set _ _ => "set"
  | .mark _ => "mark"
  | .ask _ => "ask"
  | .un o _ _ => o.t
  | .bi o _ _ _ => o.t
  | .times _ _ _ _ => "times"
theorem ix_small {a : Ix} (h : okIx a = true) : (-200 ≤ a.c ∧ a.c ≤ 200) ∧ (-200 ≤ a.i ∧ a.i ≤ 200) ∧ (-200 ≤ a.j ∧ a.j ≤ 200) ∧ (-200 ≤ a.m ∧ a.m ≤ 200) := by
  simp only [okIx, Bool.and_eq_true] at h
  exact ⟨okN_r h.1.1.1, okN_r h.1.1.2, okN_r h.1.2, okN_r h.2⟩
def beg (l : Str) : Nat → List Int → Mc → Mc
  | _, [], s => s
  | k, d :: ds, s => beg l (k + 1) ds (s.put (l, (k : Int)) d)
theorem beg_m (l : Str) : ∀ (k : Nat) (ds : List Int) (s : Mc), (beg l k ds s).m = s.m
  | _, [], _ => rfl
  | k, d :: ds, s => by rw [beg, beg_m l]; rfl
def begun (w n : Nat) (x y : Int) : Mc := beg "b" 0 (digs (2 ^ w) n y) (beg "a" 0 (digs (2 ^ w) n x) ⟨fun _ => 0, 0⟩)
@[simp] theorem put_f (s : Mc) (c : PC) (v : Int) (a : PC) : (s.put c v).f a = if a = c then v else s.f a := rfl
@[simp] theorem put_m (s : Mc) (c : PC) (v : Int) : (s.put c v).m = s.m := rfl
@[simp] theorem begun_m (w n : Nat) (x y : Int) : (begun w n x y).m = 0 := by
  unfold begun
  rw [beg_m, beg_m]
@[simp] theorem ofString_beq {a b : String} : ((Str.ofString a : Str) == Str.ofString b) = (a == b) := by
  rw [Bool.eq_iff_iff, beq_iff_eq, beq_iff_eq, ofString_inj]
theorem St_last (c : StC) (G : Sg) (m : MO) : (St c (G ++ [m]))[(St c G).length]? = some m := last_get (St c G) m
theorem St_lset (c : StC) (G : Sg) (m m' : MO) : (St c (G ++ [m])).set (St c G).length m' = St c (G ++ [m']) := last_set (St c G) m m'
end G
set_option maxHeartbeats 4000000
namespace G
open PySem PySem.Spec L2
def pC : TC := cl "p" 0 0 0 0
def gC : TC := cl "g" 0 0 0 0
theorem lows_map {α : Type} {f : α → D} : ∀ {l : List α}, (∀ a ∈ l, (f a).low = f a) → D.lows (l.map f) = l.map f
  | [], _ => rfl
  | a :: l, h => by
    rw [List.map_cons, D.lows, h a List.mem_cons_self, lows_map fun b hb => h b (List.mem_cons_of_mem _ hb)]
theorem low_row (r : Row TC) : (encRow false encTC r).low = encRow false encTC r := by cases r <;> rfl
theorem low_sen (s : List Term) : (encSen s).low = encSen s := by
  unfold encSen
  rw [D.low, lows_map fun t _ => ?_]
  show D.tup false [.int t.f, _, D.tup false (D.lows (t.th.map encThing))] = _
  rw [lows_map fun h _ => by cases h <;> rfl]
  rfl
theorem low_inner (p : Inner) : (encInner p).low = encInner p := by
  cases p with
  | row r =>
    show D.tup false [.str "row", (encRow false encTC r).low] = _
    rw [low_row]; rfl
  | rounds n s ps =>
    show D.tup false [.str "rounds", encCnt n, (encSen s).low, D.tup false (D.lows (ps.map encDeep))] = _
    rw [low_sen, lows_map fun r _ => by show D.tup false [.str "row", (encRow false encTC r).low] = _; rw [low_row]; rfl]
    rfl
theorem low_part (p : Part) : (encPart p).low = encPart p := by
  cases p with
  | row r =>
    show D.tup false [.str "row", (encRow false encTC r).low] = _
    rw [low_row]; rfl
  | rounds n s ps =>
    show D.tup false [.str "rounds", encCnt n, (encSen s).low, D.tup false (D.lows (ps.map encInner))] = _
    rw [low_sen, lows_map fun p _ => low_inner p]
    rfl
theorem low_encPs (ps : List Part) : (encPs ps).low = encPs ps := by
  unfold encPs
  rw [D.low, lows_map fun p _ => low_part p]
def qC : TC := cl "q" 0 0 0 0
def slT (l : Str) (c i j m : Int) : Thing := .slice l ⟨0, 0, 0, 0⟩ ⟨c, i, j, m⟩
def placeSen (o u : Str) : List Term := [⟨1, 0, 1, 0, 0, 0, 0, [slT o 0 0 0 1]⟩, ⟨-1, 0, 0, 0, 0, 0, 1, [slT "c" 0 0 0 1, slT u 0 0 0 1]⟩, ⟨-1, 0, 0, 0, 0, 0, 1, [slT "d" 1 0 0 1]⟩, ⟨-1, 0, 0, 0, 0, 0, 0, [slT "e" 0 0 0 1]⟩]
def doubledR (l : Str) : Row TC := .un .twice (cl l 0 0 1 0) (cl l 0 0 1 0)
def timesI (rs : List (Row TC)) : Inner := .rounds ⟨0, 1, 0⟩ [] rs
def oneMore (rs : List (Row TC)) : Inner := .rounds ⟨1, 1, 0⟩ [] rs
def chosenRows : List (Row TC) := [.bi .both gC (cl "d" 0 0 1 0) pC, .bi .both (cl "f" 0 0 1 0) (cl "f" 0 0 1 0) qC, .bi .any (cl "d" 0 0 1 0) gC (cl "f" 0 0 1 0)]
def placeParts (u : Str) : List Inner := [.row (.mark 0), timesI [doubledR "e"], oneMore [doubledR "d"], .row (.mark 0), oneMore [.bi .less (cl "f" 0 0 1 0) (cl "d" 0 0 1 0) (cl u 0 0 1 0)],
  .row (.bi .less pC zC zC), .row (.un .bare qC pC), oneMore chosenRows, .row (.ask qC), timesI [doubledR "c"]]
def dividedT (o u : Str) : List Part := [timesN [.un .move (cl "e" 0 1 0 0) (cl o 0 1 0 0)] [], .rounds ⟨0, 0, 1⟩ (placeSen o u) (placeParts u)]
def noughtToMark : List Part := [.row (.set tC 0), timesN [.bi .any tC tC (cl "b" 0 1 0 0)] [], .row (.ask tC)] ++ bareMarkTo 0
def quotientT : List Part := dividedT "a" "b" ++ noughtToMark ++ endsT "c" 0 1
def hC : TC := cl "h" 0 0 0 0
theorem add_encPs (w : Bool) (ds : List D) (ps : List Part) (S : Sg) (h : ds.length ≤ 1000) (h2 : ps.length ≤ 1000) : dAdd (.tup w ds) (encPs ps) S = .ok (.tup false (ds ++ ps.map encPart)) S := by
  unfold encPs
  rw [add_tups, if_pos (by simp [sizeLine]; omega), Bool.and_false]
theorem add_encPs2 (w : Bool) (ds : List D) (ps : List Part) (S : Sg) (h : ds.length ≤ 1000) (h2 : ps.length ≤ 1000) : dAdd (encPs ps) (.tup w ds) S = .ok (.tup false (ps.map encPart ++ ds)) S := by
  unfold encPs
  rw [add_tups, if_pos (by simp [sizeLine]; omega), Bool.false_and]
theorem add_encPs3 (ps qs : List Part) (S : Sg) (h : qs.length ≤ 1000) (h2 : ps.length ≤ 1000) : dAdd (encPs ps) (encPs qs) S = .ok (encPs (ps ++ qs)) S := by
  unfold encPs
  rw [add_tups, if_pos (by simp [sizeLine]; omega), Bool.false_and, List.map_append]
theorem eqO_bl {S : Sg} {a b : Bool} : eqO S (.bl a) (.bl b) = some (decide (a = b)) := by
  cases a <;> cases b <;> rfl
@[simp] theorem dEq_bl {S : Sg} {a b : Bool} : dEq (.bl a) (.bl b) S = .ok (.bl (decide (a = b))) S := by simp only [dEq, eqO_bl]
@[simp] theorem dNe_bl {S : Sg} {a b : Bool} : dNe (.bl a) (.bl b) S = .ok (.bl (decide (a ≠ b))) S := by
  simp only [dNe, eqO_bl]
  simp
section
variable {S : Sg} {k h : Nat} {W m : Int} {kvs : List (List Key × D)} {f : PC → Int}
end
section
variable {S : Sg} {k l : Nat} {w n : Int} {rows : List (Row PC)} {g : Nat} {gi : Int}
end
def nm (W : Int) (M : Nat) (T : Int) : D := .tup true ((digs W M (T % W ^ M)).map .int)
end G
set_option maxHeartbeats 0
namespace G
open PySem PySem.Spec L2
theorem lc_drawG {α : Type} {h : α → D} {f : FG} {fe : FE} {env : Env} (P : α → Prop) (G : Sg) : ∀ (ds : List D) (c : StC) (acc : List α), (∀ d ∈ ds, ∃ env1, f d env = some env1 ∧ ∀ c G, ∃ c' x, fe env1 (St c G) = .ok (h x) (St c' G) ∧ P x) → acc.length + ds.length ≤ 1000 →
    ∃ (c' : StC) (xs : List α), lcL (fun _ => True) f fYes fe env (St c G).length ds (St c (G ++ [.lst (acc.map h)])) = .ok () (St c' (G ++ [.lst ((acc ++ xs).map h)])) ∧ (∀ x ∈ xs, P x) ∧ xs.length = ds.length
  | [], c, acc, _, _ => ⟨c, [], by simp [lcL], by simp, rfl⟩
  | d :: ds, c, acc, hh, hl => by
    rw [List.length_cons] at hl
    obtain ⟨env1, e1, hf⟩ := hh d List.mem_cons_self
    obtain ⟨c1, x, e2, px⟩ := hf c (G ++ [.lst (acc.map h)])
    obtain ⟨c2, xs, e3, pxs, hn⟩ := lc_drawG P G ds c1 (acc ++ [x]) (fun z hz => hh z (List.mem_cons_of_mem _ hz)) (by simp; omega)
    refine ⟨c2, x :: xs, ?_, ?_, by simp [hn]⟩
    · unfold lcL
      rw [if_pos trivial, e1]
      have hL : (St c G).length = (St c1 G).length := rfl
      simp only [fYes, Res.quiet, Res.bind_ok, if_true, e2]
      rw [hL, St_last]
      dsimp only
      rw [if_pos (by simp [sizeLine]; omega), St_lset]
      have : acc.map h ++ [h x] = (acc ++ [x]).map h := by simp
      rw [this, e3]
      simp
    · intro z hz
      rcases List.mem_cons.mp hz with rfl | hz
      · exact px
      · exact pxs z hz
theorem fLc_drawG {α : Type} {h : α → D} {own : List Nat} {fi : FI} {T : Tg} {fe : FE} {env : Env} (P : α → Prop) (c : StC) (G : Sg) (ds : List D) (hi : fi env (St c G) = .ok ⟨ds, fun _ => True⟩ (St c G)) (hx : noExc env = true)
    (hf : ∀ d ∈ ds, ∃ env1, T.f d (wipeE env own) = some env1 ∧ ∀ c G, ∃ c' x, fe env1 (St c G) = .ok (h x) (St c' G) ∧ P x) (hl : ds.length ≤ 1000) :
    ∃ (c' : StC) (xs : List α), fLc false own fi T fYes fe env (St c G) = .ok (.obj (St c G).length) (St c' (G ++ [.lst (xs.map h)])) ∧ (∀ x ∈ xs, P x) ∧ xs.length = ds.length := by
  obtain ⟨c', xs, e, p, hn⟩ := lc_drawG P G ds c [] hf (by simpa using hl)
  refine ⟨c', xs, ?_, p, hn⟩
  unfold fLc
  rw [hi]
  simp only [Res.bind_ok, hx, if_true]
  have e' : lcL (fun _ => True) T.f fYes fe (wipeE env own) (St c G).length ds (St c G ++ [.lst []]) = .ok () (St c' (G ++ [.lst (xs.map h)])) := by simpa using e
  rw [e']
  simp [lcEnd]
@[simp] theorem at_12 {α : Type} (x0 x1 x2 x3 x4 x5 x6 x7 x8 x9 x10 x11 x12 : α) (l : List α) : atI (x0 :: x1 :: x2 :: x3 :: x4 :: x5 :: x6 :: x7 :: x8 :: x9 :: x10 :: x11 :: x12 :: l) 12 = some x12 := at_nat _ 12
@[simp] theorem at_13 {α : Type} (x0 x1 x2 x3 x4 x5 x6 x7 x8 x9 x10 x11 x12 x13 : α) (l : List α) : atI (x0 :: x1 :: x2 :: x3 :: x4 :: x5 :: x6 :: x7 :: x8 :: x9 :: x10 :: x11 :: x12 :: x13 :: l) 13 = some x13 := at_nat _ 13
@[simp] theorem at_14 {α : Type} (x0 x1 x2 x3 x4 x5 x6 x7 x8 x9 x10 x11 x12 x13 x14 : α) (l : List α) : atI (x0 :: x1 :: x2 :: x3 :: x4 :: x5 :: x6 :: x7 :: x8 :: x9 :: x10 :: x11 :: x12 :: x13 :: x14 :: l) 14 = some x14 := at_nat _ 14
@[simp] theorem at_15 {α : Type} (x0 x1 x2 x3 x4 x5 x6 x7 x8 x9 x10 x11 x12 x13 x14 x15 : α) (l : List α) : atI (x0 :: x1 :: x2 :: x3 :: x4 :: x5 :: x6 :: x7 :: x8 :: x9 :: x10 :: x11 :: x12 :: x13 :: x14 :: x15 :: l) 15 = some x15 := at_nat _ 15
@[simp] theorem at_16 {α : Type} (x0 x1 x2 x3 x4 x5 x6 x7 x8 x9 x10 x11 x12 x13 x14 x15 x16 : α) (l : List α) : atI (x0 :: x1 :: x2 :: x3 :: x4 :: x5 :: x6 :: x7 :: x8 :: x9 :: x10 :: x11 :: x12 :: x13 :: x14 :: x15 :: x16 :: l) 16 = some x16 := at_nat _ 16
@[simp] theorem at_17 {α : Type} (x0 x1 x2 x3 x4 x5 x6 x7 x8 x9 x10 x11 x12 x13 x14 x15 x16 x17 : α) (l : List α) : atI (x0 :: x1 :: x2 :: x3 :: x4 :: x5 :: x6 :: x7 :: x8 :: x9 :: x10 :: x11 :: x12 :: x13 :: x14 :: x15 :: x16 :: x17 :: l) 17 = some x17 := at_nat _ 17
@[simp] theorem at_18 {α : Type} (x0 x1 x2 x3 x4 x5 x6 x7 x8 x9 x10 x11 x12 x13 x14 x15 x16 x17 x18 : α) (l : List α) : atI (x0 :: x1 :: x2 :: x3 :: x4 :: x5 :: x6 :: x7 :: x8 :: x9 :: x10 :: x11 :: x12 :: x13 :: x14 :: x15 :: x16 :: x17 :: x18 :: l) 18 = some x18 := at_nat _ 18
@[simp] theorem at_19 {α : Type} (x0 x1 x2 x3 x4 x5 x6 x7 x8 x9 x10 x11 x12 x13 x14 x15 x16 x17 x18 x19 : α) (l : List α) : atI (x0 :: x1 :: x2 :: x3 :: x4 :: x5 :: x6 :: x7 :: x8 :: x9 :: x10 :: x11 :: x12 :: x13 :: x14 :: x15 :: x16 :: x17 :: x18 :: x19 :: l) 19 = some x19 := at_nat _ 19
@[simp] theorem at_20 {α : Type} (x0 x1 x2 x3 x4 x5 x6 x7 x8 x9 x10 x11 x12 x13 x14 x15 x16 x17 x18 x19 x20 : α) (l : List α) : atI (x0 :: x1 :: x2 :: x3 :: x4 :: x5 :: x6 :: x7 :: x8 :: x9 :: x10 :: x11 :: x12 :: x13 :: x14 :: x15 :: x16 :: x17 :: x18 :: x19 :: x20 :: l) 20 = some x20 := at_nat _ 20
@[simp] theorem at_21 {α : Type} (x0 x1 x2 x3 x4 x5 x6 x7 x8 x9 x10 x11 x12 x13 x14 x15 x16 x17 x18 x19 x20 x21 : α) (l : List α) : atI (x0 :: x1 :: x2 :: x3 :: x4 :: x5 :: x6 :: x7 :: x8 :: x9 :: x10 :: x11 :: x12 :: x13 :: x14 :: x15 :: x16 :: x17 :: x18 :: x19 :: x20 :: x21 :: l) 21 = some x21 := at_nat _ 21
@[simp] theorem at_22 {α : Type} (x0 x1 x2 x3 x4 x5 x6 x7 x8 x9 x10 x11 x12 x13 x14 x15 x16 x17 x18 x19 x20 x21 x22 : α) (l : List α) : atI (x0 :: x1 :: x2 :: x3 :: x4 :: x5 :: x6 :: x7 :: x8 :: x9 :: x10 :: x11 :: x12 :: x13 :: x14 :: x15 :: x16 :: x17 :: x18 :: x19 :: x20 :: x21 :: x22 :: l) 22 = some x22 := at_nat _ 22
@[simp] theorem at_23 {α : Type} (x0 x1 x2 x3 x4 x5 x6 x7 x8 x9 x10 x11 x12 x13 x14 x15 x16 x17 x18 x19 x20 x21 x22 x23 : α) (l : List α) : atI (x0 :: x1 :: x2 :: x3 :: x4 :: x5 :: x6 :: x7 :: x8 :: x9 :: x10 :: x11 :: x12 :: x13 :: x14 :: x15 :: x16 :: x17 :: x18 :: x19 :: x20 :: x21 :: x22 :: x23 :: l) 23 = some x23 := at_nat _ 23
@[simp] theorem at_24 {α : Type} (x0 x1 x2 x3 x4 x5 x6 x7 x8 x9 x10 x11 x12 x13 x14 x15 x16 x17 x18 x19 x20 x21 x22 x23 x24 : α) (l : List α) : atI (x0 :: x1 :: x2 :: x3 :: x4 :: x5 :: x6 :: x7 :: x8 :: x9 :: x10 :: x11 :: x12 :: x13 :: x14 :: x15 :: x16 :: x17 :: x18 :: x19 :: x20 :: x21 :: x22 :: x23 :: x24 :: l) 24 = some x24 := at_nat _ 24
@[simp] theorem at_25 {α : Type} (x0 x1 x2 x3 x4 x5 x6 x7 x8 x9 x10 x11 x12 x13 x14 x15 x16 x17 x18 x19 x20 x21 x22 x23 x24 x25 : α) (l : List α) : atI (x0 :: x1 :: x2 :: x3 :: x4 :: x5 :: x6 :: x7 :: x8 :: x9 :: x10 :: x11 :: x12 :: x13 :: x14 :: x15 :: x16 :: x17 :: x18 :: x19 :: x20 :: x21 :: x22 :: x23 :: x24 :: x25 :: l) 25 = some x25 := at_nat _ 25
@[simp] theorem at_26 {α : Type} (x0 x1 x2 x3 x4 x5 x6 x7 x8 x9 x10 x11 x12 x13 x14 x15 x16 x17 x18 x19 x20 x21 x22 x23 x24 x25 x26 : α) (l : List α) : atI (x0 :: x1 :: x2 :: x3 :: x4 :: x5 :: x6 :: x7 :: x8 :: x9 :: x10 :: x11 :: x12 :: x13 :: x14 :: x15 :: x16 :: x17 :: x18 :: x19 :: x20 :: x21 :: x22 :: x23 :: x24 :: x25 :: x26 :: l) 26 = some x26 := at_nat _ 26
@[simp] theorem at_27 {α : Type} (x0 x1 x2 x3 x4 x5 x6 x7 x8 x9 x10 x11 x12 x13 x14 x15 x16 x17 x18 x19 x20 x21 x22 x23 x24 x25 x26 x27 : α) (l : List α) : atI (x0 :: x1 :: x2 :: x3 :: x4 :: x5 :: x6 :: x7 :: x8 :: x9 :: x10 :: x11 :: x12 :: x13 :: x14 :: x15 :: x16 :: x17 :: x18 :: x19 :: x20 :: x21 :: x22 :: x23 :: x24 :: x25 :: x26 :: x27 :: l) 27 = some x27 := at_nat _ 27
@[simp] theorem at_28 {α : Type} (x0 x1 x2 x3 x4 x5 x6 x7 x8 x9 x10 x11 x12 x13 x14 x15 x16 x17 x18 x19 x20 x21 x22 x23 x24 x25 x26 x27 x28 : α) (l : List α) : atI (x0 :: x1 :: x2 :: x3 :: x4 :: x5 :: x6 :: x7 :: x8 :: x9 :: x10 :: x11 :: x12 :: x13 :: x14 :: x15 :: x16 :: x17 :: x18 :: x19 :: x20 :: x21 :: x22 :: x23 :: x24 :: x25 :: x26 :: x27 :: x28 :: l) 28 = some x28 := at_nat _ 28
@[simp] theorem at_29 {α : Type} (x0 x1 x2 x3 x4 x5 x6 x7 x8 x9 x10 x11 x12 x13 x14 x15 x16 x17 x18 x19 x20 x21 x22 x23 x24 x25 x26 x27 x28 x29 : α) (l : List α) : atI (x0 :: x1 :: x2 :: x3 :: x4 :: x5 :: x6 :: x7 :: x8 :: x9 :: x10 :: x11 :: x12 :: x13 :: x14 :: x15 :: x16 :: x17 :: x18 :: x19 :: x20 :: x21 :: x22 :: x23 :: x24 :: x25 :: x26 :: x27 :: x28 :: x29 :: l) 29 = some x29 := at_nat _ 29
@[simp] theorem at_30 {α : Type} (x0 x1 x2 x3 x4 x5 x6 x7 x8 x9 x10 x11 x12 x13 x14 x15 x16 x17 x18 x19 x20 x21 x22 x23 x24 x25 x26 x27 x28 x29 x30 : α) (l : List α) : atI (x0 :: x1 :: x2 :: x3 :: x4 :: x5 :: x6 :: x7 :: x8 :: x9 :: x10 :: x11 :: x12 :: x13 :: x14 :: x15 :: x16 :: x17 :: x18 :: x19 :: x20 :: x21 :: x22 :: x23 :: x24 :: x25 :: x26 :: x27 :: x28 :: x29 :: x30 :: l) 30 = some x30 := at_nat _ 30
@[simp] theorem at_31 {α : Type} (x0 x1 x2 x3 x4 x5 x6 x7 x8 x9 x10 x11 x12 x13 x14 x15 x16 x17 x18 x19 x20 x21 x22 x23 x24 x25 x26 x27 x28 x29 x30 x31 : α) (l : List α) : atI (x0 :: x1 :: x2 :: x3 :: x4 :: x5 :: x6 :: x7 :: x8 :: x9 :: x10 :: x11 :: x12 :: x13 :: x14 :: x15 :: x16 :: x17 :: x18 :: x19 :: x20 :: x21 :: x22 :: x23 :: x24 :: x25 :: x26 :: x27 :: x28 :: x29 :: x30 :: x31 :: l) 31 = some x31 := at_nat _ 31
@[simp] theorem at_32 {α : Type} (x0 x1 x2 x3 x4 x5 x6 x7 x8 x9 x10 x11 x12 x13 x14 x15 x16 x17 x18 x19 x20 x21 x22 x23 x24 x25 x26 x27 x28 x29 x30 x31 x32 : α) (l : List α) : atI (x0 :: x1 :: x2 :: x3 :: x4 :: x5 :: x6 :: x7 :: x8 :: x9 :: x10 :: x11 :: x12 :: x13 :: x14 :: x15 :: x16 :: x17 :: x18 :: x19 :: x20 :: x21 :: x22 :: x23 :: x24 :: x25 :: x26 :: x27 :: x28 :: x29 :: x30 :: x31 :: x32 :: l) 32 = some x32 := at_nat _ 32
section
variable {S : Sg} {k : Nat} {kvs : List (List Key × D)} {f : PC → Int}
end
def Row.all {κ : Type} : Row κ → List κ
  | .set a _ => [a]
  | .mark _ => []
  | .ask x => [x]
  | .un _ a x => [a, x]
  | .bi _ a x y => [a, x, y]
  | .times a b x y => [a, b, x, y]
theorem fLc_mapP {α : Type} {own : List Nat} {fi : FI} {T : Tg} {fe : FE} {env : Env} {S S1 : Sg} {k : α → D} {xs : List α} {P : Sg → Prop} (h : α → D) (hi : fi env S = .ok ⟨xs.map k, P⟩ S1) (hP : ∀ T, P (S1 ++ T)) (hx : noExc env = true)
    (hd : ∀ x ∈ xs, ∃ env1, T.f (k x) (wipeE env own) = some env1 ∧ ∀ T, fe env1 (S1 ++ T) = .ok (h x) (S1 ++ T)) (hl : xs.length ≤ sizeLine) (hf : ∀ x ∈ xs, (h x).free = true) :
    fLc true own fi T fYes fe env S = .ok (.il (xs.map h)) S1 := by
  unfold fLc
  rw [hi]
  simp only [Res.bind_ok, hx, if_true]
  have key : ∀ (xs : List α) (acc : List D), (∀ x ∈ xs, ∃ env1, T.f (k x) (wipeE env own) = some env1 ∧ ∀ T, fe env1 (S1 ++ T) = .ok (h x) (S1 ++ T)) → acc.length + xs.length ≤ sizeLine →
      lcL P T.f fYes fe (wipeE env own) S1.length (xs.map k) (S1 ++ [.lst acc]) = .ok () (S1 ++ [.lst (acc ++ xs.map h)]) := by
    intro xs
    induction xs with
    | nil => intro acc _ _; simp [lcL, hP]
    | cons x xs ih =>
      intro acc hd hl
      obtain ⟨env1, e1, e2⟩ := hd x List.mem_cons_self
      rw [List.length_cons] at hl
      have ih := ih (acc ++ [h x]) (fun y hy => hd y (List.mem_cons_of_mem _ hy)) (by simp; omega)
      rw [List.append_assoc] at ih
      rw [List.map_cons]
      unfold lcL
      rw [if_pos (hP _), e1]
      simp only [fYes, Res.quiet, Res.bind_ok, if_true, e2, last_get, last_set]
      rw [if_pos (by omega)]
      exact ih
  rw [key xs [] hd (by simpa using hl)]
  simp [lcEnd, frees_map xs hf]
theorem QL.of {S : Sg} : ∀ {ds : List D}, (∀ d ∈ ds, ∃ p, QR S d p) → ∃ ps, QL S ds ps
  | [], _ => ⟨[], .nil⟩
  | d :: ds, h => by
    obtain ⟨p, hp⟩ := h d List.mem_cons_self
    obtain ⟨ps, hps⟩ := QL.of (ds := ds) fun d hd => h d (List.mem_cons_of_mem _ hd)
    exact ⟨p :: ps, .cons hp hps⟩
section
variable {S : Sg} {k h : Nat} {w n m : Int}
end
def Term.ex (t : Term) (w n i j : Int) : Int := t.e0 + t.e1 * i + t.e2 * j + w * (t.e3 * i + t.e4 * j + t.e5 * n)
def sliceF (f : PC → Int) (W : Int) (l : Str) (hi : Int) : Nat → Int
  | 0 => 0
  | k + 1 => sliceF f W l hi k * W + f (l, hi - 1 - k)
def Thing.val (W n i j : Int) (s : Mc) : Thing → Int
  | .slice l a b => sliceF s.f W l (b.at n i j) (b.at n i j - a.at n i j).toNat
  | .mark => s.m
def thVal (W n i j : Int) (s : Mc) (acc : Int) (ths : List Thing) : Int := ths.foldl (fun a th => a * th.val W n i j s) acc
def Term.val (w : Nat) (n i j : Int) (s : Mc) (t : Term) : Int := thVal (2 ^ w) n i j s (t.f * 2 ^ (t.ex w n i j).toNat) t.th
section
variable {S : Sg} {q k h w : Nat} {n : Int} {r : Nat} {p : Mc × Bool} {b : Bool} {W : Int}
end
def Inner.rs : Inner → List (Row TC)
  | .row r => [r]
  | .rounds _ _ rs => rs
def Part.rs : Part → List (Row TC)
  | .row r => [r]
  | .rounds _ _ ps => ps.flatMap Inner.rs
def t0 (f : Int) (ths : List Thing) : Term := ⟨f, 0, 0, 0, 0, 0, 0, ths⟩
def bts : Nat → Int → List Nat
  | 0, _ => []
  | w + 1, v => bts w (v / 2) ++ [48 + (v % 2).toNat]
def wtx (w : Nat) (v : Int) : Str := ⟨(bts w v).toArray⟩
end G
namespace G
open PySem PySem.Spec L2 TL NumText
def lineT (ws : List Str) : Str := Txt.join " " ws
end G
namespace G
open PySem PySem.Spec L2
structure Num where
  w : Nat
  n : Nat
  x : Int
structure Num.ok (z : Num) : Prop where
  w1 : 4 ≤ z.w
  w2 : z.w ≤ 16
  n1 : 1 ≤ z.n
  n2 : z.n ≤ 8
  x1 : 0 ≤ z.x
  x2 : z.x < (2 ^ z.w) ^ z.n
def Num.words (z : Num) : D := nm (2 ^ z.w) z.n z.x
def Num.d (z : Num) : D := .tup true [.int z.w, z.words]
abbrev Kept := List (Str × Num)
def getN (kv : Kept) (t : Str) : Option Num := (kv.find? fun q => decide (q.1 = t)).map (·.2)
def Num.text (z : Num) : Str := lineT ((digs (2 ^ z.w) z.n (z.x % (2 ^ z.w) ^ z.n)).reverse.map (wtx z.w))
section
variable {S S' : Sg} {d k p u : Nat} {kv : Kept} {past und : List D}
end
def inK (x a b : Int) : Bool := decide (a ≤ x) && decide (x ≤ b)
def Fr (O : Nat → Prop) (S S' : Sg) : Prop := S.length ≤ S'.length ∧ ∀ x, x < S.length → ¬ O x → S'[x]? = S[x]?
theorem Fr.refl {O : Nat → Prop} {S : Sg} : Fr O S S := ⟨Nat.le_refl _, fun _ _ _ => rfl⟩
theorem Fr.trans {O P : Nat → Prop} {S S1 S2 : Sg} (a : Fr O S S1) (b : Fr P S1 S2) (h : ∀ x, x < S.length → P x → O x) : Fr O S S2 :=
  ⟨Nat.le_trans a.1 b.1, fun x hx hn => by rw [b.2 x (Nat.lt_of_lt_of_le hx a.1) (fun q => hn (h x hx q)), a.2 x hx hn]⟩
theorem Fr.at {O : Nat → Prop} {S S' : Sg} (f : Fr O S S') {x : Nat} {m : MO} (h : S[x]? = some m) (hx : ¬ O x) : S'[x]? = some m := by
  rw [f.2 x (List.getElem?_eq_some_iff.mp h).1 hx]; exact h
end G
namespace G
open PySem PySem.Spec L2 TL NumText
end G
namespace G
open PySem PySem.Spec L2
def FrS (O : Nat → Prop) (S S' : Sg) : Prop := S.length ≤ S'.length ∧ ∀ x, 2 ≤ x → x < S.length → ¬ O x → S'[x]? = S[x]?
theorem Fr.s {O : Nat → Prop} {S S' : Sg} (f : Fr O S S') : FrS O S S' := ⟨f.1, fun x _ hx hn => f.2 x hx hn⟩
theorem FrS.refl {O : Nat → Prop} {S : Sg} : FrS O S S := ⟨Nat.le_refl _, fun _ _ _ _ => rfl⟩
theorem FrS.trans {O P : Nat → Prop} {S S1 S2 : Sg} (a : FrS O S S1) (b : FrS P S1 S2) (h : ∀ x, x < S.length → P x → O x) : FrS O S S2 :=
  ⟨Nat.le_trans a.1 b.1, fun x h2 hx hn => by rw [b.2 x h2 (Nat.lt_of_lt_of_le hx a.1) (fun q => hn (h x hx q)), a.2 x h2 hx hn]⟩
theorem FrS.at {O : Nat → Prop} {S S' : Sg} (f : FrS O S S') {x : Nat} {m : MO} (h : S[x]? = some m) (h2 : 2 ≤ x) (hx : ¬ O x) : S'[x]? = some m := by
  rw [f.2 x h2 (List.getElem?_eq_some_iff.mp h).1 hx]; exact h
theorem FrS.st {O : Nat → Prop} {c c' : StC} {G : Sg} : FrS O (St c G) (St c' G) := ⟨Nat.le_refl _, fun x h2 _ _ => by
  obtain ⟨x, rfl⟩ : ∃ m, x = m + 2 := ⟨x - 2, by omega⟩
  rfl⟩
section
variable {w n i j : Int} {t : Term}
end
structure All (w : World) (K : PySem.W.Frag) (mg : Str → Option Value) : Prop where
  fr : Free mg
  T : ExcT K mg excNames
  f__law_count : ∃ f fd, mg "_law_count" = some (.ref f) ∧ FnP K "_law_count" (top 99) f fd
  f__law_at : ∃ f fd, mg "_law_at" = some (.ref f) ∧ FnP K "_law_at" (top 98) f fd
  f__law_reckoned : ∃ f fd, mg "_law_reckoned" = some (.ref f) ∧ FnP K "_law_reckoned" (top 100) f fd
  f__law_lowest : ∃ f fd, mg "_law_lowest" = some (.ref f) ∧ FnP K "_law_lowest" (top 101) f fd
  f__law_due_terms : ∃ f fd, mg "_law_due_terms" = some (.ref f) ∧ FnP K "_law_due_terms" (top 102) f fd
  f__law_part_says : ∃ f fd, mg "_law_part_says" = some (.ref f) ∧ FnP K "_law_part_says" (top 104) f fd
  f__law_says : ∃ f fd, mg "_law_says" = some (.ref f) ∧ FnP K "_law_says" (top 103) f fd
  f__law_whole : ∃ f fd, mg "_law_whole" = some (.ref f) ∧ FnP K "_law_whole" (top 89) f fd
  f__law_wholes : ∃ f fd, mg "_law_wholes" = some (.ref f) ∧ FnP K "_law_wholes" (top 90) f fd
  f__law_letter : ∃ f fd, mg "_law_letter" = some (.ref f) ∧ FnP K "_law_letter" (top 91) f fd
  f__law_thing : ∃ f fd, mg "_law_thing" = some (.ref f) ∧ FnP K "_law_thing" (top 94) f fd
  f__law_is_sentence : ∃ f fd, mg "_law_is_sentence" = some (.ref f) ∧ FnP K "_law_is_sentence" (top 95) f fd
  f__law_index_cell : ∃ f fd, mg "_law_index_cell" = some (.ref f) ∧ FnP K "_law_index_cell" (top 92) f fd
  f__law_telling_row : ∃ f fd, mg "_law_telling_row" = some (.ref f) ∧ FnP K "_law_telling_row" (top 93) f fd
  f__law_part : ∃ f fd, mg "_law_part" = some (.ref f) ∧ FnP K "_law_part" (top 96) f fd
  f__law_is_telling : ∃ f fd, mg "_law_is_telling" = some (.ref f) ∧ FnP K "_law_is_telling" (top 97) f fd
  f_do : ∃ f fd, mg "do" = some (.ref f) ∧ FnP K "do" (top 5) f fd
  f_times_n : ∃ f fd, mg "times_n" = some (.ref f) ∧ FunD K "times_n" "times_n" (defArgs (top 6)) (defBody (top 6)) (defScope (top 6)) [.non] [] f fd
  f_bare_mark_to : ∃ f fd, mg "bare_mark_to" = some (.ref f) ∧ FnP K "bare_mark_to" (top 9) f fd
  f_cell : ∃ f fd, mg "cell" = some (.ref f) ∧ FunD K "cell" "cell" (defArgs (top 4)) (defBody (top 4)) (defScope (top 4)) [.int 0, .int 0, .int 0, .int 0] [] f fd
  f_nought_to_mark : ∃ f fd, mg "nought_to_mark" = some (.ref f) ∧ FnP K "nought_to_mark" (top 56) f fd
  f_mark_to : ∃ f fd, mg "mark_to" = some (.ref f) ∧ FnP K "mark_to" (top 8) f fd
  f_ends : ∃ f fd, mg "ends" = some (.ref f) ∧ FnP K "ends" (top 10) f fd
  f_mask_of : ∃ f fd, mg "mask_of" = some (.ref f) ∧ FnP K "mask_of" (top 67) f fd
  f_one_more : ∃ f fd, mg "one_more" = some (.ref f) ∧ FnP K "one_more" (top 50) f fd
  f_chosen_rest : ∃ f fd, mg "chosen_rest" = some (.ref f) ∧ FnP K "chosen_rest" (top 53) f fd
  f_doubled : ∃ f fd, mg "doubled" = some (.ref f) ∧ FnP K "doubled" (top 52) f fd
  f_place_parts : ∃ f fd, mg "place_parts" = some (.ref f) ∧ FnP K "place_parts" (top 54) f fd
  f_stretch : ∃ f fd, mg "stretch" = some (.ref f) ∧ FnP K "stretch" (top 43) f fd
  f_place_sentence : ∃ f fd, mg "place_sentence" = some (.ref f) ∧ FnP K "place_sentence" (top 51) f fd
  f_divided : ∃ f fd, mg "divided" = some (.ref f) ∧ FnP K "divided" (top 55) f fd
  f_turned_by : ∃ f fd, mg "turned_by" = some (.ref f) ∧ FnP K "turned_by" (top 68) f fd
  f_signed_quotient_parts : ∃ f fd, mg "signed_quotient_parts" = some (.ref f) ∧ FnP K "signed_quotient_parts" (top 72) f fd
  f_quotient_parts : ∃ f fd, mg "quotient_parts" = some (.ref f) ∧ FnP K "quotient_parts" (top 57) f fd
  f_round_sentence : ∃ f fd, mg "round_sentence" = some (.ref f) ∧ FnP K "round_sentence" (top 45) f fd
  f_word_sentence : ∃ f fd, mg "word_sentence" = some (.ref f) ∧ FnP K "word_sentence" (top 44) f fd
  f_word_parts : ∃ f fd, mg "word_parts" = some (.ref f) ∧ FnP K "word_parts" (top 46) f fd
  f_plain_rounds : ∃ f fd, mg "plain_rounds" = some (.ref f) ∧ FnP K "plain_rounds" (top 47) f fd
  f_taken_off : ∃ f fd, mg "taken_off" = some (.ref f) ∧ FnP K "taken_off" (top 70) f fd
  f_signed_product_parts : ∃ f fd, mg "signed_product_parts" = some (.ref f) ∧ FnP K "signed_product_parts" (top 71) f fd
  f_product_parts : ∃ f fd, mg "product_parts" = some (.ref f) ∧ FnP K "product_parts" (top 48) f fd
  f_no_marks : ∃ f fd, mg "no_marks" = some (.ref f) ∧ FnP K "no_marks" (top 23) f fd
  f_lowest : ∃ f fd, mg "lowest" = some (.ref f) ∧ FnP K "lowest" (top 15) f fd
  f_bare_parts : ∃ f fd, mg "bare_parts" = some (.ref f) ∧ FnP K "bare_parts" (top 25) f fd
  f_less_rounds : ∃ f fd, mg "less_rounds" = some (.ref f) ∧ FnP K "less_rounds" (top 18) f fd
  f_signs_to : ∃ f fd, mg "signs_to" = some (.ref f) ∧ FnP K "signs_to" (top 16) f fd
  f_over_less : ∃ f fd, mg "over_less" = some (.ref f) ∧ FnP K "over_less" (top 19) f fd
  f_compare_parts : ∃ f fd, mg "compare_parts" = some (.ref f) ∧ FnP K "compare_parts" (top 22) f fd
  f_turned_parts : ∃ f fd, mg "turned_parts" = some (.ref f) ∧ FnP K "turned_parts" (top 21) f fd
  f_difference_parts : ∃ f fd, mg "difference_parts" = some (.ref f) ∧ FnP K "difference_parts" (top 20) f fd
  f_sum_parts : ∃ f fd, mg "sum_parts" = some (.ref f) ∧ FnP K "sum_parts" (top 17) f fd
  f_twos_parts : ∃ f fd, mg "twos_parts" = some (.ref f) ∧ FnP K "twos_parts" (top 24) f fd
  f_copied : ∃ f fd, mg "copied" = some (.ref f) ∧ FnP K "copied" (top 62) f fd
  f_ahead_of_round : ∃ f fd, mg "ahead_of_round" = some (.ref f) ∧ FnP K "ahead_of_round" (top 63) f fd
  f_one_place : ∃ f fd, mg "one_place" = some (.ref f) ∧ FnP K "one_place" (top 64) f fd
  f_shift_parts : ∃ f fd, mg "shift_parts" = some (.ref f) ∧ FnP K "shift_parts" (top 65) f fd
  f_kept_words : ∃ f fd, mg "kept_words" = some (.ref f) ∧ FnP K "kept_words" (top 30) f fd
  f_sign_of_last : ∃ f fd, mg "sign_of_last" = some (.ref f) ∧ FnP K "sign_of_last" (top 31) f fd
  f_mask_of_last : ∃ f fd, mg "mask_of_last" = some (.ref f) ∧ FnP K "mask_of_last" (top 32) f fd
  f_narrower_over : ∃ f fd, mg "narrower_over" = some (.ref f) ∧ FnP K "narrower_over" (top 35) f fd
  f_wider_parts : ∃ f fd, mg "wider_parts" = some (.ref f) ∧ FnP K "wider_parts" (top 33) f fd
  f_wider_over : ∃ f fd, mg "wider_over" = some (.ref f) ∧ FnP K "wider_over" (top 34) f fd
  f_led_parts : ∃ f fd, mg "led_parts" = some (.ref f) ∧ FnP K "led_parts" (top 36) f fd
  f_is_whole : ∃ f fd, mg "is_whole" = some (.ref f) ∧ FnP K "is_whole" (top 59) f fd
  f_is_within : ∃ f fd, mg "is_within" = some (.ref f) ∧ FnP K "is_within" (top 78) f fd
  f_is_led : ∃ f fd, mg "is_led" = some (.ref f) ∧ FnP K "is_led" (top 79) f fd
  f_is_deed : ∃ f fd, mg "is_deed" = some (.ref f) ∧ FnP K "is_deed" (top 80) f fd
  f_check_deed : ∃ f fd, mg "check_deed" = some (.ref f) ∧ FnP K "check_deed" (top 81) f fd
  f_telling : ∃ f fd, mg "telling" = some (.ref f) ∧ FnP K "telling" (top 82) f fd
  f__law_mixed : ∃ f fd, mg "_law_mixed" = some (.ref f) ∧ FnP K "_law_mixed" (top 85) f fd
  f__law_fill : ∃ f fd, mg "_law_fill" = some (.ref f) ∧ FnP K "_law_fill" (top 86) f fd
  f__law_take : ∃ f fd, mg "_law_take" = some (.ref f) ∧ FnP K "_law_take" (top 87) f fd
  f__law_sizes : ∃ f fd, mg "_law_sizes" = some (.ref f) ∧ FnP K "_law_sizes" (top 88) f fd
  f__law_fresh : ∃ f fd, mg "_law_fresh" = some (.ref f) ∧ FnP K "_law_fresh" (top 84) f fd
  f_law : ∃ f fd, mg "law" = some (.ref f) ∧ FnP K "law" (top 105) f fd
  c_NAUGHT : ∃ u, mg "NAUGHT" = some u ∧ constB K (.tup false [(.str "z"), (.tup false [(.int 0), (.int 0), (.int 0), (.int 0)])]) u = true
  c_AT_NAUGHT : ∃ u, mg "AT_NAUGHT" = some u ∧ constB K (.tup false [(.int 0), (.int 0), (.int 0), (.int 0)]) u = true
  c_NO_SHIFT : ∃ u, mg "NO_SHIFT" = some u ∧ constB K (.tup false [(.int 0), (.int 0), (.int 0), (.int 0), (.int 0), (.int 0)]) u = true
  c_LOW_B : ∃ u, mg "LOW_B" = some u ∧ constB K (.tup false [(.str "slice"), (.str "b"), (.tup false [(.int 0), (.int 0), (.int 0), (.int 0)]), (.tup false [(.int 0), (.int 1), (.int 0), (.int 0)])]) u = true
  c_ALL_A : ∃ u, mg "ALL_A" = some u ∧ constB K (.tup false [(.str "slice"), (.str "a"), (.tup false [(.int 0), (.int 0), (.int 0), (.int 0)]), (.tup false [(.int 0), (.int 0), (.int 0), (.int 1)])]) u = true
  c_LOW_C : ∃ u, mg "LOW_C" = some u ∧ constB K (.tup false [(.str "slice"), (.str "c"), (.tup false [(.int 0), (.int 0), (.int 0), (.int 0)]), (.tup false [(.int 0), (.int 1), (.int 0), (.int 1)])]) u = true
  c_SO_FAR : ∃ u, mg "SO_FAR" = some u ∧ constB K (.tup false [(.int 0), (.int 0), (.int 0), (.int 1), (.int 0), (.int 0)]) u = true
  c_FLAT : ∃ u, mg "FLAT" = some u ∧ constB K (.tup false [(.int 0), (.int 0), (.int 0), (.int 0), (.int 0), (.int 0)]) u = true
  c_MARK : ∃ u, mg "MARK" = some u ∧ constB K (.tup false [(.str "mark")]) u = true
  c_HIGHEST : ∃ u, mg "HIGHEST" = some u ∧ constB K (.tup false [(.str "twice"), (.tup false [(.str "t"), (.tup false [(.int 0), (.int 0), (.int 0), (.int 0)])]), (.tup false [(.str "c"), (.tup false [(.int (-1)), (.int 0), (.int 0), (.int 1)])])]) u = true
  c_GATHER : ∃ u, mg "GATHER" = some u ∧ constB K (.tup false [(.str "g"), (.tup false [(.int 0), (.int 0), (.int 0), (.int 0)])]) u = true
  c_SPARE : ∃ u, mg "SPARE" = some u ∧ constB K (.tup false [(.str "t"), (.tup false [(.int 0), (.int 0), (.int 0), (.int 0)])]) u = true
  c_MASK : ∃ u, mg "MASK" = some u ∧ constB K (.tup false [(.str "p"), (.tup false [(.int 0), (.int 0), (.int 0), (.int 0)])]) u = true
  c_KINDS : ∃ u, mg "KINDS" = some u ∧ constB K (.tup false [(.str "plain"), (.str "signed")]) u = true
  c_PLAIN : ∃ p vs, mg "PLAIN" = some (.ref p) ∧ KdAt K w p ["sum", "difference", "turned", "compare", "bare", "product", "signed product", "quotient", "signed quotient"] vs ∧ ∀ ρ H, RL ⟨K, mg, w⟩ ρ H vs  [.fn "sum_parts", .fn "difference_parts", .fn "turned_parts", .fn "compare_parts", .fn "bare_parts", .fn "product_parts", .fn "signed_product_parts", .fn "quotient_parts", .fn "signed_quotient_parts"]
  c_TWOS : ∃ p vs, mg "TWOS" = some (.ref p) ∧ KdAt K w p ["both", "any", "odd"] vs ∧ ∀ ρ H, RL ⟨K, mg, w⟩ ρ H vs  [(.int 2), (.int 2), (.int 2)]
  c_SHIFTS : ∃ p vs, mg "SHIFTS" = some (.ref p) ∧ KdAt K w p ["left", "right", "down", "roll"] vs ∧ ∀ ρ H, RL ⟨K, mg, w⟩ ρ H vs  [(.int 1), (.int 1), (.int 1), (.int 1)]
theorem bd_times_n_1 : BindD "times_n" (top 6) ["parts", "sentence"] 1 1 [] [0, 1] := bindD_of (by decide +kernel) fun us its ws h1 h2 h3 => match us, its, ws, h1, h2, h3 with | [_], [_], [], _, _, _ => by kernel_rfl
theorem bd_cell_5 : BindD "cell" (top 4) ["letter", "c", "i", "j", "m"] 5 4 [] [0, 1, 2, 3, 4] := bindD_of (by decide +kernel) fun us its ws h1 h2 h3 => match us, its, ws, h1, h2, h3 with | [_, _, _, _, _], [_, _, _, _], [], _, _, _ => by kernel_rfl
theorem bd_cell_1 : BindD "cell" (top 4) ["letter", "c", "i", "j", "m"] 1 4 [] [0, 1, 2, 3, 4] := bindD_of (by decide +kernel) fun us its ws h1 h2 h3 => match us, its, ws, h1, h2, h3 with | [_], [_, _, _, _], [], _, _, _ => by kernel_rfl
theorem bd_cell_2 : BindD "cell" (top 4) ["letter", "c", "i", "j", "m"] 2 4 [] [0, 1, 3, 4, 5] := bindD_of (by decide +kernel) fun us its ws h1 h2 h3 => match us, its, ws, h1, h2, h3 with | [_, _], [_, _, _, _], [], _, _, _ => by kernel_rfl
theorem bd_times_n_2 : BindD "times_n" (top 6) ["parts", "sentence"] 2 1 [] [0, 1] := bindD_of (by decide +kernel) fun us its ws h1 h2 h3 => match us, its, ws, h1, h2, h3 with | [_, _], [_], [], _, _, _ => by kernel_rfl
theorem bd_cell_1_c : BindD "cell" (top 4) ["letter", "c", "i", "j", "m"] 1 4 ["c"] [0, 5, 2, 3, 4] := bindD_of (by decide +kernel) fun us its ws h1 h2 h3 => match us, its, ws, h1, h2, h3 with | [_], [_, _, _, _], [_], _, _, _ => by kernel_rfl
theorem bd_cell_1_i : BindD "cell" (top 4) ["letter", "c", "i", "j", "m"] 1 4 ["i"] [0, 1, 5, 3, 4] := bindD_of (by decide +kernel) fun us its ws h1 h2 h3 => match us, its, ws, h1, h2, h3 with | [_], [_, _, _, _], [_], _, _, _ => by kernel_rfl
theorem bd_cell_1_c_m : BindD "cell" (top 4) ["letter", "c", "i", "j", "m"] 1 4 ["c", "m"] [0, 5, 2, 3, 6] := bindD_of (by decide +kernel) fun us its ws h1 h2 h3 => match us, its, ws, h1, h2, h3 with | [_], [_, _, _, _], [_, _], _, _, _ => by kernel_rfl
theorem bd_cell_1_c_j_m : BindD "cell" (top 4) ["letter", "c", "i", "j", "m"] 1 4 ["c", "j", "m"] [0, 5, 2, 6, 7] := bindD_of (by decide +kernel) fun us its ws h1 h2 h3 => match us, its, ws, h1, h2, h3 with | [_], [_, _, _, _], [_, _, _], _, _, _ => by kernel_rfl
theorem bd_cell_1_j : BindD "cell" (top 4) ["letter", "c", "i", "j", "m"] 1 4 ["j"] [0, 1, 2, 5, 4] := bindD_of (by decide +kernel) fun us its ws h1 h2 h3 => match us, its, ws, h1, h2, h3 with | [_], [_, _, _, _], [_], _, _, _ => by kernel_rfl
theorem bd_cell_1_c_i_m : BindD "cell" (top 4) ["letter", "c", "i", "j", "m"] 1 4 ["c", "i", "m"] [0, 5, 6, 3, 7] := bindD_of (by decide +kernel) fun us its ws h1 h2 h3 => match us, its, ws, h1, h2, h3 with | [_], [_, _, _, _], [_, _, _], _, _, _ => by kernel_rfl
theorem bd_cell_1_i_m : BindD "cell" (top 4) ["letter", "c", "i", "j", "m"] 1 4 ["i", "m"] [0, 1, 5, 3, 6] := bindD_of (by decide +kernel) fun us its ws h1 h2 h3 => match us, its, ws, h1, h2, h3 with | [_], [_, _, _, _], [_, _], _, _, _ => by kernel_rfl
section
variable {P : Program} {w : World} {K : PySem.W.Frag} {mg : Str → Option Value} {base : Heap}
noncomputable def g__law_count : FS := (sSeq (sRet (fBin dAdd (fBin dAdd (fBin dIx (fVar 0) (fC (.int 0))) (fBin dMul (fBin dIx (fVar 0) (fC (.int 1))) (fVar 2))) (fBin dMul (fBin dMul (fBin dIx (fVar 0) (fC (.int 2))) (fVar 1)) (fVar 2))))
  sNil)
noncomputable def F__law_count : Fn := runF 3 g__law_count
theorem s__law_count : FnScope ["_law_count_here", "_law_w", "_law_n"] ["_law_count_here", "_law_w", "_law_n"] (defScope (top 99)) := ⟨rfl, rfl, rfl, by decide +kernel, rfl, by decide +kernel, by decide +kernel⟩
theorem k__law_count (A : All w K mg) : FnK P w K mg base 1 ⟨"_law_count", 3, F__law_count⟩ := by
  obtain ⟨f, fd, hm, F⟩ := A.f__law_count
  exact fn_in A.fr (He5.fun_of F) s__law_count hm (FunD.bindsN (ps := ["_law_count_here", "_law_w", "_law_n"]) F fun _ _ _ _ _ _ us hl => match us, hl with | [_, _, _], _ => rfl) fun X W h =>
  (dss_cons (ds_ret (h.add (h.add (h.ix h.var de_int) (h.mul (h.ix h.var de_int) h.var)) (h.mul (h.mul (h.ix h.var de_int) h.var) h.var)))
  dss_nil)
noncomputable def g__law_at : FS := (sSeq (sRet (fBin dAdd (fBin dAdd (fBin dAdd (fBin dIx (fVar 0) (fC (.int 0))) (fBin dMul (fBin dIx (fVar 0) (fC (.int 1))) (fVar 1))) (fBin dMul (fBin dIx (fVar 0) (fC (.int 2))) (fVar 2))) (fBin dMul (fBin dIx (fVar 0) (fC (.int 3))) (fVar 3))))
  sNil)
noncomputable def F__law_at : Fn := runF 4 g__law_at
theorem s__law_at : FnScope ["_law_index", "_law_i", "_law_j", "_law_n"] ["_law_index", "_law_i", "_law_j", "_law_n"] (defScope (top 98)) := ⟨rfl, rfl, rfl, by decide +kernel, rfl, by decide +kernel, by decide +kernel⟩
theorem k__law_at (A : All w K mg) : FnK P w K mg base 1 ⟨"_law_at", 4, F__law_at⟩ := by
  obtain ⟨f, fd, hm, F⟩ := A.f__law_at
  exact fn_in A.fr (He5.fun_of F) s__law_at hm (FunD.bindsN (ps := ["_law_index", "_law_i", "_law_j", "_law_n"]) F fun _ _ _ _ _ _ us hl => match us, hl with | [_, _, _, _], _ => rfl) fun X W h =>
  (dss_cons (ds_ret (h.add (h.add (h.add (h.ix h.var de_int) (h.mul (h.ix h.var de_int) h.var)) (h.mul (h.ix h.var de_int) h.var)) (h.mul (h.ix h.var de_int) h.var)))
  dss_nil)
noncomputable def c__law_reckoned_1 : FE := (fBin dLt (fBin dIx (fVar 16) (fC (.int 1))) (fBin dIx (fVar 16) (fC (.int 2))))
noncomputable def b__law_reckoned_2 : FS := (sSeq (sAsg (fTup (fCons (fC (.str "")) (fCons (fC (.int 0)) (fCons (fC (.int 1)) fNil)))) (gNm 16))
  (sSeq (sIf (fB (fBin dEq (fBin dIx (fVar 15) (fC (.int 0))) (fC (.str "slice")))) (sSeq (sAsg (fTup (fCons (fBin dIx (fVar 15) (fC (.int 1))) (fCons (fCall F__law_at (fCons (fBin dIx (fVar 15) (fC (.int 2))) (fCons (fVar 3) (fCons (fC (.int 0)) (fCons (fVar 2) fNil))))) (fCons (fCall F__law_at (fCons (fBin dIx (fVar 15) (fC (.int 3))) (fCons (fVar 3) (fCons (fC (.int 0)) (fCons (fVar 2) fNil))))) fNil)))) (gNm 16))
  sNil) sNil)
  (sSeq (sDrop (fMth "list" oAppend (fVar 14) (fCons (fVar 16) fNil)))
  sNil)))
noncomputable def b__law_reckoned_3 : FS := (sSeq (sAsg (fVar 6) (gTupN [8, 9, 10, 11, 12, 13]))
  (sSeq (sAsg (fLst fNil) (gNm 14))
  (sSeq (sFor (fSeq (fVar 7)) (gNm 15) b__law_reckoned_2)
  (sSeq (sIf (fTru (fCall oAll (fCons (fLc true [16] (fSeq (fVar 14)) (.one 16) fYes c__law_reckoned_1) fNil))) (sSeq (sAsg (fTup (fCons (fBin dAdd (fBin dAdd (fVar 8) (fBin dMul (fVar 9) (fVar 3))) (fBin dMul (fVar 1) (fBin dAdd (fBin dMul (fVar 11) (fVar 3)) (fBin dMul (fVar 13) (fVar 2))))) (fCons (fCall oTuple (fCons (fCall oSortN (fCons (fVar 14) fNil)) fNil)) fNil))) (gNm 17))
  (sSeq (sSetIxN (fVar 4) (fVar 17) (fBin dAdd (fGetN (fVar 4) (fCons (fVar 17) (fCons (fC (.int 0)) fNil))) (fVar 5)))
  sNil)) sNil)
  sNil))))
noncomputable def g__law_reckoned : FS := (sSeq (sAsg fNewN (gNm 4))
  (sSeq (sFor (fSeq (fVar 0)) (gTupN [5, 6, 7]) b__law_reckoned_3)
  (sSeq (sRet (fFiltN 4 17))
  sNil)))
noncomputable def F__law_reckoned : Fn := runF 18 g__law_reckoned
theorem s__law_reckoned : FnScope ["_law_terms", "_law_w", "_law_n", "_law_i", "_law_sums", "_law_f", "_law_numbers", "_law_things", "_law_c", "_law_by_i", "_law_by_j", "_law_p", "_law_q", "_law_r", "_law_parts", "_law_thing_here", "_law_part_here", "_law_key"] ["_law_terms", "_law_w", "_law_n", "_law_i"] (defScope (top 100)) := ⟨rfl, rfl, rfl, by decide +kernel, rfl, by decide +kernel, by decide +kernel⟩
theorem k__law_reckoned (A : All w K mg) : FnK P w K mg base 2 ⟨"_law_reckoned", 4, F__law_reckoned⟩ := by
  obtain ⟨f, fd, hm, F⟩ := A.f__law_reckoned
  exact fn_in A.fr (He5.fun_of F) s__law_reckoned hm (FunD.bindsN (ps := ["_law_terms", "_law_w", "_law_n", "_law_i"]) F fun _ _ _ _ _ _ us hl => match us, hl with | [_, _, _, _], _ => rfl) fun X W h =>
  (dss_cons (h.set h.newN)
  (dss_cons (h.for_ (di_seq h.var) (h.tup (NmTs.mk h (NmTs.mk h (NmTs.mk h NmTs.nil)))) (dss_cons (h.setT h.var (NmTs.mk h (NmTs.mk h (NmTs.mk h (NmTs.mk h (NmTs.mk h (NmTs.mk h NmTs.nil)))))))
  (dss_cons (h.set (de_lst da_nil))
  (dss_cons (h.for_ (di_seq h.var) (InE.nm h) (dss_cons (h.set (de_tup (h.cons de_str (h.cons de_int (h.cons de_int da_nil)))))
  (dss_cons (ds_if (h.eq.tv (h.ix h.var de_int) de_str) (dss_cons (h.set (de_tup (h.cons (h.ix h.var de_int) (h.cons (h.call (k__law_at A) (h.cons (h.ix h.var de_int) (h.cons h.var (h.cons de_int (h.cons h.var da_nil)))) (FsN.cons (FsN.cons (FsN.cons (FsN.cons FsN.nil)))).len) (h.cons (h.call (k__law_at A) (h.cons (h.ix h.var de_int) (h.cons h.var (h.cons de_int (h.cons h.var da_nil)))) (FsN.cons (FsN.cons (FsN.cons (FsN.cons FsN.nil)))).len) da_nil)))))
  dss_nil) dss_nil)
  (dss_cons (h.expr (h.m_append h.var (h.cons h.var da_nil)))
  dss_nil))))
  (dss_cons (ds_if (dt_tru (h.all_ (h.cons (h.lc [("_law_part_here", 16)] (di_seq h.var) (fun s H C cl fp => have b := h.blk s H C cl fp; b.nmB) (fun _ _ _ _ _ => pts_yes) (fun s H C cl fp => have b := h.blk s H C cl fp; (b.lt.ev (b.ix b.var de_int) (b.ix b.var de_int)))) da_nil)) rfl) (dss_cons (h.set (de_tup (h.cons (h.add (h.add h.var (h.mul h.var h.var)) (h.mul h.var (h.add (h.mul h.var h.var) (h.mul h.var h.var)))) (h.cons (h.tuple_ (h.cons (h.sortedN_ (h.cons h.var da_nil)) da_nil)) da_nil))))
  (dss_cons (h.setIxN (h.add (h.getN h.var (h.cons h.var (h.cons de_int da_nil))) h.var) h.var h.var)
  dss_nil)) dss_nil)
  dss_nil)))))
  (dss_cons (ds_ret (h.filtN [("_law_key", 17)]))
  dss_nil)))
def ixU (u : Bool) (a : Ix) : D := .tup u [.int a.c, .int a.i, .int a.j, .int a.m]
def thU (u : Bool) : Thing → D
  | .slice l a b => .tup u [.str "slice", .str l, ixU u a, ixU u b]
  | .mark => .tup u [.str "mark"]
def tmU (u : Bool) (t : Term) : D := .tup u [.int t.f, .tup u [.int t.e0, .int t.e1, .int t.e2, .int t.e3, .int t.e4, .int t.e5], .tup u (t.th.map (thU u))]
theorem thU_enc : ∀ th : Thing, encThing th = thU false th
  | .slice _ _ _ => rfl
  | .mark => rfl
theorem tmU_enc (t : Term) : encTerm t = tmU false t := by
  have e : t.th.map encThing = t.th.map (thU false) := List.map_congr_left fun th _ => thU_enc th
  unfold encTerm tmU
  rw [e]
abbrev P3 := Str × Int × Int
def thPart (n i : Int) : Thing → P3
  | .slice l a b => (l, a.at n i 0, b.at n i 0)
  | .mark => ("", 0, 1)
def partD (p : P3) : D := .tup true [.str p.1, .int p.2.1, .int p.2.2]
def partK (p : P3) : NestedKey := .tup [.text p.1, .num p.2.1, .num p.2.2]
def sortP : List P3 → List P3
  | [x, y] => if x.1.cps.toList < y.1.cps.toList then [x, y] else [y, x]
  | l => l
def srtB : List P3 → Bool
  | [] => true
  | [_] => true
  | [x, y] => decide (x.1.cps.toList < y.1.cps.toList) || decide (y.1.cps.toList < x.1.cps.toList)
  | _ => false
def okTh : Thing → Bool
  | .slice _ a b => okIx a && okIx b
  | .mark => true
def liveT (n i : Int) (t : Term) : Bool := t.th.all fun th => decide ((thPart n i th).2.1 < (thPart n i th).2.2)
def keyT (w n i : Int) (t : Term) : List NestedKey := [.num (t.e0 + t.e1 * i + w * (t.e3 * i + t.e5 * n)), .tup ((sortP (t.th.map (thPart n i))).map partK)]
def recK (w n i : Int) : List Term → List (NestedKey × D) → Option (List (NestedKey × D))
  | [], acc => some acc
  | t :: ts, acc => if liveT n i t = true then if freshN acc (.tup (keyT w n i t)) = true then recK w n i ts (acc ++ [(.tup (keyT w n i t), .int t.f)]) else none else recK w n i ts acc
theorem law_atU (u : Bool) (a : Ix) (i j n : Int) (S : Sg) (h : okIx a = true) : F__law_at [ixU u a, .int i, .int j, .int n] S = .ok (.int (a.at n i j)) S := by
  obtain ⟨_, h2, h3, h4⟩ := ix_small h
  have m2 := fun S => mulL (S := S) (i := a.i) (j := i) (by omega) (by omega)
  have m3 := fun S => mulL (S := S) (i := a.j) (j := j) (by omega) (by omega)
  have m4 := fun S => mulL (S := S) (i := a.m) (j := n) (by omega) (by omega)
  simp [F__law_at, g__law_at, runF_e, startE, List.replicate, ixU, m2, m3, m4, Ix.at]
theorem nks_parts : ∀ ps : List P3, nksOf (ps.map partD) = some (ps.map partK)
  | [] => rfl
  | p :: ps => by
    rw [List.map_cons, List.map_cons]
    unfold nksOf
    rw [nks_parts ps]
    rfl
theorem depth_parts : ∀ ps : List P3, NestedKey.depthAll (ps.map partK) ≤ 1
  | [] => by decide
  | p :: ps => by
    rw [List.map_cons]
    unfold NestedKey.depthAll
    have h1 : (partK p).depth ≤ 1 := by simp [partK, NestedKey.depth, NestedKey.depthAll]
    have h2 := depth_parts ps
    omega
theorem key_depth (w n i : Int) (t : Term) : (NestedKey.tup (keyT w n i t)).depth ≤ 8 := by
  have := depth_parts (sortP (t.th.map (thPart n i)))
  simp only [keyT, NestedKey.depth, NestedKey.depthAll]
  omega
theorem sortN_ok {S : Sg} {l : Nat} {ps : List P3} (h : S[l]? = some (.lst (ps.map partD))) (hs : srtB ps = true) : oSortN [.obj l] S = .ok (.obj S.length) (S ++ [.lst ((sortP ps).map partD)]) := by
  have hl : lstD S (.obj l) = some (ps.map partD) := lstD_obj h
  unfold oSortN
  simp only [hl]
  match ps, hs with
  | [], _ => rfl
  | [_], _ => rfl
  | [x, y], hs =>
    simp only [srtB, Bool.or_eq_true, decide_eq_true_eq] at hs
    simp only [List.map_cons, List.map_nil, partD, tripD, sortP]
    by_cases hc : x.1.cps.toList < y.1.cps.toList
    · rw [if_pos hc, if_pos hc]
      rfl
    · rw [if_neg hc, if_neg hc, if_pos (by rcases hs with h | h; exact absurd h hc; exact h)]
      rfl
theorem things_r (u : Bool) (w n i : Int) (TD f nm th7 : D) (k : Nat) (z0 z1 z2 z3 z4 z5 : Int) (A : Sg) (l : Nat) (hA : A.length = l) (y17 : Option D) : ∀ (ths : List Thing) (ps : List P3) (y15 y16 : Option D), (∀ th ∈ ths, okTh th = true) → ps.length + ths.length ≤ 1000 →
    ∃ y15' y16', forL (fun _ => True) (gNm 15) b__law_reckoned_2 (ths.map (thU u)) [some (.v TD), some (.v (.int w)), some (.v (.int n)), some (.v (.int i)), some (.v (.obj k)), some (.v f), some (.v nm), some (.v th7), some (.v (.int z0)), some (.v (.int z1)), some (.v (.int z2)), some (.v (.int z3)), some (.v (.int z4)), some (.v (.int z5)), some (.v (.obj l)), sl y15, sl y16, sl y17] (A ++ [.lst (ps.map partD)]) =
      .nx [some (.v TD), some (.v (.int w)), some (.v (.int n)), some (.v (.int i)), some (.v (.obj k)), some (.v f), some (.v nm), some (.v th7), some (.v (.int z0)), some (.v (.int z1)), some (.v (.int z2)), some (.v (.int z3)), some (.v (.int z4)), some (.v (.int z5)), some (.v (.obj l)), sl y15', sl y16', sl y17] (A ++ [.lst ((ps ++ ths.map (thPart n i)).map partD)])
  | [], ps, y15, y16, _, _ => ⟨y15, y16, by rw [List.map_nil, List.map_nil, List.append_nil]; exact if_pos trivial⟩
  | th :: ths, ps, y15, y16, hm, hl => by
    have h1 := hm th List.mem_cons_self
    rw [List.length_cons] at hl
    have ha : (A ++ [MO.lst (ps.map partD)])[l]? = some (.lst (ps.map partD)) := by rw [← hA]; exact app_get0 _ _ _
    have ap := append_ok (d := partD (thPart n i th)) ha (by rw [List.length_map]; unfold sizeLine; omega)
    have es : (A ++ [MO.lst (ps.map partD)]).set l (.lst (ps.map partD ++ [partD (thPart n i th)])) = A ++ [.lst ((ps ++ [thPart n i th]).map partD)] := by
      rw [← hA, app_set0, List.map_append]
      rfl
    rw [es] at ap
    have ty : tyM (A ++ [MO.lst (ps.map partD)]) (.obj l) = some "list" := by rw [tyM_o, ha]; rfl
    have eb : b__law_reckoned_2 [some (.v TD), some (.v (.int w)), some (.v (.int n)), some (.v (.int i)), some (.v (.obj k)), some (.v f), some (.v nm), some (.v th7), some (.v (.int z0)), some (.v (.int z1)), some (.v (.int z2)), some (.v (.int z3)), some (.v (.int z4)), some (.v (.int z5)), some (.v (.obj l)), some (.v (thU u th)), sl y16, sl y17] (A ++ [.lst (ps.map partD)]) = .nx [some (.v TD), some (.v (.int w)), some (.v (.int n)), some (.v (.int i)), some (.v (.obj k)), some (.v f), some (.v nm), some (.v th7), some (.v (.int z0)), some (.v (.int z1)), some (.v (.int z2)), some (.v (.int z3)), some (.v (.int z4)), some (.v (.int z5)), some (.v (.obj l)), some (.v (thU u th)), some (.v (partD (thPart n i th))), sl y17] (A ++ [.lst ((ps ++ [thPart n i th]).map partD)]) := by
      generalize (A ++ [MO.lst (ps.map partD)]) = S1 at *
      generalize (A ++ [MO.lst ((ps ++ [thPart n i th]).map partD)]) = S2 at *
      cases th with
      | mark =>
        simp only [thPart, partD] at ap ⊢
        simp [b__law_reckoned_2, thU, sizeLine, ty, ap]
      | slice l2 a b =>
        simp only [okTh, Bool.and_eq_true] at h1
        have e1 := fun S => law_atU u a i 0 n S h1.1
        have e2 := fun S => law_atU u b i 0 n S h1.2
        simp only [thPart, partD] at ap ⊢
        simp only [thU]
        generalize a.at n i 0 = va at *
        generalize b.at n i 0 = vb at *
        generalize ixU u a = ia at *
        generalize ixU u b = ib at *
        simp [b__law_reckoned_2, thU, sizeLine, ty, ap, e1, e2]
    obtain ⟨y15', y16', e⟩ := things_r u w n i TD f nm th7 k z0 z1 z2 z3 z4 z5 A l hA y17 ths (ps ++ [thPart n i th]) (some (thU u th)) (some (partD (thPart n i th))) (fun z hz => hm z (List.mem_cons_of_mem _ hz)) (by rw [List.length_append]; simp; omega)
    refine ⟨y15', y16', ?_⟩
    rw [List.map_cons]
    unfold forL
    rw [if_pos trivial]
    have ef : gNm 15 (thU u th) [some (.v TD), some (.v (.int w)), some (.v (.int n)), some (.v (.int i)), some (.v (.obj k)), some (.v f), some (.v nm), some (.v th7), some (.v (.int z0)), some (.v (.int z1)), some (.v (.int z2)), some (.v (.int z3)), some (.v (.int z4)), some (.v (.int z5)), some (.v (.obj l)), sl y15, sl y16, sl y17] = some [some (.v TD), some (.v (.int w)), some (.v (.int n)), some (.v (.int i)), some (.v (.obj k)), some (.v f), some (.v nm), some (.v th7), some (.v (.int z0)), some (.v (.int z1)), some (.v (.int z2)), some (.v (.int z3)), some (.v (.int z4)), some (.v (.int z5)), some (.v (.obj l)), some (.v (thU u th)), sl y16, sl y17] := rfl
    rw [ef]
    simp only [eb]
    rw [List.append_assoc] at e
    rw [List.map_cons]
    exact e
structure TmR (n i : Int) (t : Term) : Prop where
  th : ∀ x ∈ t.th, okTh x = true
  l : t.th.length ≤ 2
  s : srtB (t.th.map (thPart n i)) = true
  e1 : t.e1.natAbs ≤ 1000
  e3 : t.e3.natAbs ≤ 1000
  e5 : t.e5.natAbs ≤ 1000
theorem term_r (u : Bool) {w n i : Int} (w0 : 0 ≤ w) (w1 : w ≤ 100) (TD : D) (S0 T : Sg) (k : Nat) (hk : S0.length = k) (acc : List (NestedKey × D)) (ha : acc.length ≤ 100) (t : Term) (ok : TmR n i t) (acc2 : List (NestedKey × D))
    (hr : (if liveT n i t = true then if freshN acc (.tup (keyT w n i t)) = true then some (acc ++ [(NestedKey.tup (keyT w n i t), D.int t.f)]) else none else some acc) = some acc2) (y5 y6 y7 y8 y9 y10 y11 y12 y13 y14 y15 y16 y17 : Option D) :
    ∃ T' z5 z6 z7 z8 z9 z10 z11 z12 z13 z14 z15 z16 z17, b__law_reckoned_3 [some (.v TD), some (.v (.int w)), some (.v (.int n)), some (.v (.int i)), some (.v (.obj k)), some (.v (.int t.f)), some (.v (.tup u [.int t.e0, .int t.e1, .int t.e2, .int t.e3, .int t.e4, .int t.e5])), some (.v (.tup u (t.th.map (thU u)))), sl y8, sl y9, sl y10, sl y11, sl y12, sl y13, sl y14, sl y15, sl y16, sl y17] (S0 ++ .dN acc :: T) = .nx [some (.v TD), some (.v (.int w)), some (.v (.int n)), some (.v (.int i)), some (.v (.obj k)), sl z5, sl z6, sl z7, sl z8, sl z9, sl z10, sl z11, sl z12, sl z13, sl z14, sl z15, sl z16, sl z17] (S0 ++ .dN acc2 :: T') := by
  obtain ⟨l, hl⟩ : ∃ l, l = (S0 ++ MO.dN acc :: T).length := ⟨_, rfl⟩
  have m1 := fun S => mulL (S := S) (i := t.e1) (j := i) (by have := ok.e1; omega) (by have := ok.e1; omega)
  have m3 := fun S => mulL (S := S) (i := t.e3) (j := i) (by have := ok.e3; omega) (by have := ok.e3; omega)
  have m5 := fun S => mulL (S := S) (i := t.e5) (j := n) (by have := ok.e5; omega) (by have := ok.e5; omega)
  have mw := fun S => mulL (S := S) (i := w) (j := t.e3 * i + t.e5 * n) (by omega) (by omega)
  obtain ⟨x15, x16, e1⟩ := things_r u w n i TD (.int t.f) (.tup u [.int t.e0, .int t.e1, .int t.e2, .int t.e3, .int t.e4, .int t.e5]) (.tup u (t.th.map (thU u))) k t.e0 t.e1 t.e2 t.e3 t.e4 t.e5 (S0 ++ .dN acc :: T) l hl.symm y17 t.th [] y15 y16 ok.th (by have := ok.l; simp; omega)
  rw [List.nil_append, List.map_nil] at e1
  obtain ⟨ps, hps⟩ : ∃ ps, ps = t.th.map (thPart n i) := ⟨_, rfl⟩
  have hpl : ps.length ≤ 2 := by rw [hps, List.length_map]; exact ok.l
  rw [← hps] at e1
  obtain ⟨S1, hS1⟩ : ∃ S1, S1 = S0 ++ .dN acc :: T ++ [MO.lst (ps.map partD)] := ⟨_, rfl⟩
  have g1 : ∀ X, (S1 ++ X)[l]? = some (.lst (ps.map partD)) := fun X => by
    rw [hS1, List.append_assoc, hl]
    exact app_get0 _ _ _
  have g1' : S1[l]? = some (.lst (ps.map partD)) := by have := g1 []; rwa [List.append_nil] at this
  have seq : iSeq (.obj l) S1 = .ok ⟨ps.map partD, still (.obj l) (ps.map partD)⟩ S1 := iSeq_obj g1'
  have lv : liveT n i t = ps.all fun p => decide (p.2.1 < p.2.2) := by
    rw [hps, List.all_map]
    rfl
  have ea : fLc true [16] (fSeq (fVar 14)) (.one 16) fYes c__law_reckoned_1 [some (.v TD), some (.v (.int w)), some (.v (.int n)), some (.v (.int i)), some (.v (.obj k)), some (.v (.int t.f)), some (.v (.tup u [.int t.e0, .int t.e1, .int t.e2, .int t.e3, .int t.e4, .int t.e5])), some (.v (.tup u (t.th.map (thU u)))), some (.v (.int t.e0)), some (.v (.int t.e1)), some (.v (.int t.e2)), some (.v (.int t.e3)), some (.v (.int t.e4)), some (.v (.int t.e5)), some (.v (.obj l)), sl x15, sl x16, sl y17] S1 = .ok (.il (ps.map fun p => .bl (decide (p.2.1 < p.2.2)))) S1 :=
    fLc_mapP (k := partD) (P := still (.obj l) (ps.map partD)) (fun p => .bl (decide (p.2.1 < p.2.2))) (by simp [seq]) (fun X => g1 X) (by simp [noExc, sl]) (fun p _ => by
      refine ⟨[some (.v TD), some (.v (.int w)), some (.v (.int n)), some (.v (.int i)), some (.v (.obj k)), some (.v (.int t.f)), some (.v (.tup u [.int t.e0, .int t.e1, .int t.e2, .int t.e3, .int t.e4, .int t.e5])), some (.v (.tup u (t.th.map (thU u)))), some (.v (.int t.e0)), some (.v (.int t.e1)), some (.v (.int t.e2)), some (.v (.int t.e3)), some (.v (.int t.e4)), some (.v (.int t.e5)), some (.v (.obj l)), sl x15, some (.v (partD p)), sl y17], ?_, fun X => ?_⟩
      · simp [Tg.f, gNm, wipeE]
      · simp [c__law_reckoned_1, partD]) (by unfold sizeLine; omega) (fun _ _ => rfl)
  have eal := oAll_map (fun p : P3 => decide (p.2.1 < p.2.2)) ps S1
  rw [← lv] at eal
  have e0 : ∀ X, b__law_reckoned_3 [some (.v TD), some (.v (.int w)), some (.v (.int n)), some (.v (.int i)), some (.v (.obj k)), some (.v (.int t.f)), some (.v (.tup u [.int t.e0, .int t.e1, .int t.e2, .int t.e3, .int t.e4, .int t.e5])), some (.v (.tup u (t.th.map (thU u)))), sl y8, sl y9, sl y10, sl y11, sl y12, sl y13, sl y14, sl y15, sl y16, sl y17] X = _ := fun X => rfl
  clear e0
  by_cases hlive : liveT n i t = true
  · rw [if_pos hlive] at hr
    by_cases hfr : freshN acc (.tup (keyT w n i t)) = true
    · rw [if_pos hfr] at hr
      cases hr
      obtain ⟨S2, hS2⟩ : ∃ S2, S2 = S1 ++ [MO.lst ((sortP ps).map partD)] := ⟨_, rfl⟩
      have so := sortN_ok g1' (by rw [hps]; exact ok.s)
      rw [← hS2] at so
      have tu : oTuple [.obj S1.length] S2 = .ok (.tup true ((sortP ps).map partD)) S2 := oTuple_obj (by rw [hS2]; exact app_get0 _ _ _)
      have hS2' : S2 = S0 ++ MO.dN acc :: (T ++ [MO.lst (ps.map partD), MO.lst ((sortP ps).map partD)]) := by rw [hS2, hS1]; simp
      have gd : S2[k]? = some (.dN acc) := by rw [hS2', ← hk]; exact app_get0 _ _ _
      have nk : nksOf [.int (t.e0 + t.e1 * i + w * (t.e3 * i + t.e5 * n)), .tup true ((sortP ps).map partD)] = some (keyT w n i t) := by
        have e := nks_parts (sortP ps)
        have e2 : nkOf (.tup true ((sortP ps).map partD)) = some (.tup ((sortP ps).map partK)) := by unfold nkOf; rw [e]; rfl
        unfold nksOf
        rw [show nkOf (D.int (t.e0 + t.e1 * i + w * (t.e3 * i + t.e5 * n))) = some (.num (t.e0 + t.e1 * i + w * (t.e3 * i + t.e5 * n))) by unfold nkOf; rfl]
        unfold nksOf
        rw [e2]
        unfold nksOf
        rw [hps]
        rfl
      have hd := key_depth w n i t
      have st : setIxN (.obj k) (.tup true [.int (t.e0 + t.e1 * i + w * (t.e3 * i + t.e5 * n)), .tup true ((sortP ps).map partD)]) (.int t.f) S2 = some (S0 ++ .dN (acc ++ [(.tup (keyT w n i t), .int t.f)]) :: (T ++ [MO.lst (ps.map partD), MO.lst ((sortP ps).map partD)])) := by
        unfold setIxN
        simp only [gd, nk]
        rw [if_pos ⟨by unfold sizeLine; omega, hd, hfr⟩, hS2', ← hk, app_set0]
      refine ⟨T ++ [MO.lst (ps.map partD), MO.lst ((sortP ps).map partD)], some (.int t.f), some (.tup u [.int t.e0, .int t.e1, .int t.e2, .int t.e3, .int t.e4, .int t.e5]), some (.tup u (t.th.map (thU u))), some (.int t.e0), some (.int t.e1), some (.int t.e2), some (.int t.e3), some (.int t.e4), some (.int t.e5), some (.obj l), x15, x16, some (.tup true [.int (t.e0 + t.e1 * i + w * (t.e3 * i + t.e5 * n)), .tup true ((sortP ps).map partD)]), ?_⟩
      have get : ∀ env : Env, env[4]? = some (some (.v (.obj k))) → env[17]? = some (some (.v (.tup true [.int (t.e0 + t.e1 * i + w * (t.e3 * i + t.e5 * n)), .tup true ((sortP ps).map partD)]))) → fGetN (fVar 4) (fCons (fVar 17) (fCons (fC (.int 0)) fNil)) env S2 = .ok (.int 0) S2 := fun env h4 h17 => by
        unfold fGetN
        have a4 : fVar 4 env S2 = .ok (.obj k) S2 := fVar_e h4
        have a17 : fVar 17 env S2 = .ok (.tup true [.int (t.e0 + t.e1 * i + w * (t.e3 * i + t.e5 * n)), .tup true ((sortP ps).map partD)]) S2 := fVar_e h17
        simp only [a4, Res.bind_ok, gd]
        have ar : fCons (fVar 17) (fCons (fC (.int 0)) fNil) env S2 = .ok [.tup true [.int (t.e0 + t.e1 * i + w * (t.e3 * i + t.e5 * n)), .tup true ((sortP ps).map partD)], .int 0] S2 := by
          simp [a17]
        rw [ar, Res.bind_ok]
        simp only [gd, nk]
        rw [if_pos ⟨hd, hfr⟩]
      generalize hgz : fGetN (fVar 4) (fCons (fVar 17) (fCons (fC (.int 0)) fNil)) = GZ at get
      have e1' := e1
      rw [← hS1] at e1'
      rw [show (S0 ++ MO.dN acc :: T) ++ [MO.lst []] = S0 ++ MO.dN acc :: T ++ [MO.lst []] from rfl] at e1'
      generalize S0 ++ MO.dN (acc ++ [(NestedKey.tup (keyT w n i t), D.int t.f)]) :: (T ++ [MO.lst (ps.map partD), MO.lst ((sortP ps).map partD)]) = S3 at *
      generalize hA1 : S0 ++ MO.dN acc :: T = A1 at *
      rw [b__law_reckoned_3, hgz]
      clear hgz hS2' hS2 hS1 g1
      generalize (sortP ps).map partD = sp at *
      generalize (ps.map fun p => D.bl (decide (p.2.1 < p.2.2))) = BL at *
      generalize t.th.map (thU u) = TH at *
      simp [← hl, e1', ea, eal, hlive, m1, m3, m5, mw, so, tu, get, st, sizeLine]
    · rw [if_neg hfr] at hr
      cases hr
  · rw [if_neg hlive] at hr
    cases hr
    have hlf : liveT n i t = false := by simpa using hlive
    refine ⟨T ++ [MO.lst (ps.map partD)], some (.int t.f), some (.tup u [.int t.e0, .int t.e1, .int t.e2, .int t.e3, .int t.e4, .int t.e5]), some (.tup u (t.th.map (thU u))), some (.int t.e0), some (.int t.e1), some (.int t.e2), some (.int t.e3), some (.int t.e4), some (.int t.e5), some (.obj l), x15, x16, y17, ?_⟩
    have e1' := e1
    rw [← hS1] at e1'
    have hS1' : S0 ++ MO.dN acc :: (T ++ [MO.lst (ps.map partD)]) = S1 := by rw [hS1]; simp
    rw [hS1']
    generalize hA1 : S0 ++ MO.dN acc :: T = A1 at *
    rw [b__law_reckoned_3]
    clear hS1 hS1' g1
    generalize (ps.map fun p => D.bl (decide (p.2.1 < p.2.2))) = BL at *
    generalize t.th.map (thU u) = TH at *
    simp [← hl, e1', ea, eal, hlf, sizeLine]
theorem recK_cons {w n i : Int} {t : Term} {ts : List Term} {acc res : List (NestedKey × D)} (h : recK w n i (t :: ts) acc = some res) :
    ∃ acc2, (if liveT n i t = true then if freshN acc (.tup (keyT w n i t)) = true then some (acc ++ [(NestedKey.tup (keyT w n i t), D.int t.f)]) else none else some acc) = some acc2 ∧ recK w n i ts acc2 = some res := by
  unfold recK at h
  by_cases h1 : liveT n i t = true
  · rw [if_pos h1] at h ⊢
    by_cases h2 : freshN acc (.tup (keyT w n i t)) = true
    · rw [if_pos h2] at h ⊢
      exact ⟨_, rfl, h⟩
    · rw [if_neg h2] at h
      cases h
  · rw [if_neg h1] at h ⊢
    exact ⟨_, rfl, h⟩
theorem recK_ok {w n i : Int} : ∀ {ts : List Term} {acc res : List (NestedKey × D)}, recK w n i ts acc = some res → acc.all (fun kv => isIntD kv.2) = true → (acc.map (·.1)).Nodup → res.all (fun kv => isIntD kv.2) = true ∧ (res.map (·.1)).Nodup ∧ res.length ≤ acc.length + ts.length
  | [], acc, res, h, h1, h2 => by
    cases h
    exact ⟨h1, h2, by simp⟩
  | t :: ts, acc, res, h, h1, h2 => by
    obtain ⟨acc2, e, h⟩ := recK_cons h
    split at e
    · split at e
      · rename_i hf
        cases e
        obtain ⟨q1, q2, q3⟩ := recK_ok h (by rw [List.all_append, h1]; rfl) (by
          rw [List.map_append, List.nodup_append]
          refine ⟨h2, by simp, fun a ha b hb => ?_⟩
          simp at hb
          subst hb
          intro e
          obtain ⟨kv, hk, rfl⟩ := List.mem_map.mp ha
          have := List.all_eq_true.mp hf kv hk
          rw [e] at this
          simp at this)
        refine ⟨q1, q2, ?_⟩
        rw [List.length_append] at q3
        simp only [List.length_cons, List.length_nil] at q3 ⊢
        omega
      · cases e
    · cases e
      obtain ⟨q1, q2, q3⟩ := recK_ok h h1 h2
      exact ⟨q1, q2, by rw [List.length_cons]; omega⟩
theorem fFiltN_ok {jd jk k : Nat} {env : Env} {S : Sg} {kvs : List (NestedKey × D)} (h : env[jd]? = some (some (.v (.obj k)))) (hS : S[k]? = some (.dN kvs)) (hl : kvs.length < sizeLine) (hi : kvs.all (fun kv => isIntD kv.2) = true) (hj : jk < env.length) :
    fFiltN jd jk env S = .ok (.obj S.length) (S ++ [.dN (kvs.filter fun kv => nzD kv.2)]) := by
  unfold fFiltN
  simp only [h, hS]
  rw [if_pos ⟨hl, hi, hj⟩]
theorem terms_r (u : Bool) {w n i : Int} (w0 : 0 ≤ w) (w1 : w ≤ 100) (TD : D) (S0 : Sg) (k : Nat) (hk : S0.length = k) (okf : Sg → Prop) (hok : ∀ X, okf (S0 ++ X)) : ∀ (ts : List Term) (acc res : List (NestedKey × D)) (T : Sg) (y5 y6 y7 y8 y9 y10 y11 y12 y13 y14 y15 y16 y17 : Option D), (∀ t ∈ ts, TmR n i t) → acc.length + ts.length ≤ 100 → recK w n i ts acc = some res →
    ∃ T' z5 z6 z7 z8 z9 z10 z11 z12 z13 z14 z15 z16 z17, forL okf (gTupN [5, 6, 7]) b__law_reckoned_3 (ts.map (tmU u)) [some (.v TD), some (.v (.int w)), some (.v (.int n)), some (.v (.int i)), some (.v (.obj k)), sl y5, sl y6, sl y7, sl y8, sl y9, sl y10, sl y11, sl y12, sl y13, sl y14, sl y15, sl y16, sl y17] (S0 ++ .dN acc :: T) = .nx [some (.v TD), some (.v (.int w)), some (.v (.int n)), some (.v (.int i)), some (.v (.obj k)), sl z5, sl z6, sl z7, sl z8, sl z9, sl z10, sl z11, sl z12, sl z13, sl z14, sl z15, sl z16, sl z17] (S0 ++ .dN res :: T')
  | [], acc, res, T, y5, y6, y7, y8, y9, y10, y11, y12, y13, y14, y15, y16, y17, _, _, h => by
    cases h
    exact ⟨T, y5, y6, y7, y8, y9, y10, y11, y12, y13, y14, y15, y16, y17, if_pos (hok _)⟩
  | t :: ts, acc, res, T, y5, y6, y7, y8, y9, y10, y11, y12, y13, y14, y15, y16, y17, hm, hl, h => by
    obtain ⟨acc2, e, h⟩ := recK_cons h
    rw [List.length_cons] at hl
    have l2 : acc2.length ≤ acc.length + 1 := by
      split at e
      · split at e
        · cases e; simp
        · cases e
      · cases e; omega
    obtain ⟨T1, x5, x6, x7, x8, x9, x10, x11, x12, x13, x14, x15, x16, x17, eb⟩ := term_r u w0 w1 TD S0 T k hk acc (by omega) t (hm t List.mem_cons_self) acc2 e y5 y6 y7 y8 y9 y10 y11 y12 y13 y14 y15 y16 y17
    obtain ⟨T2, z5, z6, z7, z8, z9, z10, z11, z12, z13, z14, z15, z16, z17, e2⟩ := terms_r u w0 w1 TD S0 k hk okf hok ts acc2 res T1 x5 x6 x7 x8 x9 x10 x11 x12 x13 x14 x15 x16 x17 (fun z hz => hm z (List.mem_cons_of_mem _ hz)) (by omega) h
    refine ⟨T2, z5, z6, z7, z8, z9, z10, z11, z12, z13, z14, z15, z16, z17, ?_⟩
    rw [List.map_cons]
    unfold forL
    rw [if_pos (hok _)]
    have ef : gTupN [5, 6, 7] (tmU u t) [some (.v TD), some (.v (.int w)), some (.v (.int n)), some (.v (.int i)), some (.v (.obj k)), sl y5, sl y6, sl y7, sl y8, sl y9, sl y10, sl y11, sl y12, sl y13, sl y14, sl y15, sl y16, sl y17] = some [some (.v TD), some (.v (.int w)), some (.v (.int n)), some (.v (.int i)), some (.v (.obj k)), some (.v (.int t.f)), some (.v (.tup u [.int t.e0, .int t.e1, .int t.e2, .int t.e3, .int t.e4, .int t.e5])), some (.v (.tup u (t.th.map (thU u)))), sl y8, sl y9, sl y10, sl y11, sl y12, sl y13, sl y14, sl y15, sl y16, sl y17] := rfl
    rw [ef]
    simp only [eb]
    exact e2
theorem reckoned_ok (u : Bool) {w n i : Int} (w0 : 0 ≤ w) (w1 : w ≤ 100) (TD : D) (S : Sg) (okf : Sg → Prop) (ts : List Term) (hseq : iSeq TD (S ++ [.dN []]) = .ok ⟨ts.map (tmU u), okf⟩ (S ++ [.dN []])) (hok : ∀ X, okf (S ++ X)) (hm : ∀ t ∈ ts, TmR n i t) (hl : ts.length ≤ 100) (res : List (NestedKey × D)) (hr : recK w n i ts [] = some res) :
    ∃ U q, F__law_reckoned [TD, .int w, .int n, .int i] S = .ok (.obj q) (S ++ U) ∧ (S ++ U)[q]? = some (.dN (res.filter fun kv => nzD kv.2)) := by
  obtain ⟨q1, _, q3⟩ := recK_ok hr rfl .nil
  obtain ⟨T', z5, z6, z7, z8, z9, z10, z11, z12, z13, z14, z15, z16, z17, e⟩ := terms_r u w0 w1 TD S S.length rfl okf hok ts [] res [] none none none none none none none none none none none none none hm (by simpa using hl) hr
  have ef := fFiltN_ok (jd := 4) (jk := 17) (env := [some (.v TD), some (.v (.int w)), some (.v (.int n)), some (.v (.int i)), some (.v (.obj S.length)), sl z5, sl z6, sl z7, sl z8, sl z9, sl z10, sl z11, sl z12, sl z13, sl z14, sl z15, sl z16, sl z17]) (S := S ++ .dN res :: T') rfl (app_get0 _ _ _) (by simp at q3; unfold sizeLine; omega) q1 (by simp)
  refine ⟨.dN res :: T' ++ [.dN (res.filter fun kv => nzD kv.2)], (S ++ .dN res :: T').length, ?_, ?_⟩
  · rw [← List.append_assoc]
    generalize S ++ .dN res :: T' = S2 at *
    simp only [show sl none = none from rfl] at e
    generalize hS1 : S ++ [MO.dN []] = S1 at *
    simp [F__law_reckoned, g__law_reckoned, runF_e, startE, List.replicate, sizeLine, hS1, hseq, e, ef]
  · rw [← List.append_assoc]
    exact app_get0 _ _ _
noncomputable def g__law_lowest : FS := (sSeq (sRet (fTup (fCons (fC (.str "slice")) (fCons (fVar 0) (fCons (fTup (fCons (fC (.int 0)) (fCons (fC (.int 0)) (fCons (fC (.int 0)) (fCons (fC (.int 0)) fNil))))) (fCons (fTup (fCons (fVar 1) (fCons (fC (.int 0)) (fCons (fC (.int 0)) (fCons (fC (.int 0)) fNil))))) fNil))))))
  sNil)
noncomputable def F__law_lowest : Fn := runF 2 g__law_lowest
theorem s__law_lowest : FnScope ["_law_letter_here", "_law_many"] ["_law_letter_here", "_law_many"] (defScope (top 101)) := ⟨rfl, rfl, rfl, by decide +kernel, rfl, by decide +kernel, by decide +kernel⟩
theorem k__law_lowest (A : All w K mg) : FnK P w K mg base 1 ⟨"_law_lowest", 2, F__law_lowest⟩ := by
  obtain ⟨f, fd, hm, F⟩ := A.f__law_lowest
  exact fn_in A.fr (He5.fun_of F) s__law_lowest hm (FunD.bindsN (ps := ["_law_letter_here", "_law_many"]) F fun _ _ _ _ _ _ us hl => match us, hl with | [_, _], _ => rfl) fun X W h =>
  (dss_cons (ds_ret (de_tup (h.cons de_str (h.cons h.var (h.cons (de_tup (h.cons de_int (h.cons de_int (h.cons de_int (h.cons de_int da_nil))))) (h.cons (de_tup (h.cons h.var (h.cons de_int (h.cons de_int (h.cons de_int da_nil))))) da_nil))))))
  dss_nil)
theorem lowest_ok (l : Str) (m : Int) (S : Sg) : F__law_lowest [.str l, .int m] S = .ok (.tup true [.str "slice", .str l, .tup true [.int 0, .int 0, .int 0, .int 0], .tup true [.int m, .int 0, .int 0, .int 0]]) S := by
  simp [F__law_lowest, g__law_lowest, runF_e, startE, List.replicate, sizeLine]
noncomputable def g__law_due_terms : FS := (sSeq (sIf (fB (fBin dEq (fVar 0) (fC (.str "product")))) (sSeq (sAsg (fLst (fCons (fTup (fCons (fC (.int 1)) (fCons (fTup (fCons (fC (.int 0)) (fCons (fC (.int 0)) (fCons (fC (.int 0)) (fCons (fC (.int 0)) (fCons (fC (.int 0)) (fCons (fC (.int 0)) fNil))))))) (fCons (fTup (fCons (fCall F__law_lowest (fCons (fC (.str "c")) (fCons (fBin dAdd (fVar 2) (fVar 3)) fNil))) fNil)) fNil)))) fNil)) (gNm 4))
  (sSeq (sRet (fBin dAdd (fVar 4) (fLst (fCons (fTup (fCons (fNeg (fC (.int 1))) (fCons (fTup (fCons (fC (.int 0)) (fCons (fC (.int 0)) (fCons (fC (.int 0)) (fCons (fC (.int 0)) (fCons (fC (.int 0)) (fCons (fC (.int 0)) fNil))))))) (fCons (fTup (fCons (fCall F__law_lowest (fCons (fC (.str "a")) (fCons (fVar 2) fNil))) (fCons (fCall F__law_lowest (fCons (fC (.str "b")) (fCons (fVar 3) fNil))) fNil))) fNil)))) fNil))))
  sNil)) sNil)
  (sSeq (sIf (fB (fBin dEq (fVar 0) (fC (.str "quotient")))) (sSeq (sAsg (fTup (fCons (fBin dMul (fVar 1) (fVar 2)) (fCons (fC (.int 0)) (fCons (fC (.int 0)) (fCons (fC (.int 0)) (fCons (fC (.int 0)) (fCons (fC (.int 0)) fNil))))))) (gNm 5))
  (sSeq (sAsg (fLst (fCons (fTup (fCons (fC (.int 1)) (fCons (fTup (fCons (fVar 3) (fCons (fC (.int 0)) (fCons (fC (.int 0)) (fCons (fC (.int 0)) (fCons (fC (.int 0)) (fCons (fC (.int 0)) fNil))))))) (fCons (fTup (fCons (fCall F__law_lowest (fCons (fC (.str "a")) (fCons (fVar 2) fNil))) fNil)) fNil)))) (fCons (fTup (fCons (fNeg (fC (.int 1))) (fCons (fVar 5) (fCons (fTup (fCons (fCall F__law_lowest (fCons (fC (.str "c")) (fCons (fVar 2) fNil))) (fCons (fCall F__law_lowest (fCons (fC (.str "b")) (fCons (fVar 2) fNil))) fNil))) fNil)))) fNil))) (gNm 4))
  (sSeq (sRet (fBin dAdd (fVar 4) (fLst (fCons (fTup (fCons (fNeg (fC (.int 1))) (fCons (fVar 5) (fCons (fTup (fCons (fCall F__law_lowest (fCons (fC (.str "d")) (fCons (fBin dAdd (fVar 2) (fC (.int 1))) fNil))) fNil)) fNil)))) (fCons (fTup (fCons (fNeg (fC (.int 1))) (fCons (fTup (fCons (fC (.int 0)) (fCons (fC (.int 0)) (fCons (fC (.int 0)) (fCons (fC (.int 0)) (fCons (fC (.int 0)) (fCons (fC (.int 0)) fNil))))))) (fCons (fTup (fCons (fCall F__law_lowest (fCons (fC (.str "e")) (fCons (fVar 2) fNil))) fNil)) fNil)))) fNil)))))
  sNil))) sNil)
  (sSeq (sAsg (fBin dSub (fC (.int 1)) (fBin dMul (fC (.int 2)) (fCall oInt (fCons (fBin dEq (fVar 0) (fC (.str "difference"))) fNil)))) (gNm 6))
  (sSeq (sAsg (fTup (fCons (fC (.int 0)) (fCons (fC (.int 0)) (fCons (fC (.int 0)) (fCons (fC (.int 0)) (fCons (fC (.int 0)) (fCons (fC (.int 0)) fNil))))))) (gNm 7))
  (sSeq (sAsg (fLst (fCons (fTup (fCons (fC (.int 1)) (fCons (fVar 7) (fCons (fTup (fCons (fCall F__law_lowest (fCons (fC (.str "a")) (fCons (fVar 3) fNil))) fNil)) fNil)))) (fCons (fTup (fCons (fVar 6) (fCons (fVar 7) (fCons (fTup (fCons (fCall F__law_lowest (fCons (fC (.str "b")) (fCons (fVar 3) fNil))) fNil)) fNil)))) fNil))) (gNm 4))
  (sSeq (sRet (fBin dAdd (fVar 4) (fLst (fCons (fTup (fCons (fNeg (fC (.int 1))) (fCons (fVar 7) (fCons (fTup (fCons (fCall F__law_lowest (fCons (fC (.str "c")) (fCons (fVar 3) fNil))) fNil)) fNil)))) (fCons (fTup (fCons (fBin dSub (fC (.int 0)) (fVar 6)) (fCons (fTup (fCons (fBin dMul (fVar 1) (fVar 3)) (fCons (fC (.int 0)) (fCons (fC (.int 0)) (fCons (fC (.int 0)) (fCons (fC (.int 0)) (fCons (fC (.int 0)) fNil))))))) (fCons (fTup (fCons (fTup (fCons (fC (.str "mark")) fNil)) fNil)) fNil)))) fNil)))))
  sNil))))))
noncomputable def F__law_due_terms : Fn := runF 8 g__law_due_terms
theorem s__law_due_terms : FnScope ["_law_word", "_law_w", "_law_n", "_law_i", "_law_here", "_law_wide", "_law_sign_told", "_law_zeros"] ["_law_word", "_law_w", "_law_n", "_law_i"] (defScope (top 102)) := ⟨rfl, rfl, rfl, by decide +kernel, rfl, by decide +kernel, by decide +kernel⟩
theorem k__law_due_terms (A : All w K mg) : FnK P w K mg base 2 ⟨"_law_due_terms", 4, F__law_due_terms⟩ := by
  obtain ⟨f, fd, hm, F⟩ := A.f__law_due_terms
  exact fn_in A.fr (He5.fun_of F) s__law_due_terms hm (FunD.bindsN (ps := ["_law_word", "_law_w", "_law_n", "_law_i"]) F fun _ _ _ _ _ _ us hl => match us, hl with | [_, _, _, _], _ => rfl) fun X W h =>
  (dss_cons (ds_if (h.eq.tv h.var de_str) (dss_cons (h.set (de_lst (h.cons (de_tup (h.cons de_int (h.cons (de_tup (h.cons de_int (h.cons de_int (h.cons de_int (h.cons de_int (h.cons de_int (h.cons de_int da_nil))))))) (h.cons (de_tup (h.cons (h.call (k__law_lowest A) (h.cons de_str (h.cons (h.add h.var h.var) da_nil)) (FsN.cons (FsN.cons FsN.nil)).len) da_nil)) da_nil)))) da_nil)))
  (dss_cons (ds_ret (h.add h.var (de_lst (h.cons (de_tup (h.cons (de_neg de_int) (h.cons (de_tup (h.cons de_int (h.cons de_int (h.cons de_int (h.cons de_int (h.cons de_int (h.cons de_int da_nil))))))) (h.cons (de_tup (h.cons (h.call (k__law_lowest A) (h.cons de_str (h.cons h.var da_nil)) (FsN.cons (FsN.cons FsN.nil)).len) (h.cons (h.call (k__law_lowest A) (h.cons de_str (h.cons h.var da_nil)) (FsN.cons (FsN.cons FsN.nil)).len) da_nil))) da_nil)))) da_nil))))
  dss_nil)) dss_nil)
  (dss_cons (ds_if (h.eq.tv h.var de_str) (dss_cons (h.set (de_tup (h.cons (h.mul h.var h.var) (h.cons de_int (h.cons de_int (h.cons de_int (h.cons de_int (h.cons de_int da_nil))))))))
  (dss_cons (h.set (de_lst (h.cons (de_tup (h.cons de_int (h.cons (de_tup (h.cons h.var (h.cons de_int (h.cons de_int (h.cons de_int (h.cons de_int (h.cons de_int da_nil))))))) (h.cons (de_tup (h.cons (h.call (k__law_lowest A) (h.cons de_str (h.cons h.var da_nil)) (FsN.cons (FsN.cons FsN.nil)).len) da_nil)) da_nil)))) (h.cons (de_tup (h.cons (de_neg de_int) (h.cons h.var (h.cons (de_tup (h.cons (h.call (k__law_lowest A) (h.cons de_str (h.cons h.var da_nil)) (FsN.cons (FsN.cons FsN.nil)).len) (h.cons (h.call (k__law_lowest A) (h.cons de_str (h.cons h.var da_nil)) (FsN.cons (FsN.cons FsN.nil)).len) da_nil))) da_nil)))) da_nil))))
  (dss_cons (ds_ret (h.add h.var (de_lst (h.cons (de_tup (h.cons (de_neg de_int) (h.cons h.var (h.cons (de_tup (h.cons (h.call (k__law_lowest A) (h.cons de_str (h.cons (h.add h.var de_int) da_nil)) (FsN.cons (FsN.cons FsN.nil)).len) da_nil)) da_nil)))) (h.cons (de_tup (h.cons (de_neg de_int) (h.cons (de_tup (h.cons de_int (h.cons de_int (h.cons de_int (h.cons de_int (h.cons de_int (h.cons de_int da_nil))))))) (h.cons (de_tup (h.cons (h.call (k__law_lowest A) (h.cons de_str (h.cons h.var da_nil)) (FsN.cons (FsN.cons FsN.nil)).len) da_nil)) da_nil)))) da_nil)))))
  dss_nil))) dss_nil)
  (dss_cons (h.set (h.sub de_int (h.mul de_int (h.int_ (h.cons (h.eq.ev h.var de_str) da_nil)))))
  (dss_cons (h.set (de_tup (h.cons de_int (h.cons de_int (h.cons de_int (h.cons de_int (h.cons de_int (h.cons de_int da_nil))))))))
  (dss_cons (h.set (de_lst (h.cons (de_tup (h.cons de_int (h.cons h.var (h.cons (de_tup (h.cons (h.call (k__law_lowest A) (h.cons de_str (h.cons h.var da_nil)) (FsN.cons (FsN.cons FsN.nil)).len) da_nil)) da_nil)))) (h.cons (de_tup (h.cons h.var (h.cons h.var (h.cons (de_tup (h.cons (h.call (k__law_lowest A) (h.cons de_str (h.cons h.var da_nil)) (FsN.cons (FsN.cons FsN.nil)).len) da_nil)) da_nil)))) da_nil))))
  (dss_cons (ds_ret (h.add h.var (de_lst (h.cons (de_tup (h.cons (de_neg de_int) (h.cons h.var (h.cons (de_tup (h.cons (h.call (k__law_lowest A) (h.cons de_str (h.cons h.var da_nil)) (FsN.cons (FsN.cons FsN.nil)).len) da_nil)) da_nil)))) (h.cons (de_tup (h.cons (h.sub de_int h.var) (h.cons (de_tup (h.cons (h.mul h.var h.var) (h.cons de_int (h.cons de_int (h.cons de_int (h.cons de_int (h.cons de_int da_nil))))))) (h.cons (de_tup (h.cons (de_tup (h.cons de_str da_nil)) da_nil)) da_nil)))) da_nil)))))
  dss_nil))))))
def lowT (l : Str) (m : Int) : Thing := .slice l ⟨0, 0, 0, 0⟩ ⟨m, 0, 0, 0⟩
def dueQ (w n i : Int) : List Term := [⟨1, i, 0, 0, 0, 0, 0, [lowT "a" n]⟩, ⟨-1, w * n, 0, 0, 0, 0, 0, [lowT "c" n, lowT "b" n]⟩, ⟨-1, w * n, 0, 0, 0, 0, 0, [lowT "d" (n + 1)]⟩, ⟨-1, 0, 0, 0, 0, 0, 0, [lowT "e" n]⟩]
theorem add_ab (S : Sg) (A B : List D) (h : A.length + B.length ≤ 100) : dAdd (.obj S.length) (.obj (S.length + 1)) (S ++ [.lst A, .lst B]) = .ok (.obj (S.length + 2)) (S ++ [.lst A, .lst B, .lst (A ++ B)]) := by
  have := add_objs (S := S ++ [MO.lst A, .lst B]) (k := S.length) (l := S.length + 1) (xs := A) (ys := B) (app_get0 _ _ _) (app_get S _ 1) (by unfold sizeLine; omega)
  simpa using this
theorem due_quot {w : Int} (w0 : 0 ≤ w) (w1 : w ≤ 100) (n i : Int) (S : Sg) : ∃ U m, F__law_due_terms [.str "quotient", .int w, .int n, .int i] S = .ok (.obj m) (S ++ U) ∧ (S ++ U)[m]? = some (.lst ((dueQ w n i).map (tmU true))) := by
  have mw := fun S => mulL (S := S) (i := w) (j := n) (by omega) (by omega)
  have lo := fun l m S => lowest_ok l m S
  refine ⟨[.lst ((dueQ w n i).take 2 |>.map (tmU true)), .lst ((dueQ w n i).drop 2 |>.map (tmU true)), .lst ((dueQ w n i).map (tmU true))], S.length + 2, ?_, ?_⟩
  · have ad := add_ab S ((dueQ w n i).take 2 |>.map (tmU true)) ((dueQ w n i).drop 2 |>.map (tmU true)) (by simp [dueQ])
    simp [dueQ, tmU, thU, lowT, ixU] at ad ⊢
    simp [F__law_due_terms, g__law_due_terms, runF_e, startE, List.replicate, sizeLine, lo, mw, newL, ad]
  · exact app_get S _ 2
noncomputable def b__law_part_says_1 : FS := (sSeq (sIf (fB (fBin dNeN (fCall F__law_reckoned (fCons (fVar 0) (fCons (fVar 3) (fCons (fVar 4) (fCons (fVar 5) fNil))))) (fCall F__law_reckoned (fCons (fCall F__law_due_terms (fCons (fVar 1) (fCons (fVar 3) (fCons (fVar 4) (fCons (fVar 5) fNil))))) (fCons (fVar 3) (fCons (fVar 4) (fCons (fVar 5) fNil))))))) (sSeq (sRet (fC (.bl false)))
  sNil) sNil)
  sNil)
noncomputable def g__law_part_says : FS := (sSeq (sFor (fIt iRange1 (fCons (fBin dAdd (fCall F__law_count (fCons (fVar 2) (fCons (fVar 3) (fCons (fVar 4) fNil)))) (fC (.int 1))) fNil)) (gNm 5) b__law_part_says_1)
  (sSeq (sRet (fC (.bl true)))
  sNil))
noncomputable def R__law_part_says : Fn := runF 6 g__law_part_says
theorem s__law_part_says : FnScope ["_law_sentence", "_law_word", "_law_count_here", "_law_w", "_law_n", "_law_i"] ["_law_sentence", "_law_word", "_law_count_here", "_law_w", "_law_n"] (defScope (top 104)) := ⟨rfl, rfl, rfl, by decide +kernel, rfl, by decide +kernel, by decide +kernel⟩
theorem kr__law_part_says (A : All w K mg) : FnK P w K mg base 3 ⟨"_law_part_says", 5, R__law_part_says⟩ := by
  obtain ⟨f, fd, hm, F⟩ := A.f__law_part_says
  exact fn_in A.fr (He5.fun_of F) s__law_part_says hm (FunD.bindsN (ps := ["_law_sentence", "_law_word", "_law_count_here", "_law_w", "_law_n"]) F fun _ _ _ _ _ _ us hl => match us, hl with | [_, _, _, _, _], _ => rfl) fun X W h =>
  (dss_cons (h.for_ (h.range1 (h.cons (h.add (h.call (k__law_count A) (h.cons h.var (h.cons h.var (h.cons h.var da_nil))) (FsN.cons (FsN.cons (FsN.cons FsN.nil))).len) de_int) da_nil)) (InE.nm h) (dss_cons (ds_if (h.neN.tv (h.call (k__law_reckoned A) (h.cons h.var (h.cons h.var (h.cons h.var (h.cons h.var da_nil)))) (FsN.cons (FsN.cons (FsN.cons (FsN.cons FsN.nil)))).len) (h.call (k__law_reckoned A) (h.cons (h.call (k__law_due_terms A) (h.cons h.var (h.cons h.var (h.cons h.var (h.cons h.var da_nil)))) (FsN.cons (FsN.cons (FsN.cons (FsN.cons FsN.nil)))).len) (h.cons h.var (h.cons h.var (h.cons h.var da_nil)))) (FsN.cons (FsN.cons (FsN.cons (FsN.cons FsN.nil)))).len)) (dss_cons (ds_ret de_bl)
  dss_nil) dss_nil)
  dss_nil))
  (dss_cons (ds_ret de_bl)
  dss_nil))
noncomputable def q__law_part_says : Fn := fun ds S => fgt S (R__law_part_says ds S)
noncomputable abbrev F__law_part_says : Fn := q__law_part_says
theorem w__law_part_says (ds : List D) (S : Sg) (h : ds.length = 5) : Weak S (R__law_part_says ds S) (q__law_part_says ds S) := weak_fgt
def cntU (u : Bool) (a : Cnt) : D := .tup u [.int a.c, .int a.m, .int a.t]
theorem law_countU (u : Bool) (a : Cnt) (w n : Int) (S : Sg) (h : okCnt a = true) (hw : -1000 ≤ w) (hw2 : w ≤ 1000) : F__law_count [cntU u a, .int w, .int n] S = .ok (.int (a.at w n)) S := by
  simp only [okCnt, Bool.and_eq_true] at h
  have h3 := okN_r h.1.2
  have h4 := okN_r h.2
  have b1 : a.t * w ≤ 200 * 1000 ∧ -(200 * 1000) ≤ a.t * w := by
    have h : (a.t * w).natAbs ≤ 200 * 1000 := by
      rw [Int.natAbs_mul]
      exact Nat.mul_le_mul (by omega) (by omega)
    omega
  have m2 := fun S => mulL (S := S) (i := a.m) (j := n) (by omega) (by omega)
  have m3 := fun S => mulL (S := S) (i := a.t) (j := w) (by omega) (by omega)
  have m4 := fun S => mulL (S := S) (i := a.t * w) (j := n) (by omega) (by omega)
  simp [F__law_count, g__law_count, runF_e, startE, List.replicate, cntU, m2, m3, m4, Cnt.at]
theorem valD_nodup : ∀ {L : List (NestedKey × D)}, (L.map (·.1)).Nodup → ∀ kv ∈ L, valD L kv.1 = some kv.2
  | [], _, kv, h => by cases h
  | x :: L, hn, kv, h => by
    rw [List.map_cons, List.nodup_cons] at hn
    unfold valD
    rw [List.find?_cons]
    rcases List.mem_cons.mp h with rfl | h
    · simp
    · have hne : x.1 ≠ kv.1 := fun e => hn.1 (e ▸ List.mem_map.mpr ⟨kv, h, rfl⟩)
      rw [decide_eq_false hne]
      exact valD_nodup hn.2 kv h
theorem eqNk_self {L : List (NestedKey × D)} (hn : (L.map (·.1)).Nodup) (hi : L.all (fun kv => isIntD kv.2) = true) : eqNk L L = true := by
  unfold eqNk
  rw [List.all_eq_true]
  intro kv hk
  rw [valD_nodup hn kv hk]
  have h := List.all_eq_true.mp hi kv hk
  revert h
  cases kv.2 <;> simp [isIntD]
theorem ne_self {S : Sg} {k l : Nat} {L : List (NestedKey × D)} (h1 : S[k]? = some (.dN L)) (h2 : S[l]? = some (.dN L)) (hn : (L.map (·.1)).Nodup) (hi : L.all (fun kv => isIntD kv.2) = true) : dNeN (.obj k) (.obj l) S = .ok (.bl false) S := by
  unfold dNeN
  simp only [h1, h2]
  rw [if_pos ⟨hi, hi⟩, eqNk_self hn hi]
  simp
structure SaysAt (word : Str) (sen : List Term) (w n i : Int) : Prop where
  due : ∃ dts res, (∀ S, ∃ U m, F__law_due_terms [.str word, .int w, .int n, .int i] S = .ok (.obj m) (S ++ U) ∧ (S ++ U)[m]? = some (.lst (dts.map (tmU true)))) ∧ dts.length ≤ 20 ∧
    (∀ t ∈ sen, TmR n i t) ∧ (∀ t ∈ dts, TmR n i t) ∧ recK w n i sen [] = some res ∧ recK w n i dts [] = some res
theorem says_at {word : Str} {sen : List Term} {w n i : Int} (w0 : 0 ≤ w) (w1 : w ≤ 100) (hs : sen.length ≤ 20) (H : SaysAt word sen w n i) (S : Sg) (u : Bool) (cnt : Cnt) :
    ∃ G, b__law_part_says_1 [some (.v (encSen sen)), some (.v (.str word)), some (.v (cntU u cnt)), some (.v (.int w)), some (.v (.int n)), some (.v (.int i))] S = .nx [some (.v (encSen sen)), some (.v (.str word)), some (.v (cntU u cnt)), some (.v (.int w)), some (.v (.int n)), some (.v (.int i))] (S ++ G) := by
  obtain ⟨dts, res, hd, ld, ts, td, rs, rd⟩ := H.due
  have ee : sen.map encTerm = sen.map (tmU false) := List.map_congr_left fun t _ => tmU_enc t
  obtain ⟨U1, q1, f1, g1⟩ := reckoned_ok false w0 w1 (encSen sen) S (fun _ => True) sen (by unfold encSen; rw [ee]; rfl) (fun _ => trivial) ts (by omega) res rs
  obtain ⟨U2, m, f2, g2⟩ := hd (S ++ U1)
  have gm : ∀ X, ((S ++ U1 ++ U2) ++ X)[m]? = some (.lst (dts.map (tmU true))) := fun X => by
    rw [List.getElem?_append_left (List.getElem?_eq_some_iff.mp g2).1]
    exact g2
  obtain ⟨U3, q3, f3, g3⟩ := reckoned_ok true w0 w1 (.obj m) (S ++ U1 ++ U2) (still (.obj m) (dts.map (tmU true))) dts (iSeq_obj (gm _)) gm td (by omega) res rd
  obtain ⟨i1, n1, _⟩ := recK_ok rs rfl .nil
  have g1' : (S ++ U1 ++ U2 ++ U3)[q1]? = some (.dN (res.filter fun kv => nzD kv.2)) := by
    have l1 := (List.getElem?_eq_some_iff.mp g1).1
    rw [List.getElem?_append_left (by rw [List.length_append]; omega), List.getElem?_append_left l1]
    exact g1
  have hn : ((res.filter fun kv => nzD kv.2).map (·.1)).Nodup := (List.filter_sublist.map _).nodup n1
  have hi : (res.filter fun kv => nzD kv.2).all (fun kv => isIntD kv.2) = true := by
    rw [List.all_eq_true]
    intro kv hk
    exact List.all_eq_true.mp i1 kv (List.mem_filter.mp hk).1
  have ne := ne_self g1' g3 hn hi
  refine ⟨U1 ++ U2 ++ U3, ?_⟩
  rw [← List.append_assoc, ← List.append_assoc]
  generalize encSen sen = SN at *
  generalize S ++ U1 ++ U2 ++ U3 = S3 at *
  generalize S ++ U1 ++ U2 = S2 at *
  generalize S ++ U1 = S1 at *
  simp [b__law_part_says_1, f1, f2, f3, ne]
theorem part_says_ok {word : Str} {sen : List Term} {w n : Int} (w0 : 0 ≤ w) (w1 : w ≤ 100) (hs : sen.length ≤ 20) (u : Bool) (cnt : Cnt) (okc : okCnt cnt = true) (M : Nat) (hc : cnt.at w n = M) (hM : M ≤ 1000) (H : ∀ i : Nat, i ≤ M → SaysAt word sen w n i) (S : Sg) :
    F__law_part_says [encSen sen, .str word, cntU u cnt, .int w, .int n] S = .ok (.bl true) S := by
  have ct := fun S => law_countU u cnt w n S okc (by omega) (by omega)
  have rg : ∀ S, iRange1 [.int ((M : Int) + 1)] S = .ok ⟨rangeD 0 1 (M + 1), fun _ => True⟩ S := fun S => by
    rw [range1 (by omega) (by omega)]
    congr 2
  obtain ⟨env', S', e, ⟨y, rfl⟩, G, rfl⟩ := for_range (env := [some (.v (encSen sen)), some (.v (.str word)), some (.v (cntU u cnt)), some (.v (.int w)), some (.v (.int n)), none]) (S := S) (g := b__law_part_says_1) (ix := 5) (lo := 0) (st := 1) (n := M + 1) (fun j env S' => (∃ y, env = [some (.v (encSen sen)), some (.v (.str word)), some (.v (cntU u cnt)), some (.v (.int w)), some (.v (.int n)), y]) ∧ ∃ G, S' = S ++ G) ⟨⟨none, rfl⟩, [], by simp⟩ (fun k env S' hk ⟨⟨y, hy⟩, G, hG⟩ => by
    subst hy hG
    obtain ⟨G2, e2⟩ := says_at w0 w1 hs (H k (by omega)) (S ++ G) u cnt
    refine ⟨_, S ++ G ++ G2, ?_, ⟨some (.v (.int k)), rfl⟩, G ++ G2, List.append_assoc _ _ _⟩
    have : (0 : Int) + k * 1 = k := by omega
    simp only [this]
    exact e2)
  refine fgt_ok G ?_ rfl
  generalize encSen sen = SN at *
  generalize cntU u cnt = CN at *
  rw [hc] at ct
  simp [R__law_part_says, g__law_part_says, runF_e, startE, List.replicate, sizeLine, ct, rg, e]
theorem k__law_part_says (A : All w K mg) : FnK P w K mg base 3 ⟨"_law_part_says", 5, F__law_part_says⟩ := (kr__law_part_says A).weak w__law_part_says
noncomputable def c__law_says_1 : FE := (fCall F__law_part_says (fCons (fBin dIx (fVar 4) (fC (.int 2))) (fCons (fVar 1) (fCons (fVar 2) (fCons (fVar 5) (fCons (fVar 6) fNil))))))
noncomputable def b__law_says_2 : FS := (sSeq (sIf (fAnd (fB (fBin dEq (fBin dIx (fVar 4) (fC (.int 0))) (fC (.str "rounds")))) (fB (fBin dEq (fBin dIx (fVar 4) (fC (.int 1))) (fVar 2)))) (sSeq (sIf (fTru (fCall oAll (fCons (fLc true [5, 6] (fSeq (fVar 3)) (.tup [5, 6]) fYes c__law_says_1) fNil))) (sSeq (sRet (fC (.bl true)))
  sNil) sNil)
  sNil) sNil)
  sNil)
noncomputable def g__law_says : FS := (sSeq (sFor (fSeq (fVar 0)) (gNm 4) b__law_says_2)
  (sSeq (sRet (fC (.bl false)))
  sNil))
noncomputable def F__law_says : Fn := runF 7 g__law_says
theorem s__law_says : FnScope ["_law_told", "_law_word", "_law_count_here", "_law_sizes_here", "_law_part_here", "_law_w", "_law_n"] ["_law_told", "_law_word", "_law_count_here", "_law_sizes_here"] (defScope (top 103)) := ⟨rfl, rfl, rfl, by decide +kernel, rfl, by decide +kernel, by decide +kernel⟩
theorem k__law_says (A : All w K mg) : FnK P w K mg base 4 ⟨"_law_says", 4, F__law_says⟩ := by
  obtain ⟨f, fd, hm, F⟩ := A.f__law_says
  exact fn_in A.fr (He5.fun_of F) s__law_says hm (FunD.bindsN (ps := ["_law_told", "_law_word", "_law_count_here", "_law_sizes_here"]) F fun _ _ _ _ _ _ us hl => match us, hl with | [_, _, _, _], _ => rfl) fun X W h =>
  (dss_cons (h.for_ (di_seq h.var) (InE.nm h) (dss_cons (ds_if (DW.dt (dw_and (h.eq.tv (h.ix h.var de_int) de_str) (dw_and1 (h.eq.tv (h.ix h.var de_int) h.var)))) (dss_cons (ds_if (dt_tru (h.all_ (h.cons (h.lc [("_law_w", 5), ("_law_n", 6)] (di_seq h.var) (fun s H C cl fp => have b := h.blk s H C cl fp; b.tupB (NmB.mk (NmB.mk .nil))) (fun _ _ _ _ _ => pts_yes) (fun s H C cl fp => have b := h.blk s H C cl fp; (b.call (k__law_part_says A) (b.cons (b.ix b.var de_int) (b.cons b.var (b.cons b.var (b.cons b.var (b.cons b.var da_nil))))) (FsN.cons (FsN.cons (FsN.cons (FsN.cons (FsN.cons FsN.nil))))).len))) da_nil)) rfl) (dss_cons (ds_ret de_bl)
  dss_nil) dss_nil)
  dss_nil) dss_nil)
  dss_nil))
  (dss_cons (ds_ret de_bl)
  dss_nil))
theorem dEq_cntU (a b : Cnt) (u : Bool) (S : Sg) : dEq (encCnt a) (cntU u b) S = .ok (.bl (decide (a.c = b.c) && (decide (a.m = b.m) && decide (a.t = b.t)))) S := by
  have : eqO S (encCnt a) (cntU u b) = some (decide (a.c = b.c) && (decide (a.m = b.m) && decide (a.t = b.t))) := by
    simp [eqO, toPS, toP, toPs, encCnt, cntU, PyData.depth, PyData.depthAll, PyData.eqv, PyData.eqvAll]
    rfl
  unfold dEq
  rw [this]
def skipB (cnt : Cnt) : Part → Bool
  | .row _ => true
  | .rounds b _ _ => !(decide (b.c = cnt.c) && (decide (b.m = cnt.m) && decide (b.t = cnt.t)))
def szD (p : Int × Int) : D := .tup true [.int p.1, .int p.2]
theorem says_skip (TD : D) (word : Str) (cnt : Cnt) (m : Nat) (p : Part) (hp : skipB cnt p = true) (S : Sg) : b__law_says_2 [some (.v TD), some (.v (.str word)), some (.v (cntU true cnt)), some (.v (.obj m)), some (.v (encPart p)), none, none] S = .nx [some (.v TD), some (.v (.str word)), some (.v (cntU true cnt)), some (.v (.obj m)), some (.v (encPart p)), none, none] S := by
  have ec := fun b S => dEq_cntU b cnt true S
  cases p with
  | row r =>
    generalize cntU true cnt = CN at *
    simp [b__law_says_2, encPart]
  | rounds b sn ps =>
    have hb : (decide (b.c = cnt.c) && (decide (b.m = cnt.m) && decide (b.t = cnt.t))) = false := by
      have h : (!(decide (b.c = cnt.c) && (decide (b.m = cnt.m) && decide (b.t = cnt.t)))) = true := hp
      rw [Bool.not_eq_true'] at h
      exact h
    have e1 := fun S => ec b S
    rw [hb] at e1
    simp only [encPart]
    generalize encCnt b = BC at *
    generalize cntU true cnt = CN at *
    generalize encSen sn = SN at *
    simp [b__law_says_2, e1]
theorem says_hit (TD : D) (word : Str) (cnt : Cnt) (m : Nat) (sn : List Term) (ps : List Inner) (S : Sg) (sizes : List (Int × Int)) (hl : sizes.length ≤ 100) (hS : S[m]? = some (.lst (sizes.map szD)))
    (H : ∀ p ∈ sizes, ∀ S, F__law_part_says [encSen sn, .str word, cntU true cnt, .int p.1, .int p.2] S = .ok (.bl true) S) : b__law_says_2 [some (.v TD), some (.v (.str word)), some (.v (cntU true cnt)), some (.v (.obj m)), some (.v (encPart (.rounds cnt sn ps))), none, none] S = .rt (.bl true) S := by
  have e1 := fun S => dEq_cntU cnt cnt true S
  simp only [decide_true, Bool.true_and] at e1
  have hat : ∀ X, (S ++ X)[m]? = some (.lst (sizes.map szD)) := fun X => by
    rw [List.getElem?_append_left (List.getElem?_eq_some_iff.mp hS).1]
    exact hS
  have seq : iSeq (.obj m) S = .ok ⟨sizes.map szD, still (.obj m) (sizes.map szD)⟩ S := iSeq_obj hS
  have ea : fLc true [5, 6] (fSeq (fVar 3)) (.tup [5, 6]) fYes c__law_says_1 [some (.v TD), some (.v (.str word)), some (.v (cntU true cnt)), some (.v (.obj m)), some (.v (encPart (.rounds cnt sn ps))), none, none] S = .ok (.il (sizes.map fun _ => .bl true)) S :=
    fLc_mapP (k := szD) (P := still (.obj m) (sizes.map szD)) (fun _ => .bl true) (by simp [seq]) hat (by simp [noExc]) (fun p hp => by
      refine ⟨[some (.v TD), some (.v (.str word)), some (.v (cntU true cnt)), some (.v (.obj m)), some (.v (encPart (.rounds cnt sn ps))), some (.v (.int p.1)), some (.v (.int p.2))], ?_, fun X => ?_⟩
      · simp [Tg.f, gTupN, gNms, wipeE, szD]
      · have h := fun S => H p hp S
        simp only [encPart]
        generalize encSen sn = SN at *
        generalize cntU true cnt = CN at *
        simp [c__law_says_1, h]) (by unfold sizeLine; omega) (fun _ _ => rfl)
  have al := oAll_map (fun _ : Int × Int => true) sizes S
  have at2 : (sizes.all fun _ => true) = true := by simp
  rw [at2] at al
  simp only [encPart] at ea ⊢
  generalize (sizes.map fun _ => D.bl true) = BL at *
  generalize encCnt cnt = BC at *
  generalize cntU true cnt = CN at *
  generalize encSen sn = SN at *
  simp [b__law_says_2, e1, ea, al]
theorem says_loop (TD : D) (word : Str) (cnt : Cnt) (m : Nat) (sn : List Term) (ips : List Inner) (post : List Part) (S : Sg) (sizes : List (Int × Int)) (hl : sizes.length ≤ 100) (hS : S[m]? = some (.lst (sizes.map szD)))
    (H : ∀ p ∈ sizes, ∀ S, F__law_part_says [encSen sn, .str word, cntU true cnt, .int p.1, .int p.2] S = .ok (.bl true) S) : ∀ (pre : List Part) (y : Option EV), (∀ p ∈ pre, skipB cnt p = true) →
    forL (fun _ => True) (gNm 4) b__law_says_2 ((pre ++ .rounds cnt sn ips :: post).map encPart) [some (.v TD), some (.v (.str word)), some (.v (cntU true cnt)), some (.v (.obj m)), y, none, none] S = .rt (.bl true) S
  | [], y, _ => by
    rw [List.nil_append, List.map_cons]
    unfold forL
    rw [if_pos trivial]
    have ef : gNm 4 (encPart (.rounds cnt sn ips)) [some (.v TD), some (.v (.str word)), some (.v (cntU true cnt)), some (.v (.obj m)), y, none, none] = some [some (.v TD), some (.v (.str word)), some (.v (cntU true cnt)), some (.v (.obj m)), some (.v (encPart (.rounds cnt sn ips))), none, none] := rfl
    rw [ef]
    simp only [says_hit TD word cnt m sn ips S sizes hl hS H]
  | p :: pre, y, hp => by
    have ih := says_loop TD word cnt m sn ips post S sizes hl hS H pre (some (.v (encPart p))) fun q hq => hp q (List.mem_cons_of_mem _ hq)
    rw [List.cons_append, List.map_cons]
    unfold forL
    rw [if_pos trivial]
    have ef : gNm 4 (encPart p) [some (.v TD), some (.v (.str word)), some (.v (cntU true cnt)), some (.v (.obj m)), y, none, none] = some [some (.v TD), some (.v (.str word)), some (.v (cntU true cnt)), some (.v (.obj m)), some (.v (encPart p)), none, none] := rfl
    rw [ef]
    simp only [says_skip TD word cnt m p (hp p List.mem_cons_self) S]
    exact ih
theorem says_ok (word : Str) (cnt : Cnt) (m : Nat) (pre : List Part) (sn : List Term) (ips : List Inner) (post : List Part) (S : Sg) (sizes : List (Int × Int)) (hl : sizes.length ≤ 100) (hS : S[m]? = some (.lst (sizes.map szD))) (hp : ∀ p ∈ pre, skipB cnt p = true)
    (H : ∀ p ∈ sizes, ∀ S, F__law_part_says [encSen sn, .str word, cntU true cnt, .int p.1, .int p.2] S = .ok (.bl true) S) : F__law_says [encPs (pre ++ .rounds cnt sn ips :: post), .str word, cntU true cnt, .obj m] S = .ok (.bl true) S := by
  have e := says_loop (encPs (pre ++ .rounds cnt sn ips :: post)) word cnt m sn ips post S sizes hl hS H pre none hp
  have sq : iSeq (encPs (pre ++ .rounds cnt sn ips :: post)) S = .ok ⟨(pre ++ .rounds cnt sn ips :: post).map encPart, fun _ => True⟩ S := rfl
  generalize (pre ++ Part.rounds cnt sn ips :: post).map encPart = L at *
  generalize encPs (pre ++ Part.rounds cnt sn ips :: post) = TD at *
  generalize cntU true cnt = CN at *
  simp [F__law_says, g__law_says, runF_e, startE, List.replicate, sizeLine, sq, e]
noncomputable def g__law_whole : FS := (sSeq (sRet (fAndV (fCall oIsi (fCons (fVar 0) (fCons (fC (.ty "int")) fNil))) (fNotV (fCall oIsi (fCons (fVar 0) (fCons (fC (.ty "bool")) fNil))))))
  sNil)
noncomputable def F__law_whole : Fn := runF 1 g__law_whole
theorem s__law_whole : FnScope ["_law_thing_here"] ["_law_thing_here"] (defScope (top 89)) := ⟨rfl, rfl, rfl, by decide +kernel, rfl, by decide +kernel, by decide +kernel⟩
theorem k__law_whole (A : All w K mg) : FnK P w K mg base 1 ⟨"_law_whole", 1, F__law_whole⟩ := by
  obtain ⟨f, fd, hm, F⟩ := A.f__law_whole
  exact fn_in A.fr (He5.fun_of F) s__law_whole hm (FunD.bindsN (ps := ["_law_thing_here"]) F fun _ _ _ _ _ _ us hl => match us, hl with | [_], _ => rfl) fun X W h =>
  (dss_cons (ds_ret (de_and (h.isinstance_ (h.cons h.var (h.cons h.tyv da_nil))) (de_one (de_not (h.isinstance_ (h.cons h.var (h.cons h.tyv da_nil)))))))
  dss_nil)
theorem _law_whole_int (x : Int) (S : Sg) : F__law_whole [.int x] S = .ok (.bl true) S := by
  simp [F__law_whole, g__law_whole, runF_e, startE]
noncomputable def c__law_wholes_1 : FE := (fAndV (fCall F__law_whole (fCons (fVar 3) fNil)) (fChain dLe dLe (fBin dSub (fC (.int 0)) (fVar 2)) (fVar 3) (fVar 2)))
noncomputable def g__law_wholes : FS := (sSeq (sIf (fOr (fNot (fTru (fCall oIsi (fCons (fVar 0) (fCons (fC (.ty "tuple")) fNil))))) (fB (fBin dNe (fCall oLen (fCons (fVar 0) fNil)) (fVar 1)))) (sSeq (sRet (fC (.bl false)))
  sNil) sNil)
  (sSeq (sRet (fCall oAll (fCons (fLc true [3] (fSeq (fVar 0)) (.one 3) fYes c__law_wholes_1) fNil)))
  sNil))
noncomputable def F__law_wholes : Fn := runF 4 g__law_wholes
theorem s__law_wholes : FnScope ["_law_thing_here", "_law_many", "_law_most", "_law_part_here"] ["_law_thing_here", "_law_many", "_law_most"] (defScope (top 90)) := ⟨rfl, rfl, rfl, by decide +kernel, rfl, by decide +kernel, by decide +kernel⟩
theorem k__law_wholes (A : All w K mg) : FnK P w K mg base 2 ⟨"_law_wholes", 3, F__law_wholes⟩ := by
  obtain ⟨f, fd, hm, F⟩ := A.f__law_wholes
  exact fn_in A.fr (He5.fun_of F) s__law_wholes hm (FunD.bindsN (ps := ["_law_thing_here", "_law_many", "_law_most"]) F fun _ _ _ _ _ _ us hl => match us, hl with | [_, _, _], _ => rfl) fun X W h =>
  (dss_cons (ds_if (DW.dt (dw_or (dt_not (dt_tru (h.isinstance_ (h.cons h.var (h.cons h.tyv da_nil))) rfl)) (dw_or1 (h.ne.tv (h.len_ (h.cons h.var da_nil)) h.var)))) (dss_cons (ds_ret de_bl)
  dss_nil) dss_nil)
  (dss_cons (ds_ret (h.all_ (h.cons (h.lc [("_law_part_here", 3)] (di_seq h.var) (fun s H C cl fp => have b := h.blk s H C cl fp; b.nmB) (fun _ _ _ _ _ => pts_yes) (fun s H C cl fp => have b := h.blk s H C cl fp; (de_and (b.call (k__law_whole A) (b.cons b.var da_nil) (FsN.cons FsN.nil).len) (de_one (b.le.ce b.le (b.sub de_int b.var) b.var b.var))))) da_nil)))
  dss_nil))
theorem _law_wholes_ok (w : Bool) (ns : List Int) (m most : Int) (S : Sg) (hn : (ns.length : Int) = m) (hl : ns.length ≤ sizeLine) (hd : ∀ d ∈ ns, -most ≤ d ∧ d ≤ most) : F__law_wholes [.tup w (ns.map .int), .int m, .int most] S = .ok (.bl true) S := by
  have e1 : fLc true [3] (fSeq (fVar 0)) (.one 3) fYes c__law_wholes_1 [some (.v (.tup w (ns.map .int))), some (.v (.int m)), some (.v (.int most)), none] S = .ok (.il (ns.map fun _ => D.bl true)) S :=
    fLc_mapf (k := D.int) (fun _ => D.bl true) (by simp) rfl (fun x hx => by
      have := hd x hx
      exact ⟨_, rfl, fun T => by simp [c__law_wholes_1, wipeE, _law_whole_int, this.1, this.2]⟩) hl fun _ _ => rfl
  have e3 := oAll_map (fun _ => true) ns S
  simp [F__law_wholes, g__law_wholes, runF_e, startE, List.replicate, hn, e1, e3]
theorem ix_wholes (a : Ix) (S : Sg) (h : okIx a = true) : F__law_wholes [encIx a, .int 4, .int 200] S = .ok (.bl true) S := by
  unfold okIx at h
  simp only [Bool.and_eq_true] at h
  exact _law_wholes_ok false [a.c, a.i, a.j, a.m] 4 200 S rfl (by simp [sizeLine]) (by
    have h1 := okN_r h.1.1.1
    have h2 := okN_r h.1.1.2
    have h3 := okN_r h.1.2
    have h4 := okN_r h.2
    intro d hd
    simp only [List.mem_cons, List.not_mem_nil, or_false] at hd
    rcases hd with rfl | rfl | rfl | rfl <;> assumption)
noncomputable def g__law_letter : FS := (sSeq (sRet (fAndV (fCall oIsi (fCons (fVar 0) (fCons (fC (.ty "str")) fNil))) (fAndV (fBin dEq (fCall oLen (fCons (fVar 0) fNil)) (fC (.int 1))) (fBin dIn (fVar 0) (fC (.str "abcdefghijklmnopqrstuvwxyz"))))))
  sNil)
noncomputable def F__law_letter : Fn := runF 1 g__law_letter
theorem s__law_letter : FnScope ["_law_thing_here"] ["_law_thing_here"] (defScope (top 91)) := ⟨rfl, rfl, rfl, by decide +kernel, rfl, by decide +kernel, by decide +kernel⟩
theorem k__law_letter (A : All w K mg) : FnK P w K mg base 1 ⟨"_law_letter", 1, F__law_letter⟩ := by
  obtain ⟨f, fd, hm, F⟩ := A.f__law_letter
  exact fn_in A.fr (He5.fun_of F) s__law_letter hm (FunD.bindsN (ps := ["_law_thing_here"]) F fun _ _ _ _ _ _ us hl => match us, hl with | [_], _ => rfl) fun X W h =>
  (dss_cons (ds_ret (de_and (h.isinstance_ (h.cons h.var (h.cons h.tyv da_nil))) (de_and (h.eq.ev (h.len_ (h.cons h.var da_nil)) de_int) (de_one (h.in_.ev h.var de_str)))))
  dss_nil)
theorem _law_letter_ok (l : Str) (S : Sg) (h : okL l = true) : F__law_letter [.str l] S = .ok (.bl true) S := by
  have hl := abc_len h
  simp [F__law_letter, g__law_letter, runF_e, startE, List.replicate, strLen (l := l) (by simp [hl, sizeLine]), hl, abc_in h]
noncomputable def g__law_thing : FS := (sSeq (sIf (fB (fBin dEq (fVar 0) (fTup (fCons (fC (.str "mark")) fNil)))) (sSeq (sRet (fC (.bl true)))
  sNil) sNil)
  (sSeq (sIf (fOr (fNot (fTru (fCall oIsi (fCons (fVar 0) (fCons (fC (.ty "tuple")) fNil))))) (fOr (fB (fBin dNe (fCall oLen (fCons (fVar 0) fNil)) (fC (.int 4)))) (fOr (fB (fBin dNe (fBin dIx (fVar 0) (fC (.int 0))) (fC (.str "slice")))) (fNot (fTru (fCall F__law_letter (fCons (fBin dIx (fVar 0) (fC (.int 1))) fNil))))))) (sSeq (sRet (fC (.bl false)))
  sNil) sNil)
  (sSeq (sRet (fAndV (fCall F__law_wholes (fCons (fBin dIx (fVar 0) (fC (.int 2))) (fCons (fC (.int 4)) (fCons (fC (.int 200)) fNil)))) (fCall F__law_wholes (fCons (fBin dIx (fVar 0) (fC (.int 3))) (fCons (fC (.int 4)) (fCons (fC (.int 200)) fNil))))))
  sNil)))
noncomputable def F__law_thing : Fn := runF 1 g__law_thing
theorem s__law_thing : FnScope ["_law_thing_here"] ["_law_thing_here"] (defScope (top 94)) := ⟨rfl, rfl, rfl, by decide +kernel, rfl, by decide +kernel, by decide +kernel⟩
theorem k__law_thing (A : All w K mg) : FnK P w K mg base 3 ⟨"_law_thing", 1, F__law_thing⟩ := by
  obtain ⟨f, fd, hm, F⟩ := A.f__law_thing
  exact fn_in A.fr (He5.fun_of F) s__law_thing hm (FunD.bindsN (ps := ["_law_thing_here"]) F fun _ _ _ _ _ _ us hl => match us, hl with | [_], _ => rfl) fun X W h =>
  (dss_cons (ds_if (h.eq.tv h.var (de_tup (h.cons de_str da_nil))) (dss_cons (ds_ret de_bl)
  dss_nil) dss_nil)
  (dss_cons (ds_if (DW.dt (dw_or (dt_not (dt_tru (h.isinstance_ (h.cons h.var (h.cons h.tyv da_nil))) rfl)) (dw_or (h.ne.tv (h.len_ (h.cons h.var da_nil)) de_int) (dw_or (h.ne.tv (h.ix h.var de_int) de_str) (dw_or1 (dt_not (dt_tru (h.call (k__law_letter A) (h.cons (h.ix h.var de_int) da_nil) (FsN.cons FsN.nil).len) rfl))))))) (dss_cons (ds_ret de_bl)
  dss_nil) dss_nil)
  (dss_cons (ds_ret (de_and (h.call (k__law_wholes A) (h.cons (h.ix h.var de_int) (h.cons de_int (h.cons de_int da_nil))) (FsN.cons (FsN.cons (FsN.cons FsN.nil))).len) (de_one (h.call (k__law_wholes A) (h.cons (h.ix h.var de_int) (h.cons de_int (h.cons de_int da_nil))) (FsN.cons (FsN.cons (FsN.cons FsN.nil))).len))))
  dss_nil)))
theorem _law_thing_ok (t : Thing) (S : Sg) (h : okThing t = true) : F__law_thing [encThing t] S = .ok (.bl true) S := by
  cases t with
  | mark => 
    have e : ∀ S, dEq (encThing .mark) (.tup true [.str "mark"]) S = .ok (.bl true) S := fun S => by with_unfolding_all rfl
    simp [F__law_thing, g__law_thing, runF_e, startE, List.replicate, sizeLine, e]
  | slice l a b =>
    simp only [okThing, Bool.and_eq_true] at h
    have e : ∀ S, dEq (.tup false [.str "slice", .str l, encIx a, encIx b]) (.tup true [.str "mark"]) S = .ok (.bl false) S := fun S => by
      simp [dEq, eqO, toPS, toP, toPs, encTC, encIx, PyData.depth, PyData.depthAll, PyData.eqv, PyData.eqvAll]
    simp [F__law_thing, g__law_thing, runF_e, startE, List.replicate, sizeLine, encThing, e, _law_letter_ok _ _ h.1, ix_wholes _ _ h.2.1, ix_wholes _ _ h.2.2]
noncomputable def c__law_is_sentence_1 : FE := (fCall F__law_thing (fCons (fVar 2) fNil))
noncomputable def b__law_is_sentence_2 : FS := (sSeq (sIf (fOr (fNot (fTru (fCall oIsi (fCons (fVar 1) (fCons (fC (.ty "tuple")) fNil))))) (fOr (fB (fBin dNe (fCall oLen (fCons (fVar 1) fNil)) (fC (.int 3)))) (fNot (fTru (fCall F__law_wholes (fCons (fBin dIx (fVar 1) (fC (.int 1))) (fCons (fC (.int 6)) (fCons (fC (.int 200)) fNil)))))))) (sSeq (sRet (fC (.bl false)))
  sNil) sNil)
  (sSeq (sIf (fOr (fNot (fTru (fCall F__law_whole (fCons (fBin dIx (fVar 1) (fC (.int 0))) fNil)))) (fOr (fB (fBin dGe (fCall oAbs (fCons (fBin dIx (fVar 1) (fC (.int 0))) fNil)) (fBin dPow (fC (.int 10)) (fC (.int 40))))) (fNot (fTru (fCall oIsi (fCons (fBin dIx (fVar 1) (fC (.int 2))) (fCons (fC (.ty "tuple")) fNil))))))) (sSeq (sRet (fC (.bl false)))
  sNil) sNil)
  (sSeq (sIf (fOr (fB (fBin dGt (fCall oLen (fCons (fBin dIx (fVar 1) (fC (.int 2))) fNil)) (fC (.int 2)))) (fNot (fTru (fCall oAll (fCons (fLc true [2] (fSeq (fBin dIx (fVar 1) (fC (.int 2)))) (.one 2) fYes c__law_is_sentence_1) fNil))))) (sSeq (sRet (fC (.bl false)))
  sNil) sNil)
  sNil)))
noncomputable def g__law_is_sentence : FS := (sSeq (sIf (fOr (fNot (fTru (fCall oIsi (fCons (fVar 0) (fCons (fC (.ty "tuple")) fNil))))) (fB (fBin dGt (fCall oLen (fCons (fVar 0) fNil)) (fC (.int 20))))) (sSeq (sRet (fC (.bl false)))
  sNil) sNil)
  (sSeq (sFor (fSeq (fVar 0)) (gNm 1) b__law_is_sentence_2)
  (sSeq (sRet (fC (.bl true)))
  sNil)))
noncomputable def F__law_is_sentence : Fn := runF 3 g__law_is_sentence
theorem s__law_is_sentence : FnScope ["_law_told", "_law_term", "_law_thing_here"] ["_law_told"] (defScope (top 95)) := ⟨rfl, rfl, rfl, by decide +kernel, rfl, by decide +kernel, by decide +kernel⟩
theorem k__law_is_sentence (A : All w K mg) : FnK P w K mg base 4 ⟨"_law_is_sentence", 1, F__law_is_sentence⟩ := by
  obtain ⟨f, fd, hm, F⟩ := A.f__law_is_sentence
  exact fn_in A.fr (He5.fun_of F) s__law_is_sentence hm (FunD.bindsN (ps := ["_law_told"]) F fun _ _ _ _ _ _ us hl => match us, hl with | [_], _ => rfl) fun X W h =>
  (dss_cons (ds_if (DW.dt (dw_or (dt_not (dt_tru (h.isinstance_ (h.cons h.var (h.cons h.tyv da_nil))) rfl)) (dw_or1 (h.gt.tv (h.len_ (h.cons h.var da_nil)) de_int)))) (dss_cons (ds_ret de_bl)
  dss_nil) dss_nil)
  (dss_cons (h.for_ (di_seq h.var) (InE.nm h) (dss_cons (ds_if (DW.dt (dw_or (dt_not (dt_tru (h.isinstance_ (h.cons h.var (h.cons h.tyv da_nil))) rfl)) (dw_or (h.ne.tv (h.len_ (h.cons h.var da_nil)) de_int) (dw_or1 (dt_not (dt_tru (h.call (k__law_wholes A) (h.cons (h.ix h.var de_int) (h.cons de_int (h.cons de_int da_nil))) (FsN.cons (FsN.cons (FsN.cons FsN.nil))).len) rfl)))))) (dss_cons (ds_ret de_bl)
  dss_nil) dss_nil)
  (dss_cons (ds_if (DW.dt (dw_or (dt_not (dt_tru (h.call (k__law_whole A) (h.cons (h.ix h.var de_int) da_nil) (FsN.cons FsN.nil).len) rfl)) (dw_or (h.ge.tv (h.abs_ (h.cons (h.ix h.var de_int) da_nil)) (h.pow de_int de_int)) (dw_or1 (dt_not (dt_tru (h.isinstance_ (h.cons (h.ix h.var de_int) (h.cons h.tyv da_nil))) rfl)))))) (dss_cons (ds_ret de_bl)
  dss_nil) dss_nil)
  (dss_cons (ds_if (DW.dt (dw_or (h.gt.tv (h.len_ (h.cons (h.ix h.var de_int) da_nil)) de_int) (dw_or1 (dt_not (dt_tru (h.all_ (h.cons (h.lc [("_law_thing_here", 2)] (di_seq (h.ix h.var de_int)) (fun s H C cl fp => have b := h.blk s H C cl fp; b.nmB) (fun _ _ _ _ _ => pts_yes) (fun s H C cl fp => have b := h.blk s H C cl fp; (b.call (k__law_thing A) (b.cons b.var da_nil) (FsN.cons FsN.nil).len))) da_nil)) rfl))))) (dss_cons (ds_ret de_bl)
  dss_nil) dss_nil)
  dss_nil))))
  (dss_cons (ds_ret de_bl)
  dss_nil)))
theorem _law_is_sentence_ok (s : List Term) (S : Sg) (h : okSen s = true) : F__law_is_sentence [encSen s] S = .ok (.bl true) S := by
  simp only [okSen, Bool.and_eq_true, decide_eq_true_eq, List.all_eq_true] at h
  obtain ⟨hl, h⟩ := h
  obtain ⟨y, e⟩ := forL_pass (P := fun _ => True) (h := encTerm) (f := gNm 1) (g := b__law_is_sentence_2) (fun y => [some (.v (encSen s)), y, none]) S trivial s none (by
    intro t ht y
    have hk := h t ht
    simp only [okTerm, Bool.and_eq_true, decide_eq_true_eq, List.all_eq_true] at hk
    obtain ⟨⟨⟨⟨⟨⟨⟨⟨⟨k0, k1⟩, k2⟩, k3⟩, k4⟩, k5⟩, k6⟩, k7⟩, k8⟩, k9⟩ := hk
    have w6 : ∀ S, F__law_wholes [.tup false [.int t.e0, .int t.e1, .int t.e2, .int t.e3, .int t.e4, .int t.e5], .int 6, .int 200] S = .ok (.bl true) S := fun S =>
      _law_wholes_ok false [t.e0, t.e1, t.e2, t.e3, t.e4, t.e5] 6 200 S rfl (by simp [sizeLine]) (by
        intro d hd
        have h2 := okN_r k2
        have h3 := okN_r k3
        have h4 := okN_r k4
        have h5 := okN_r k5
        have h6 := okN_r k6
        have h7 := okN_r k7
        simp only [List.mem_cons, List.not_mem_nil, or_false] at hd
        rcases hd with rfl | rfl | rfl | rfl | rfl | rfl <;> assumption)
    have e1 : ∀ S, fLc true [2] (fSeq (fBin dIx (fVar 1) (fC (.int 2)))) (.one 2) fYes c__law_is_sentence_1 [some (.v (encSen s)), some (.v (encTerm t)), none] S = .ok (.il (t.th.map fun _ => D.bl true)) S := fun S =>
      fLc_mapf (k := encThing) (fun _ => D.bl true) (by simp [encTerm, iSeq_tup]) rfl (fun x hx => ⟨_, rfl, fun T => by
        simp [c__law_is_sentence_1, wipeE, _law_thing_ok _ _ (k9 x hx)]⟩) (by simp [sizeLine]; omega) fun _ _ => rfl
    have e3 := fun S => oAll_map (fun _ => true) t.th S
    have ha : ¬ (10 ^ 40 ≤ if t.f < 0 then -t.f else t.f) := by split <;> omega
    refine ⟨_, rfl, some (.v (encTerm t)), ?_⟩
    simp only [List.set_cons_succ, List.set_cons_zero]
    have e4 : ∀ S, oAll [D.il (List.replicate t.th.length (D.bl true))] S = .ok (.bl true) S := fun S => by
      have := e3 S
      rw [List.map_const'] at this
      rw [this]
      simp
    have k8' : ¬ (2 : Int) < t.th.length := by omega
    simp only [encTerm, List.map_const'] at e1
    simp only [Int.reducePow] at ha
    simp [b__law_is_sentence_2, encTerm, sizeLine, e1, w6, _law_whole_int, ha, k8', e4])
  simp [F__law_is_sentence, g__law_is_sentence, runF_e, startE, List.replicate, sizeLine, encSen]
  simp [encSen] at e
  rw [e]
  simp
  omega
noncomputable def g__law_index_cell : FS := (sSeq (sRet (fAndV (fCall oIsi (fCons (fVar 0) (fCons (fC (.ty "tuple")) fNil))) (fAndV (fBin dEq (fCall oLen (fCons (fVar 0) fNil)) (fC (.int 2))) (fAndV (fCall F__law_letter (fCons (fBin dIx (fVar 0) (fC (.int 0))) fNil)) (fCall F__law_wholes (fCons (fBin dIx (fVar 0) (fC (.int 1))) (fCons (fC (.int 4)) (fCons (fC (.int 200)) fNil))))))))
  sNil)
noncomputable def F__law_index_cell : Fn := runF 1 g__law_index_cell
theorem s__law_index_cell : FnScope ["_law_thing_here"] ["_law_thing_here"] (defScope (top 92)) := ⟨rfl, rfl, rfl, by decide +kernel, rfl, by decide +kernel, by decide +kernel⟩
theorem k__law_index_cell (A : All w K mg) : FnK P w K mg base 3 ⟨"_law_index_cell", 1, F__law_index_cell⟩ := by
  obtain ⟨f, fd, hm, F⟩ := A.f__law_index_cell
  exact fn_in A.fr (He5.fun_of F) s__law_index_cell hm (FunD.bindsN (ps := ["_law_thing_here"]) F fun _ _ _ _ _ _ us hl => match us, hl with | [_], _ => rfl) fun X W h =>
  (dss_cons (ds_ret (de_and (h.isinstance_ (h.cons h.var (h.cons h.tyv da_nil))) (de_and (h.eq.ev (h.len_ (h.cons h.var da_nil)) de_int) (de_and (h.call (k__law_letter A) (h.cons (h.ix h.var de_int) da_nil) (FsN.cons FsN.nil).len) (de_one (h.call (k__law_wholes A) (h.cons (h.ix h.var de_int) (h.cons de_int (h.cons de_int da_nil))) (FsN.cons (FsN.cons (FsN.cons FsN.nil))).len))))))
  dss_nil)
theorem index_cell_ok (a : TC) (S : Sg) (h : okTC a = true) : F__law_index_cell [encTC a] S = .ok (.bl true) S := by
  unfold okTC at h
  simp only [Bool.and_eq_true] at h
  simp [F__law_index_cell, g__law_index_cell, runF_e, startE, List.replicate, sizeLine, encTC, _law_letter_ok _ _ h.1, ix_wholes _ _ h.2]
noncomputable def c__law_telling_row_1 : FE := (fCall F__law_index_cell (fCons (fVar 2) fNil))
noncomputable def g__law_telling_row : FS := (sSeq (sIf (fOr (fNot (fTru (fCall oIsi (fCons (fVar 0) (fCons (fC (.ty "tuple")) fNil))))) (fOr (fB (fBin dLt (fCall oLen (fCons (fVar 0) fNil)) (fC (.int 2)))) (fNot (fTru (fCall oIsi (fCons (fBin dIx (fVar 0) (fC (.int 0))) (fCons (fC (.ty "str")) fNil))))))) (sSeq (sRet (fC (.bl false)))
  sNil) sNil)
  (sSeq (sIf (fB (fBin dEq (fBin dIx (fVar 0) (fC (.int 0))) (fC (.str "mark")))) (sSeq (sRet (fAndV (fBin dEq (fCall oLen (fCons (fVar 0) fNil)) (fC (.int 2))) (fAndV (fCall F__law_whole (fCons (fBin dIx (fVar 0) (fC (.int 1))) fNil)) (fBin dIn (fBin dIx (fVar 0) (fC (.int 1))) (fTup (fCons (fC (.int 0)) (fCons (fC (.int 1)) fNil)))))))
  sNil) sNil)
  (sSeq (sIf (fB (fBin dEq (fBin dIx (fVar 0) (fC (.int 0))) (fC (.str "ask")))) (sSeq (sRet (fAndV (fBin dEq (fCall oLen (fCons (fVar 0) fNil)) (fC (.int 2))) (fCall F__law_index_cell (fCons (fBin dIx (fVar 0) (fC (.int 1))) fNil))))
  sNil) sNil)
  (sSeq (sIf (fB (fBin dEq (fBin dIx (fVar 0) (fC (.int 0))) (fC (.str "set")))) (sSeq (sRet (fAndV (fBin dEq (fCall oLen (fCons (fVar 0) fNil)) (fC (.int 3))) (fAndV (fCall F__law_index_cell (fCons (fBin dIx (fVar 0) (fC (.int 1))) fNil)) (fAndV (fCall F__law_whole (fCons (fBin dIx (fVar 0) (fC (.int 2))) fNil)) (fBin dIn (fBin dIx (fVar 0) (fC (.int 2))) (fTup (fCons (fC (.int 0)) (fCons (fC (.int 1)) fNil))))))))
  sNil) sNil)
  (sSeq (sAsg (fDct [((fC (.str "move")), (fC (.int 3))), ((fC (.str "bare")), (fC (.int 3))), ((fC (.str "twice")), (fC (.int 3))), ((fC (.str "half")), (fC (.int 3))), ((fC (.str "sum")), (fC (.int 4))), ((fC (.str "less")), (fC (.int 4))), ((fC (.str "both")), (fC (.int 4))), ((fC (.str "any")), (fC (.int 4))), ((fC (.str "odd")), (fC (.int 4)))]) (gNm 1))
  (sSeq (sSetIx (fVar 1) (fC (.str "times")) (fC (.int 5)))
  (sSeq (sIf (fOr (fB (fBin dNe (fMth "dict" oGet (fVar 1) (fCons (fBin dIx (fVar 0) (fC (.int 0))) (fCons (fC (.int 0)) fNil))) (fCall oLen (fCons (fVar 0) fNil)))) (fNot (fTru (fCall oAll (fCons (fLc true [2] (fSeq (fCut (fVar 0) (fO1 (fC (.int 1))) fO0)) (.one 2) fYes c__law_telling_row_1) fNil))))) (sSeq (sRet (fC (.bl false)))
  sNil) sNil)
  (sSeq (sRet (fOrV (fBin dNe (fBin dIx (fVar 0) (fC (.int 0))) (fC (.str "times"))) (fBin dNe (fBin dIx (fVar 0) (fC (.int 1))) (fBin dIx (fVar 0) (fC (.int 2))))))
  sNil))))))))
noncomputable def R__law_telling_row : Fn := runF 3 g__law_telling_row
theorem s__law_telling_row : FnScope ["_law_row", "_law_lengths", "_law_part_here"] ["_law_row"] (defScope (top 93)) := ⟨rfl, rfl, rfl, by decide +kernel, rfl, by decide +kernel, by decide +kernel⟩
theorem kr__law_telling_row (A : All w K mg) : FnK P w K mg base 4 ⟨"_law_telling_row", 1, R__law_telling_row⟩ := by
  obtain ⟨f, fd, hm, F⟩ := A.f__law_telling_row
  exact fn_in A.fr (He5.fun_of F) s__law_telling_row hm (FunD.bindsN (ps := ["_law_row"]) F fun _ _ _ _ _ _ us hl => match us, hl with | [_], _ => rfl) fun X W h =>
  (dss_cons (ds_if (DW.dt (dw_or (dt_not (dt_tru (h.isinstance_ (h.cons h.var (h.cons h.tyv da_nil))) rfl)) (dw_or (h.lt.tv (h.len_ (h.cons h.var da_nil)) de_int) (dw_or1 (dt_not (dt_tru (h.isinstance_ (h.cons (h.ix h.var de_int) (h.cons h.tyv da_nil))) rfl)))))) (dss_cons (ds_ret de_bl)
  dss_nil) dss_nil)
  (dss_cons (ds_if (h.eq.tv (h.ix h.var de_int) de_str) (dss_cons (ds_ret (de_and (h.eq.ev (h.len_ (h.cons h.var da_nil)) de_int) (de_and (h.call (k__law_whole A) (h.cons (h.ix h.var de_int) da_nil) (FsN.cons FsN.nil).len) (de_one (h.in_.ev (h.ix h.var de_int) (de_tup (h.cons de_int (h.cons de_int da_nil))))))))
  dss_nil) dss_nil)
  (dss_cons (ds_if (h.eq.tv (h.ix h.var de_int) de_str) (dss_cons (ds_ret (de_and (h.eq.ev (h.len_ (h.cons h.var da_nil)) de_int) (de_one (h.call (k__law_index_cell A) (h.cons (h.ix h.var de_int) da_nil) (FsN.cons FsN.nil).len))))
  dss_nil) dss_nil)
  (dss_cons (ds_if (h.eq.tv (h.ix h.var de_int) de_str) (dss_cons (ds_ret (de_and (h.eq.ev (h.len_ (h.cons h.var da_nil)) de_int) (de_and (h.call (k__law_index_cell A) (h.cons (h.ix h.var de_int) da_nil) (FsN.cons FsN.nil).len) (de_and (h.call (k__law_whole A) (h.cons (h.ix h.var de_int) da_nil) (FsN.cons FsN.nil).len) (de_one (h.in_.ev (h.ix h.var de_int) (de_tup (h.cons de_int (h.cons de_int da_nil)))))))))
  dss_nil) dss_nil)
  (dss_cons (h.set (de_dct (DPs.cons de_str de_int (DPs.cons de_str de_int (DPs.cons de_str de_int (DPs.cons de_str de_int (DPs.cons de_str de_int (DPs.cons de_str de_int (DPs.cons de_str de_int (DPs.cons de_str de_int (DPs.cons de_str de_int DPs.nil))))))))) (by simp) (by decide)))
  (dss_cons (h.setIx de_int h.var de_str)
  (dss_cons (ds_if (DW.dt (dw_or (h.ne.tv (h.m_get h.var (h.cons (h.ix h.var de_int) (h.cons de_int da_nil))) (h.len_ (h.cons h.var da_nil))) (dw_or1 (dt_not (dt_tru (h.all_ (h.cons (h.lc [("_law_part_here", 2)] (di_seq (de_cut h.var (do_some de_int) do_none)) (fun s H C cl fp => have b := h.blk s H C cl fp; b.nmB) (fun _ _ _ _ _ => pts_yes) (fun s H C cl fp => have b := h.blk s H C cl fp; (b.call (k__law_index_cell A) (b.cons b.var da_nil) (FsN.cons FsN.nil).len))) da_nil)) rfl))))) (dss_cons (ds_ret de_bl)
  dss_nil) dss_nil)
  (dss_cons (ds_ret (de_or (h.ne.ev (h.ix h.var de_int) de_str) (de_one (h.ne.ev (h.ix h.var de_int) (h.ix h.var de_int)))))
  dss_nil))))))))
noncomputable def q__law_telling_row : Fn := fun ds S => fgt S (R__law_telling_row ds S)
noncomputable abbrev F__law_telling_row : Fn := q__law_telling_row
theorem w__law_telling_row (ds : List D) (S : Sg) (h : ds.length = 1) : Weak S (R__law_telling_row ds S) (q__law_telling_row ds S) := weak_fgt
def lensR : List (Key × D) := [(.inr "move", .int 3), (.inr "bare", .int 3), (.inr "twice", .int 3), (.inr "half", .int 3), (.inr "sum", .int 4), (.inr "less", .int 4), (.inr "both", .int 4), (.inr "any", .int 4), (.inr "odd", .int 4), (.inr "times", .int 5)]
theorem lens_dct (env : Env) (S : Sg) : fDct [((fC (.str "move")), (fC (.int 3))), ((fC (.str "bare")), (fC (.int 3))), ((fC (.str "twice")), (fC (.int 3))), ((fC (.str "half")), (fC (.int 3))), ((fC (.str "sum")), (fC (.int 4))), ((fC (.str "less")), (fC (.int 4))), ((fC (.str "both")), (fC (.int 4))), ((fC (.str "any")), (fC (.int 4))), ((fC (.str "odd")), (fC (.int 4)))] env S = .ok (.obj S.length) (S ++ [.dK (lensR.take 9)]) := by
  have e : mergeD [] (lensR.take 9) = lensR.take 9 := by kernel_rfl
  have e2 : keyPs [(D.str "move", D.int 3), (D.str "bare", D.int 3), (D.str "twice", D.int 3), (D.str "half", D.int 3), (D.str "sum", D.int 4), (D.str "less", D.int 4), (D.str "both", D.int 4), (D.str "any", D.int 4), (D.str "odd", D.int 4)] = some (lensR.take 9) := rfl
  simp [fDct, fPairs, e2, e]
  exact Nat.le_trans (Nat.min_le_left _ _) (by decide)
theorem lens_set (S : Sg) : setIx (.obj S.length) (.str "times") (.int 5) (S ++ [.dK (lensR.take 9)]) = some (S ++ [.dK lensR]) := by
  have e : putD (lensR.take 9) (.inr "times") (.int 5) = lensR := by kernel_rfl
  simp only [setIx, app_get0, keyD, Option.map_some, e, app_set0]
  rw [if_pos (by decide)]
theorem lens_ty (S : Sg) : tyM (S ++ [.dK lensR]) (.obj S.length) = some "dict" := by
  unfold tyM
  simp
theorem lens_get (S : Sg) (x : Str) (n : Int) (h : valD lensR (.inr x) = some (.int n)) : oGet (.obj S.length) [.str x, .int 0] (S ++ [.dK lensR]) = .ok (.int n) (S ++ [.dK lensR]) := by
  simp [oGet, getD?, keyD, h]
theorem row_all (w : Bool) (x : Str) (cs : List TC) (e2 : Option D) (S : Sg) (h : ∀ c ∈ cs, okTC c = true) (hl : cs.length ≤ 10) : 
  fLc true [2] (fSeq (fCut (fVar 0) (fO1 (fC (.int 1))) fO0)) (.one 2) fYes c__law_telling_row_1 [some (.v (.tup w (.str x :: cs.map encTC))), sl e2, none] S = .ok (.il (List.replicate cs.length (.bl true))) S := by
  rw [← List.map_const']
  exact fLc_mapf (k := encTC) (fun _ => D.bl true) (by simp [iSeq_tup, cut_1]) (by cases e2 <;> rfl) (fun x hx => ⟨_, rfl, fun T => by
    simp [c__law_telling_row_1, wipeE, index_cell_ok _ _ (h x hx)]⟩) (by simp [sizeLine]; omega) fun _ _ => rfl
theorem telling_row_gen (x : Str) (a b : TC) (cs : List TC) (n : Int) (S : Sg) (h : ∀ c ∈ a :: b :: cs, okTC c = true) (hn : (cs.length : Int) + 3 = n) (hc : cs.length ≤ 5) (x1 : x ≠ "mark") (x2 : x ≠ "ask") (x3 : x ≠ "set")
    (hv : valD lensR (.inr x) = some (.int n)) (ht : x = "times" → eqTC a b = false) : ∃ G, R__law_telling_row [.tup false (.str x :: encTC a :: encTC b :: cs.map encTC)] S = .ok (.bl true) (S ++ G) := by
  obtain ⟨z, e⟩ : ∃ z, R__law_telling_row [.tup false (.str x :: encTC a :: encTC b :: cs.map encTC)] S = z := ⟨_, rfl⟩
  have e2 := e
  have g := fun k S => row_all false x (a :: b :: cs) (some (.obj k)) S h (by simp; omega)
  simp only [List.map_cons, List.length_cons, sl_some] at g
  have g2 := lens_get S x n hv
  have g3 : ∀ S k, oAll [D.il (List.replicate k (D.bl true))] S = .ok (.bl true) S := fun S k => by
    have := oAll_map (fun _ => true) (List.replicate k 0) S
    rw [List.map_const'] at this
    rw [List.length_replicate] at this
    rw [this]; simp
  have g4 : ∀ S k, oAll [D.il (D.bl true :: D.bl true :: List.replicate k (D.bl true))] S = .ok (.bl true) S := fun S k => g3 S (k + 2)
  have l1 : ¬ n < 2 := by omega
  have l2 : ((cs.length : Int) + 1 + 1 + 1) = n := by omega
  by_cases xt : x = "times"
  · simp [R__law_telling_row, g__law_telling_row, runF_e, startE, List.replicate, sizeLine, x1, x2, x3, lens_dct, lens_set, lens_ty, g2, g, l1, l2, g4, dNe_tc, ht xt] at e
    rw [if_pos xt] at e
    exact ⟨_, e2.trans e.symm⟩
  · simp [R__law_telling_row, g__law_telling_row, runF_e, startE, List.replicate, sizeLine, x1, x2, x3, lens_dct, lens_set, lens_ty, g2, g, l1, l2, g4, xt] at e
    exact ⟨_, e2.trans e.symm⟩
theorem telling_row_ok (r : Row TC) (S : Sg) (h : okRow r = true) : F__law_telling_row [encRow false encTC r] S = .ok (.bl true) S := by
  refine fgt_ex ?_ rfl
  obtain ⟨z, e⟩ : ∃ z, R__law_telling_row [encRow false encTC r] S = z := ⟨_, rfl⟩
  have e2 := e
  cases r with
  | mark d =>
    simp only [okRow] at h
    simp [R__law_telling_row, g__law_telling_row, runF_e, startE, List.replicate, sizeLine, encRow, _law_whole_int, in01, h] at e
    exact ⟨[], by rw [e2, ← e, List.append_nil]⟩
  | ask x =>
    simp only [okRow] at h
    simp [R__law_telling_row, g__law_telling_row, runF_e, startE, List.replicate, sizeLine, encRow, index_cell_ok _ _ h] at e
    exact ⟨[], by rw [e2, ← e, List.append_nil]⟩
  | set x d =>
    simp only [okRow, Bool.and_eq_true] at h
    simp [R__law_telling_row, g__law_telling_row, runF_e, startE, List.replicate, sizeLine, encRow, index_cell_ok _ _ h.1, _law_whole_int, in01, h.2] at e
    exact ⟨[], by rw [e2, ← e, List.append_nil]⟩
  | un o x y =>
    simp only [okRow, Bool.and_eq_true] at h
    exact telling_row_gen o.t x y [] 3 S (by simp [h]) rfl (by simp) (by cases o <;> decide +kernel) (by cases o <;> decide +kernel) (by cases o <;> decide +kernel) (by cases o <;> kernel_rfl) (fun q => absurd q (by cases o <;> decide +kernel))
  | bi o x y z =>
    simp only [okRow, Bool.and_eq_true] at h
    exact telling_row_gen o.t x y [z] 4 S (by simp [h]) rfl (by simp) (by cases o <;> decide +kernel) (by cases o <;> decide +kernel) (by cases o <;> decide +kernel) (by cases o <;> kernel_rfl) (fun q => absurd q (by cases o <;> decide +kernel))
  | times a b c d =>
    simp only [okRow, Bool.and_eq_true] at h
    exact telling_row_gen "times" a b [c, d] 5 S (by simp [h]) rfl (by simp) (by decide +kernel) (by decide +kernel) (by decide +kernel) (by kernel_rfl) (fun _ => by simpa using h.2.2.2.2)
theorem k__law_telling_row (A : All w K mg) : FnK P w K mg base 4 ⟨"_law_telling_row", 1, F__law_telling_row⟩ := (kr__law_telling_row A).weak w__law_telling_row
noncomputable def c__law_part_1 (Fr : Fn) : FE := (fCall Fr (fCons (fVar 2) (fCons (fBin dAdd (fVar 1) (fC (.int 1))) fNil)))
noncomputable def g__law_part (Fr : Fn) : FS := (sSeq (sIf (fOr (fNot (fTru (fCall oIsi (fCons (fVar 0) (fCons (fC (.ty "tuple")) fNil))))) (fB (fBin dLt (fCall oLen (fCons (fVar 0) fNil)) (fC (.int 2))))) (sSeq (sRet (fC (.bl false)))
  sNil) sNil)
  (sSeq (sIf (fB (fBin dEq (fBin dIx (fVar 0) (fC (.int 0))) (fC (.str "row")))) (sSeq (sRet (fAndV (fBin dEq (fCall oLen (fCons (fVar 0) fNil)) (fC (.int 2))) (fCall F__law_telling_row (fCons (fBin dIx (fVar 0) (fC (.int 1))) fNil))))
  sNil) sNil)
  (sSeq (sIf (fOr (fB (fBin dNe (fBin dIx (fVar 0) (fC (.int 0))) (fC (.str "rounds")))) (fOr (fB (fBin dNe (fCall oLen (fCons (fVar 0) fNil)) (fC (.int 4)))) (fOr (fB (fBin dGt (fVar 1) (fC (.int 1)))) (fNot (fTru (fCall F__law_wholes (fCons (fBin dIx (fVar 0) (fC (.int 1))) (fCons (fC (.int 3)) (fCons (fC (.int 200)) fNil))))))))) (sSeq (sRet (fC (.bl false)))
  sNil) sNil)
  (sSeq (sIf (fOr (fNot (fTru (fCall F__law_is_sentence (fCons (fBin dIx (fVar 0) (fC (.int 2))) fNil)))) (fNot (fTru (fCall oIsi (fCons (fBin dIx (fVar 0) (fC (.int 3))) (fCons (fC (.ty "tuple")) fNil)))))) (sSeq (sRet (fC (.bl false)))
  sNil) sNil)
  (sSeq (sRet (fCall oAll (fCons (fLc true [2] (fSeq (fBin dIx (fVar 0) (fC (.int 3)))) (.one 2) fYes (c__law_part_1 Fr)) fNil)))
  sNil)))))
theorem s__law_part : FnScope ["_law_part_here", "_law_deep", "_law_inner"] ["_law_part_here", "_law_deep"] (defScope (top 96)) := ⟨rfl, rfl, rfl, by decide +kernel, rfl, by decide +kernel, by decide +kernel⟩
noncomputable def F__law_part_0 : Fn := fun _ _ => .st
theorem k__law_part_0 (A : All w K mg) : FnK P w K mg base 1 ⟨"_law_part", 2, F__law_part_0⟩ := by
  obtain ⟨f, fd, hm, F⟩ := A.f__law_part
  exact fn_none A.fr F s__law_part hm (FunD.bindsN (ps := ["_law_part_here", "_law_deep"]) F fun _ _ _ _ _ _ us hl => match us, hl with | [_, _], _ => rfl) rfl
noncomputable def F__law_part_1 : Fn := runF 3 (g__law_part F__law_part_0)
theorem k__law_part_1 (A : All w K mg) : FnK P w K mg base 5 ⟨"_law_part", 2, F__law_part_1⟩ := by
  have hr := k__law_part_0 (P := P) (base := base) A
  obtain ⟨f, fd, hm, F⟩ := A.f__law_part
  exact fn_in A.fr (He5.fun_of F) s__law_part hm (FunD.bindsN (ps := ["_law_part_here", "_law_deep"]) F fun _ _ _ _ _ _ us hl => match us, hl with | [_, _], _ => rfl) fun X W h =>
  (dss_cons (ds_if (DW.dt (dw_or (dt_not (dt_tru (h.isinstance_ (h.cons h.var (h.cons h.tyv da_nil))) rfl)) (dw_or1 (h.lt.tv (h.len_ (h.cons h.var da_nil)) de_int)))) (dss_cons (ds_ret de_bl)
  dss_nil) dss_nil)
  (dss_cons (ds_if (h.eq.tv (h.ix h.var de_int) de_str) (dss_cons (ds_ret (de_and (h.eq.ev (h.len_ (h.cons h.var da_nil)) de_int) (de_one (h.call (k__law_telling_row A) (h.cons (h.ix h.var de_int) da_nil) (FsN.cons FsN.nil).len))))
  dss_nil) dss_nil)
  (dss_cons (ds_if (DW.dt (dw_or (h.ne.tv (h.ix h.var de_int) de_str) (dw_or (h.ne.tv (h.len_ (h.cons h.var da_nil)) de_int) (dw_or (h.gt.tv h.var de_int) (dw_or1 (dt_not (dt_tru (h.call (k__law_wholes A) (h.cons (h.ix h.var de_int) (h.cons de_int (h.cons de_int da_nil))) (FsN.cons (FsN.cons (FsN.cons FsN.nil))).len) rfl))))))) (dss_cons (ds_ret de_bl)
  dss_nil) dss_nil)
  (dss_cons (ds_if (DW.dt (dw_or (dt_not (dt_tru (h.call (k__law_is_sentence A) (h.cons (h.ix h.var de_int) da_nil) (FsN.cons FsN.nil).len) rfl)) (dw_or1 (dt_not (dt_tru (h.isinstance_ (h.cons (h.ix h.var de_int) (h.cons h.tyv da_nil))) rfl))))) (dss_cons (ds_ret de_bl)
  dss_nil) dss_nil)
  (dss_cons (ds_ret (h.all_ (h.cons (h.lc [("_law_inner", 2)] (di_seq (h.ix h.var de_int)) (fun s H C cl fp => have b := h.blk s H C cl fp; b.nmB) (fun _ _ _ _ _ => pts_yes) (fun s H C cl fp => have b := h.blk s H C cl fp; (b.call hr (b.cons b.var (b.cons (b.add b.var de_int) da_nil)) (FsN.cons (FsN.cons FsN.nil)).len))) da_nil)))
  dss_nil)))))
noncomputable def F__law_part_2 : Fn := runF 3 (g__law_part F__law_part_1)
theorem k__law_part_2 (A : All w K mg) : FnK P w K mg base 6 ⟨"_law_part", 2, F__law_part_2⟩ := by
  have hr := k__law_part_1 (P := P) (base := base) A
  obtain ⟨f, fd, hm, F⟩ := A.f__law_part
  exact fn_in A.fr (He5.fun_of F) s__law_part hm (FunD.bindsN (ps := ["_law_part_here", "_law_deep"]) F fun _ _ _ _ _ _ us hl => match us, hl with | [_, _], _ => rfl) fun X W h =>
  (dss_cons (ds_if (DW.dt (dw_or (dt_not (dt_tru (h.isinstance_ (h.cons h.var (h.cons h.tyv da_nil))) rfl)) (dw_or1 (h.lt.tv (h.len_ (h.cons h.var da_nil)) de_int)))) (dss_cons (ds_ret de_bl)
  dss_nil) dss_nil)
  (dss_cons (ds_if (h.eq.tv (h.ix h.var de_int) de_str) (dss_cons (ds_ret (de_and (h.eq.ev (h.len_ (h.cons h.var da_nil)) de_int) (de_one (h.call (k__law_telling_row A) (h.cons (h.ix h.var de_int) da_nil) (FsN.cons FsN.nil).len))))
  dss_nil) dss_nil)
  (dss_cons (ds_if (DW.dt (dw_or (h.ne.tv (h.ix h.var de_int) de_str) (dw_or (h.ne.tv (h.len_ (h.cons h.var da_nil)) de_int) (dw_or (h.gt.tv h.var de_int) (dw_or1 (dt_not (dt_tru (h.call (k__law_wholes A) (h.cons (h.ix h.var de_int) (h.cons de_int (h.cons de_int da_nil))) (FsN.cons (FsN.cons (FsN.cons FsN.nil))).len) rfl))))))) (dss_cons (ds_ret de_bl)
  dss_nil) dss_nil)
  (dss_cons (ds_if (DW.dt (dw_or (dt_not (dt_tru (h.call (k__law_is_sentence A) (h.cons (h.ix h.var de_int) da_nil) (FsN.cons FsN.nil).len) rfl)) (dw_or1 (dt_not (dt_tru (h.isinstance_ (h.cons (h.ix h.var de_int) (h.cons h.tyv da_nil))) rfl))))) (dss_cons (ds_ret de_bl)
  dss_nil) dss_nil)
  (dss_cons (ds_ret (h.all_ (h.cons (h.lc [("_law_inner", 2)] (di_seq (h.ix h.var de_int)) (fun s H C cl fp => have b := h.blk s H C cl fp; b.nmB) (fun _ _ _ _ _ => pts_yes) (fun s H C cl fp => have b := h.blk s H C cl fp; (b.call hr (b.cons b.var (b.cons (b.add b.var de_int) da_nil)) (FsN.cons (FsN.cons FsN.nil)).len))) da_nil)))
  dss_nil)))))
noncomputable def F__law_part_3 : Fn := runF 3 (g__law_part F__law_part_2)
theorem k__law_part_3 (A : All w K mg) : FnK P w K mg base 7 ⟨"_law_part", 2, F__law_part_3⟩ := by
  have hr := k__law_part_2 (P := P) (base := base) A
  obtain ⟨f, fd, hm, F⟩ := A.f__law_part
  exact fn_in A.fr (He5.fun_of F) s__law_part hm (FunD.bindsN (ps := ["_law_part_here", "_law_deep"]) F fun _ _ _ _ _ _ us hl => match us, hl with | [_, _], _ => rfl) fun X W h =>
  (dss_cons (ds_if (DW.dt (dw_or (dt_not (dt_tru (h.isinstance_ (h.cons h.var (h.cons h.tyv da_nil))) rfl)) (dw_or1 (h.lt.tv (h.len_ (h.cons h.var da_nil)) de_int)))) (dss_cons (ds_ret de_bl)
  dss_nil) dss_nil)
  (dss_cons (ds_if (h.eq.tv (h.ix h.var de_int) de_str) (dss_cons (ds_ret (de_and (h.eq.ev (h.len_ (h.cons h.var da_nil)) de_int) (de_one (h.call (k__law_telling_row A) (h.cons (h.ix h.var de_int) da_nil) (FsN.cons FsN.nil).len))))
  dss_nil) dss_nil)
  (dss_cons (ds_if (DW.dt (dw_or (h.ne.tv (h.ix h.var de_int) de_str) (dw_or (h.ne.tv (h.len_ (h.cons h.var da_nil)) de_int) (dw_or (h.gt.tv h.var de_int) (dw_or1 (dt_not (dt_tru (h.call (k__law_wholes A) (h.cons (h.ix h.var de_int) (h.cons de_int (h.cons de_int da_nil))) (FsN.cons (FsN.cons (FsN.cons FsN.nil))).len) rfl))))))) (dss_cons (ds_ret de_bl)
  dss_nil) dss_nil)
  (dss_cons (ds_if (DW.dt (dw_or (dt_not (dt_tru (h.call (k__law_is_sentence A) (h.cons (h.ix h.var de_int) da_nil) (FsN.cons FsN.nil).len) rfl)) (dw_or1 (dt_not (dt_tru (h.isinstance_ (h.cons (h.ix h.var de_int) (h.cons h.tyv da_nil))) rfl))))) (dss_cons (ds_ret de_bl)
  dss_nil) dss_nil)
  (dss_cons (ds_ret (h.all_ (h.cons (h.lc [("_law_inner", 2)] (di_seq (h.ix h.var de_int)) (fun s H C cl fp => have b := h.blk s H C cl fp; b.nmB) (fun _ _ _ _ _ => pts_yes) (fun s H C cl fp => have b := h.blk s H C cl fp; (b.call hr (b.cons b.var (b.cons (b.add b.var de_int) da_nil)) (FsN.cons (FsN.cons FsN.nil)).len))) da_nil)))
  dss_nil)))))
noncomputable def F__law_part : Fn := F__law_part_3
theorem k__law_part (A : All w K mg) : FnK P w K mg base 7 ⟨"_law_part", 2, F__law_part⟩ := k__law_part_3 A
theorem cnt_wholes (a : Cnt) (S : Sg) (h : okCnt a = true) : F__law_wholes [encCnt a, .int 3, .int 200] S = .ok (.bl true) S := by
  unfold okCnt at h
  simp only [Bool.and_eq_true] at h
  exact _law_wholes_ok false [a.c, a.m, a.t] 3 200 S rfl (by simp [sizeLine]) (by
    have h1 := okN_r h.1.1
    have h2 := okN_r h.1.2
    have h4 := okN_r h.2
    intro d hd
    simp only [List.mem_cons, List.not_mem_nil, or_false] at hd
    rcases hd with rfl | rfl | rfl <;> assumption)
theorem part_row (Fr : Fn) (r : Row TC) (deep : Int) (S : Sg) (h : okRow r = true) : runF 3 (g__law_part Fr) [.tup false [.str "row", encRow false encTC r], .int deep] S = .ok (.bl true) S := by
  simp [g__law_part, runF_e, startE, List.replicate, sizeLine, telling_row_ok _ _ h]
theorem part_rounds {α : Type} (Fr : Fn) (k : α → D) (n : Cnt) (s : List Term) (ps : List α) (deep : Int) (S : Sg) (hn : okCnt n = true) (hs : okSen s = true) (hd : deep ≤ 1) (hl : ps.length ≤ 500)
    (hp : ∀ p ∈ ps, ∀ S, Fr [k p, .int (deep + 1)] S = .ok (.bl true) S) : runF 3 (g__law_part Fr) [.tup false [.str "rounds", encCnt n, encSen s, .tup false (ps.map k)], .int deep] S = .ok (.bl true) S := by
  have e1 : ∀ S, fLc true [2] (fSeq (fBin dIx (fVar 0) (fC (.int 3)))) (.one 2) fYes (c__law_part_1 Fr) [some (.v (.tup false [.str "rounds", encCnt n, encSen s, .tup false (ps.map k)])), some (.v (.int deep)), none] S = .ok (.il (ps.map fun _ => D.bl true)) S := fun S =>
    fLc_mapf (k := k) (fun _ => D.bl true) (by simp [iSeq_tup]) rfl (fun x hx => ⟨_, rfl, fun T => by
      simp [c__law_part_1, wipeE, hp x hx]⟩) (by simp [sizeLine]; omega) fun _ _ => rfl
  have e3 := fun S => oAll_map (fun _ => true) ps S
  have hd2 : ¬ 1 < deep := by omega
  simp [g__law_part, runF_e, startE, List.replicate, sizeLine, hd2, cnt_wholes _ _ hn, _law_is_sentence_ok _ _ hs]
  simp only [List.map_const'] at e1 e3
  simp [e1, e3]
theorem inner_ok (p : Inner) (S : Sg) (h : okInner p = true) : F__law_part_2 [encInner p, .int 1] S = .ok (.bl true) S := by
  cases p with
  | row r => exact part_row _ r 1 S h
  | rounds n s ps =>
    simp only [okInner, Bool.and_eq_true, decide_eq_true_eq, List.all_eq_true] at h
    exact part_rounds _ encDeep n s ps 1 S h.1.1.1 h.1.1.2 (by omega) h.1.2 fun p hp S => part_row _ p 2 S (h.2 p hp)
theorem part_ok (p : Part) (S : Sg) (h : okPart p = true) : F__law_part [encPart p, .int 0] S = .ok (.bl true) S := by
  cases p with
  | row r => exact part_row _ r 0 S h
  | rounds n s ps =>
    simp only [okPart, Bool.and_eq_true, decide_eq_true_eq, List.all_eq_true] at h
    exact part_rounds _ encInner n s ps 0 S h.1.1.1 h.1.1.2 (by omega) h.1.2 fun p hp S => inner_ok p S (h.2 p hp)
noncomputable def c__law_is_telling_1 : FE := (fCall F__law_part (fCons (fVar 1) (fCons (fC (.int 0)) fNil)))
noncomputable def g__law_is_telling : FS := (sSeq (sRet (fAndV (fCall oIsi (fCons (fVar 0) (fCons (fC (.ty "tuple")) fNil))) (fCall oAll (fCons (fLc true [1] (fSeq (fVar 0)) (.one 1) fYes c__law_is_telling_1) fNil))))
  sNil)
noncomputable def F__law_is_telling : Fn := runF 2 g__law_is_telling
theorem s__law_is_telling : FnScope ["_law_told", "_law_part_here"] ["_law_told"] (defScope (top 97)) := ⟨rfl, rfl, rfl, by decide +kernel, rfl, by decide +kernel, by decide +kernel⟩
theorem k__law_is_telling (A : All w K mg) : FnK P w K mg base 8 ⟨"_law_is_telling", 1, F__law_is_telling⟩ := by
  obtain ⟨f, fd, hm, F⟩ := A.f__law_is_telling
  exact fn_in A.fr (He5.fun_of F) s__law_is_telling hm (FunD.bindsN (ps := ["_law_told"]) F fun _ _ _ _ _ _ us hl => match us, hl with | [_], _ => rfl) fun X W h =>
  (dss_cons (ds_ret (de_and (h.isinstance_ (h.cons h.var (h.cons h.tyv da_nil))) (de_one (h.all_ (h.cons (h.lc [("_law_part_here", 1)] (di_seq h.var) (fun s H C cl fp => have b := h.blk s H C cl fp; b.nmB) (fun _ _ _ _ _ => pts_yes) (fun s H C cl fp => have b := h.blk s H C cl fp; (b.call (k__law_part A) (b.cons b.var (b.cons de_int da_nil)) (FsN.cons (FsN.cons FsN.nil)).len))) da_nil)))))
  dss_nil)
theorem is_telling_ok (ps : List Part) (S : Sg) (h : okPs ps = true) : F__law_is_telling [encPs ps] S = .ok (.bl true) S := by
  simp only [okPs, Bool.and_eq_true, decide_eq_true_eq, List.all_eq_true] at h
  have e1 : ∀ S, fLc true [1] (fSeq (fVar 0)) (.one 1) fYes c__law_is_telling_1 [some (.v (encPs ps)), none] S = .ok (.il (ps.map fun _ => D.bl true)) S := fun S =>
    fLc_mapf (k := encPart) (fun _ => D.bl true) (by simp [iSeq_tup, encPs]) rfl (fun x hx => ⟨_, rfl, fun T => by
      simp [c__law_is_telling_1, wipeE, part_ok _ _ (h.2 x hx)]⟩) (by simp [sizeLine]; omega) fun _ _ => rfl
  have e3 := fun S => oAll_map (fun _ => true) ps S
  simp only [List.map_const'] at e1 e3
  have e4 : ∀ S, oIsi [encPs ps, .ty "tuple"] S = .ok (.bl true) S := fun S => rfl
  simp [F__law_is_telling, g__law_is_telling, runF_e, startE, List.replicate, sizeLine, e1, e3, e4]
noncomputable def g_do : FS := (sSeq (sRet (fTup (fCons (fC (.str "row")) (fCons (fVar 0) fNil))))
  sNil)
noncomputable def R_do : Fn := runF 1 g_do
theorem s_do : FnScope ["row"] ["row"] (defScope (top 5)) := ⟨rfl, rfl, rfl, by decide +kernel, rfl, by decide +kernel, by decide +kernel⟩
theorem kr_do (A : All w K mg) : FnK P w K mg base 1 ⟨"do", 1, R_do⟩ := by
  obtain ⟨f, fd, hm, F⟩ := A.f_do
  exact fn_in A.fr (He5.fun_of F) s_do hm (FunD.bindsN (ps := ["row"]) F fun _ _ _ _ _ _ us hl => match us, hl with | [_], _ => rfl) fun X W h =>
  (dss_cons (ds_ret (de_tup (h.cons de_str (h.cons h.var da_nil))))
  dss_nil)
noncomputable def q_do : Fn := fun ds S => lowR (R_do ds S)
noncomputable abbrev F_do : Fn := q_do
theorem w_do (ds : List D) (S : Sg) (h : ds.length = 1) : Weak S (R_do ds S) (q_do ds S) := weak_lowR
theorem do_e (r : D) (S : Sg) : F_do [r] S = .ok (.tup false [.str "row", r.low]) S := by
  simp [q_do, R_do, g_do, runF_e, startE, List.replicate, sizeLine]
theorem k_do (A : All w K mg) : FnK P w K mg base 1 ⟨"do", 1, F_do⟩ := (kr_do A).weak w_do
noncomputable def g_times_n : FS := (sSeq (sIf (fB (fBin dIs (fVar 1) (fC .non))) (sSeq (sRet (fTup (fCons (fC (.str "rounds")) (fCons (fTup (fCons (fC (.int 0)) (fCons (fC (.int 1)) (fCons (fC (.int 0)) fNil)))) (fCons (fTup fNil) (fCons (fVar 0) fNil))))))
  sNil) sNil)
  (sSeq (sRet (fTup (fCons (fC (.str "rounds")) (fCons (fTup (fCons (fC (.int 0)) (fCons (fC (.int 1)) (fCons (fC (.int 0)) fNil)))) (fCons (fVar 1) (fCons (fVar 0) fNil))))))
  sNil))
noncomputable def F_times_n : Fn := runF 2 g_times_n
theorem s_times_n : FnScope ["parts", "sentence"] ["parts", "sentence"] (defScope (top 6)) := ⟨rfl, rfl, rfl, by decide +kernel, rfl, by decide +kernel, by decide +kernel⟩
theorem k_times_n (A : All w K mg) : FnKD P w K mg base 1 ⟨"times_n", 2, F_times_n⟩ ["parts", "sentence"] (top 6) [.non] := by
  obtain ⟨f, fd, hm, F⟩ := A.f_times_n
  exact fn_inD A.fr F s_times_n hm (fun _ _ => (.cons .non .nil)) fun X W h =>
  (dss_cons (ds_if (h.is.tv h.var de_non) (dss_cons (ds_ret (de_tup (h.cons de_str (h.cons (de_tup (h.cons de_int (h.cons de_int (h.cons de_int da_nil)))) (h.cons (de_tup da_nil) (h.cons h.var da_nil))))))
  dss_nil) dss_nil)
  (dss_cons (ds_ret (de_tup (h.cons de_str (h.cons (de_tup (h.cons de_int (h.cons de_int (h.cons de_int da_nil)))) (h.cons h.var (h.cons h.var da_nil))))))
  dss_nil))
theorem times_none (p : D) (S : Sg) : F_times_n [p, .non] S = .ok (.tup true [.str "rounds", .tup true [.int 0, .int 1, .int 0], .tup true [], p]) S := by
  simp [F_times_n, g_times_n, runF_e, startE, List.replicate, sizeLine]
noncomputable def g_bare_mark_to : FS := (sSeq (sAsg (fTup (fCons (fC (.str "u")) (fCons (fTup (fCons (fC (.int 0)) (fCons (fC (.int 0)) (fCons (fC (.int 0)) (fCons (fC (.int 0)) fNil))))) fNil))) (gNm 1))
  (sSeq (sRet (fTup (fCons (fCall F_do (fCons (fTup (fCons (fC (.str "set")) (fCons (fVar 1) (fCons (fC (.int 1)) fNil)))) fNil)) (fCons (fCall F_do (fCons (fTup (fCons (fC (.str "less")) (fCons (fTup (fCons (fC (.str "m")) (fCons (fTup (fCons (fVar 0) (fCons (fC (.int 0)) (fCons (fC (.int 0)) (fCons (fC (.int 0)) fNil))))) fNil))) (fCons (fVar 1) (fCons (fC (.tup false [(.str "z"), (.tup false [(.int 0), (.int 0), (.int 0), (.int 0)])])) fNil))))) fNil)) fNil))))
  sNil))
noncomputable def R_bare_mark_to : Fn := runF 2 g_bare_mark_to
theorem s_bare_mark_to : FnScope ["at", "one"] ["at"] (defScope (top 9)) := ⟨rfl, rfl, rfl, by decide +kernel, rfl, by decide +kernel, by decide +kernel⟩
theorem kr_bare_mark_to (A : All w K mg) : FnK P w K mg base 2 ⟨"bare_mark_to", 1, R_bare_mark_to⟩ := by
  obtain ⟨f, fd, hm, F⟩ := A.f_bare_mark_to
  exact fn_in A.fr (He5.fun_of F) s_bare_mark_to hm (FunD.bindsN (ps := ["at"]) F fun _ _ _ _ _ _ us hl => match us, hl with | [_], _ => rfl) fun X W h =>
  (dss_cons (h.set (de_tup (h.cons de_str (h.cons (de_tup (h.cons de_int (h.cons de_int (h.cons de_int (h.cons de_int da_nil))))) da_nil))))
  (dss_cons (ds_ret (de_tup (h.cons (h.call (k_do A) (h.cons (de_tup (h.cons de_str (h.cons h.var (h.cons de_int da_nil)))) da_nil) (FsN.cons FsN.nil).len) (h.cons (h.call (k_do A) (h.cons (de_tup (h.cons de_str (h.cons (de_tup (h.cons de_str (h.cons (de_tup (h.cons h.var (h.cons de_int (h.cons de_int (h.cons de_int da_nil))))) da_nil))) (h.cons h.var (h.cons (h.gC A.c_NAUGHT) da_nil))))) da_nil) (FsN.cons FsN.nil).len) da_nil))))
  dss_nil))
noncomputable def q_bare_mark_to : Fn := fun ds S => lowR (R_bare_mark_to ds S)
noncomputable abbrev F_bare_mark_to : Fn := q_bare_mark_to
theorem w_bare_mark_to (ds : List D) (S : Sg) (h : ds.length = 1) : Weak S (R_bare_mark_to ds S) (q_bare_mark_to ds S) := weak_lowR
theorem bare_mark_to_e (a : Int) (S : Sg) : F_bare_mark_to [.int a] S = .ok (encPs (bareMarkTo a)) S := by
  simp [q_bare_mark_to, R_bare_mark_to, g_bare_mark_to, runF_e, startE, List.replicate, sizeLine, do_e]
  rfl
theorem k_bare_mark_to (A : All w K mg) : FnK P w K mg base 2 ⟨"bare_mark_to", 1, F_bare_mark_to⟩ := (kr_bare_mark_to A).weak w_bare_mark_to
noncomputable def g_cell : FS := (sSeq (sRet (fTup (fCons (fVar 0) (fCons (fTup (fCons (fVar 1) (fCons (fVar 2) (fCons (fVar 3) (fCons (fVar 4) fNil))))) fNil))))
  sNil)
noncomputable def F_cell : Fn := runF 5 g_cell
theorem s_cell : FnScope ["letter", "c", "i", "j", "m"] ["letter", "c", "i", "j", "m"] (defScope (top 4)) := ⟨rfl, rfl, rfl, by decide +kernel, rfl, by decide +kernel, by decide +kernel⟩
theorem k_cell (A : All w K mg) : FnKD P w K mg base 1 ⟨"cell", 5, F_cell⟩ ["letter", "c", "i", "j", "m"] (top 4) [(.int 0), (.int 0), (.int 0), (.int 0)] := by
  obtain ⟨f, fd, hm, F⟩ := A.f_cell
  exact fn_inD A.fr F s_cell hm (fun _ _ => (.cons (.int _) (.cons (.int _) (.cons (.int _) (.cons (.int _) .nil))))) fun X W h =>
  (dss_cons (ds_ret (de_tup (h.cons h.var (h.cons (de_tup (h.cons h.var (h.cons h.var (h.cons h.var (h.cons h.var da_nil))))) da_nil))))
  dss_nil)
theorem cell_e (l a b c d : D) (S : Sg) : F_cell [l, a, b, c, d] S = .ok (.tup true [l, .tup true [a, b, c, d]]) S := by
  simp [F_cell, g_cell, runF_e, startE, List.replicate, sizeLine]
@[simp] theorem pick_nil {α : Type} (l : List α) : pick [] l = [] := id rfl
theorem pick_cons {α : Type} (i : Nat) (is : List Nat) (l : List α) (x : α) (h : l[i]? = some x) : pick (i :: is) l = x :: pick is l := by
  unfold pick
  rw [List.filterMap_cons, h]
noncomputable def g_nought_to_mark : FS := (sSeq (sAsg (fCallK F_cell [0, 1, 2, 3, 4] [(.int 0), (.int 0), (.int 0), (.int 0)] (fCons (fC (.str "t")) fNil) fNil) (gNm 0))
  (sSeq (sAsg (fTup (fCons (fCall F_do (fCons (fTup (fCons (fC (.str "any")) (fCons (fVar 0) (fCons (fVar 0) (fCons (fCallK F_cell [0, 1, 2, 3, 4] [(.int 0), (.int 0), (.int 0), (.int 0)] (fCons (fC (.str "b")) (fCons (fC (.int 0)) (fCons (fC (.int 1)) (fCons (fC (.int 0)) (fCons (fC (.int 0)) fNil))))) fNil) fNil))))) fNil)) fNil)) (gNm 1))
  (sSeq (sRet (fBin dAdd (fTup (fCons (fCall F_do (fCons (fTup (fCons (fC (.str "set")) (fCons (fVar 0) (fCons (fC (.int 0)) fNil)))) fNil)) (fCons (fCallK F_times_n [0, 1] [.non] (fCons (fVar 1) fNil) fNil) (fCons (fCall F_do (fCons (fTup (fCons (fC (.str "ask")) (fCons (fVar 0) fNil))) fNil)) fNil)))) (fCall F_bare_mark_to (fCons (fC (.int 0)) fNil))))
  sNil)))
noncomputable def R_nought_to_mark : Fn := runF 2 g_nought_to_mark
theorem s_nought_to_mark : FnScope ["spare", "gather"] [] (defScope (top 56)) := ⟨rfl, rfl, rfl, by decide +kernel, rfl, by decide +kernel, by decide +kernel⟩
theorem kr_nought_to_mark (A : All w K mg) : FnK P w K mg base 3 ⟨"nought_to_mark", 0, R_nought_to_mark⟩ := by
  obtain ⟨f, fd, hm, F⟩ := A.f_nought_to_mark
  exact fn_in A.fr (He5.fun_of F) s_nought_to_mark hm (FunD.bindsN (ps := []) F fun _ _ _ _ _ _ us hl => match us, hl with | [], _ => rfl) fun X W h =>
  (dss_cons (h.set (h.callK (ks := []) [0, 1, 2, 3, 4] (k_cell A) bd_cell_1 (h.cons de_str da_nil) dk_nil (FsN.cons FsN.nil).len (FsN.nil).len))
  (dss_cons (h.set (de_tup (h.cons (h.call (k_do A) (h.cons (de_tup (h.cons de_str (h.cons h.var (h.cons h.var (h.cons (h.callK (ks := []) [0, 1, 2, 3, 4] (k_cell A) bd_cell_5 (h.cons de_str (h.cons de_int (h.cons de_int (h.cons de_int (h.cons de_int da_nil))))) dk_nil (FsN.cons (FsN.cons (FsN.cons (FsN.cons (FsN.cons FsN.nil))))).len (FsN.nil).len) da_nil))))) da_nil) (FsN.cons FsN.nil).len) da_nil)))
  (dss_cons (ds_ret (h.add (de_tup (h.cons (h.call (k_do A) (h.cons (de_tup (h.cons de_str (h.cons h.var (h.cons de_int da_nil)))) da_nil) (FsN.cons FsN.nil).len) (h.cons (h.callK (ks := []) [0, 1] (k_times_n A) bd_times_n_1 (h.cons h.var da_nil) dk_nil (FsN.cons FsN.nil).len (FsN.nil).len) (h.cons (h.call (k_do A) (h.cons (de_tup (h.cons de_str (h.cons h.var da_nil))) da_nil) (FsN.cons FsN.nil).len) da_nil)))) (h.call (k_bare_mark_to A) (h.cons de_int da_nil) (FsN.cons FsN.nil).len)))
  dss_nil)))
noncomputable def q_nought_to_mark : Fn := fun ds S => lowR (R_nought_to_mark ds S)
noncomputable abbrev F_nought_to_mark : Fn := q_nought_to_mark
theorem w_nought_to_mark (ds : List D) (S : Sg) (h : ds.length = 0) : Weak S (R_nought_to_mark ds S) (q_nought_to_mark ds S) := weak_lowR
theorem nought_e (S : Sg) : F_nought_to_mark [] S = .ok (encPs noughtToMark) S := by
  simp [q_nought_to_mark, R_nought_to_mark, g_nought_to_mark, runF_e, startE, List.replicate, sizeLine, do_e, cell_e, pick_cons, times_none, bare_mark_to_e, add_encPs, add_encPs2, bareMarkTo]
  rfl
theorem k_nought_to_mark (A : All w K mg) : FnK P w K mg base 3 ⟨"nought_to_mark", 0, F_nought_to_mark⟩ := (kr_nought_to_mark A).weak w_nought_to_mark
noncomputable def g_mark_to : FS := (sSeq (sRet (fTup (fCons (fCall F_do (fCons (fTup (fCons (fC (.str "sum")) (fCons (fTup (fCons (fC (.str "m")) (fCons (fTup (fCons (fVar 0) (fCons (fC (.int 0)) (fCons (fC (.int 0)) (fCons (fC (.int 0)) fNil))))) fNil))) (fCons (fC (.tup false [(.str "z"), (.tup false [(.int 0), (.int 0), (.int 0), (.int 0)])])) (fCons (fC (.tup false [(.str "z"), (.tup false [(.int 0), (.int 0), (.int 0), (.int 0)])])) fNil))))) fNil)) fNil)))
  sNil)
noncomputable def R_mark_to : Fn := runF 1 g_mark_to
theorem s_mark_to : FnScope ["at"] ["at"] (defScope (top 8)) := ⟨rfl, rfl, rfl, by decide +kernel, rfl, by decide +kernel, by decide +kernel⟩
theorem kr_mark_to (A : All w K mg) : FnK P w K mg base 2 ⟨"mark_to", 1, R_mark_to⟩ := by
  obtain ⟨f, fd, hm, F⟩ := A.f_mark_to
  exact fn_in A.fr (He5.fun_of F) s_mark_to hm (FunD.bindsN (ps := ["at"]) F fun _ _ _ _ _ _ us hl => match us, hl with | [_], _ => rfl) fun X W h =>
  (dss_cons (ds_ret (de_tup (h.cons (h.call (k_do A) (h.cons (de_tup (h.cons de_str (h.cons (de_tup (h.cons de_str (h.cons (de_tup (h.cons h.var (h.cons de_int (h.cons de_int (h.cons de_int da_nil))))) da_nil))) (h.cons (h.gC A.c_NAUGHT) (h.cons (h.gC A.c_NAUGHT) da_nil))))) da_nil) (FsN.cons FsN.nil).len) da_nil)))
  dss_nil)
noncomputable def q_mark_to : Fn := fun ds S => lowR (R_mark_to ds S)
noncomputable abbrev F_mark_to : Fn := q_mark_to
theorem w_mark_to (ds : List D) (S : Sg) (h : ds.length = 1) : Weak S (R_mark_to ds S) (q_mark_to ds S) := weak_lowR
theorem mark_to_e (a : Int) (S : Sg) : F_mark_to [.int a] S = .ok (encPs (markTo a)) S := by
  simp [q_mark_to, R_mark_to, g_mark_to, runF_e, startE, List.replicate, sizeLine, do_e]
  rfl
theorem k_mark_to (A : All w K mg) : FnK P w K mg base 2 ⟨"mark_to", 1, F_mark_to⟩ := (kr_mark_to A).weak w_mark_to
noncomputable def g_ends : FS := (sSeq (sAsg (fTup (fCons (fC (.str "t")) (fCons (fTup (fCons (fC (.int 0)) (fCons (fC (.int 0)) (fCons (fC (.int 0)) (fCons (fC (.int 0)) fNil))))) fNil))) (gNm 3))
  (sSeq (sAsg (fCall F_do (fCons (fTup (fCons (fC (.str "any")) (fCons (fVar 3) (fCons (fVar 3) (fCons (fTup (fCons (fVar 0) (fCons (fTup (fCons (fC (.int 0)) (fCons (fC (.int 1)) (fCons (fC (.int 0)) (fCons (fC (.int 0)) fNil))))) fNil))) fNil))))) fNil)) (gNm 4))
  (sSeq (sAsg (fTup (fCons (fVar 0) (fCons (fTup (fCons (fBin dSub (fVar 1) (fC (.int 1))) (fCons (fC (.int 0)) (fCons (fC (.int 0)) (fCons (fVar 2) fNil))))) fNil))) (gNm 5))
  (sSeq (sAsg (fBin dAdd (fTup (fCons (fCall F_do (fCons (fTup (fCons (fC (.str "set")) (fCons (fVar 3) (fCons (fC (.int 0)) fNil)))) fNil)) (fCons (fTup (fCons (fC (.str "rounds")) (fCons (fTup (fCons (fVar 1) (fCons (fVar 2) (fCons (fC (.int 0)) fNil)))) (fCons (fTup fNil) (fCons (fTup (fCons (fVar 4) fNil)) fNil))))) (fCons (fCall F_do (fCons (fTup (fCons (fC (.str "ask")) (fCons (fVar 3) fNil))) fNil)) fNil)))) (fCall F_bare_mark_to (fCons (fC (.int 2)) fNil))) (gNm 6))
  (sSeq (sRet (fBin dAdd (fBin dAdd (fVar 6) (fTup (fCons (fCall F_do (fCons (fTup (fCons (fC (.str "mark")) (fCons (fC (.int 0)) fNil))) fNil)) (fCons (fCall F_do (fCons (fTup (fCons (fC (.str "twice")) (fCons (fVar 3) (fCons (fVar 5) fNil)))) fNil)) fNil)))) (fCall F_mark_to (fCons (fC (.int 3)) fNil))))
  sNil)))))
noncomputable def R_ends : Fn := runF 7 g_ends
theorem s_ends : FnScope ["letter", "c", "m", "spare", "gather", "last", "nought"] ["letter", "c", "m"] (defScope (top 10)) := ⟨rfl, rfl, rfl, by decide +kernel, rfl, by decide +kernel, by decide +kernel⟩
theorem kr_ends (A : All w K mg) : FnK P w K mg base 3 ⟨"ends", 3, R_ends⟩ := by
  obtain ⟨f, fd, hm, F⟩ := A.f_ends
  exact fn_in A.fr (He5.fun_of F) s_ends hm (FunD.bindsN (ps := ["letter", "c", "m"]) F fun _ _ _ _ _ _ us hl => match us, hl with | [_, _, _], _ => rfl) fun X W h =>
  (dss_cons (h.set (de_tup (h.cons de_str (h.cons (de_tup (h.cons de_int (h.cons de_int (h.cons de_int (h.cons de_int da_nil))))) da_nil))))
  (dss_cons (h.set (h.call (k_do A) (h.cons (de_tup (h.cons de_str (h.cons h.var (h.cons h.var (h.cons (de_tup (h.cons h.var (h.cons (de_tup (h.cons de_int (h.cons de_int (h.cons de_int (h.cons de_int da_nil))))) da_nil))) da_nil))))) da_nil) (FsN.cons FsN.nil).len))
  (dss_cons (h.set (de_tup (h.cons h.var (h.cons (de_tup (h.cons (h.sub h.var de_int) (h.cons de_int (h.cons de_int (h.cons h.var da_nil))))) da_nil))))
  (dss_cons (h.set (h.add (de_tup (h.cons (h.call (k_do A) (h.cons (de_tup (h.cons de_str (h.cons h.var (h.cons de_int da_nil)))) da_nil) (FsN.cons FsN.nil).len) (h.cons (de_tup (h.cons de_str (h.cons (de_tup (h.cons h.var (h.cons h.var (h.cons de_int da_nil)))) (h.cons (de_tup da_nil) (h.cons (de_tup (h.cons h.var da_nil)) da_nil))))) (h.cons (h.call (k_do A) (h.cons (de_tup (h.cons de_str (h.cons h.var da_nil))) da_nil) (FsN.cons FsN.nil).len) da_nil)))) (h.call (k_bare_mark_to A) (h.cons de_int da_nil) (FsN.cons FsN.nil).len)))
  (dss_cons (ds_ret (h.add (h.add h.var (de_tup (h.cons (h.call (k_do A) (h.cons (de_tup (h.cons de_str (h.cons de_int da_nil))) da_nil) (FsN.cons FsN.nil).len) (h.cons (h.call (k_do A) (h.cons (de_tup (h.cons de_str (h.cons h.var (h.cons h.var da_nil)))) da_nil) (FsN.cons FsN.nil).len) da_nil)))) (h.call (k_mark_to A) (h.cons de_int da_nil) (FsN.cons FsN.nil).len)))
  dss_nil)))))
noncomputable def q_ends : Fn := fun ds S => lowR (R_ends ds S)
noncomputable abbrev F_ends : Fn := q_ends
theorem w_ends (ds : List D) (S : Sg) (h : ds.length = 3) : Weak S (R_ends ds S) (q_ends ds S) := weak_lowR
theorem ends_e (l : Str) (c m : Int) (S : Sg) : F_ends [.str l, .int c, .int m] S = .ok (encPs (endsT l c m)) S := by
  simp [q_ends, R_ends, g_ends, runF_e, startE, List.replicate, sizeLine, do_e, mark_to_e, bare_mark_to_e, add_encPs, add_encPs2, add_encPs3, bareMarkTo, markTo]
  rfl
theorem k_ends (A : All w K mg) : FnK P w K mg base 3 ⟨"ends", 3, F_ends⟩ := (kr_ends A).weak w_ends
noncomputable def g_mask_of : FS := (sSeq (sRet (fTup (fCons (fCall F_do (fCons (fTup (fCons (fC (.str "mark")) (fCons (fC (.int 0)) fNil))) fNil)) (fCons (fCall F_do (fCons (fTup (fCons (fC (.str "twice")) (fCons (fCallK F_cell [0, 1, 2, 3, 4] [(.int 0), (.int 0), (.int 0), (.int 0)] (fCons (fC (.str "t")) fNil) fNil) (fCons (fVar 1) fNil)))) fNil)) (fCons (fCall F_do (fCons (fTup (fCons (fC (.str "less")) (fCons (fVar 0) (fCons (fC (.tup false [(.str "z"), (.tup false [(.int 0), (.int 0), (.int 0), (.int 0)])])) (fCons (fC (.tup false [(.str "z"), (.tup false [(.int 0), (.int 0), (.int 0), (.int 0)])])) fNil))))) fNil)) fNil)))))
  sNil)
noncomputable def R_mask_of : Fn := runF 2 g_mask_of
theorem s_mask_of : FnScope ["place", "last"] ["place", "last"] (defScope (top 67)) := ⟨rfl, rfl, rfl, by decide +kernel, rfl, by decide +kernel, by decide +kernel⟩
theorem kr_mask_of (A : All w K mg) : FnK P w K mg base 2 ⟨"mask_of", 2, R_mask_of⟩ := by
  obtain ⟨f, fd, hm, F⟩ := A.f_mask_of
  exact fn_in A.fr (He5.fun_of F) s_mask_of hm (FunD.bindsN (ps := ["place", "last"]) F fun _ _ _ _ _ _ us hl => match us, hl with | [_, _], _ => rfl) fun X W h =>
  (dss_cons (ds_ret (de_tup (h.cons (h.call (k_do A) (h.cons (de_tup (h.cons de_str (h.cons de_int da_nil))) da_nil) (FsN.cons FsN.nil).len) (h.cons (h.call (k_do A) (h.cons (de_tup (h.cons de_str (h.cons (h.callK (ks := []) [0, 1, 2, 3, 4] (k_cell A) bd_cell_1 (h.cons de_str da_nil) dk_nil (FsN.cons FsN.nil).len (FsN.nil).len) (h.cons h.var da_nil)))) da_nil) (FsN.cons FsN.nil).len) (h.cons (h.call (k_do A) (h.cons (de_tup (h.cons de_str (h.cons h.var (h.cons (h.gC A.c_NAUGHT) (h.cons (h.gC A.c_NAUGHT) da_nil))))) da_nil) (FsN.cons FsN.nil).len) da_nil)))))
  dss_nil)
noncomputable def q_mask_of : Fn := fun ds S => lowR (R_mask_of ds S)
noncomputable abbrev F_mask_of : Fn := q_mask_of
theorem w_mask_of (ds : List D) (S : Sg) (h : ds.length = 2) : Weak S (R_mask_of ds S) (q_mask_of ds S) := weak_lowR
theorem k_mask_of (A : All w K mg) : FnK P w K mg base 2 ⟨"mask_of", 2, F_mask_of⟩ := (kr_mask_of A).weak w_mask_of
noncomputable def g_one_more : FS := (sSeq (sRet (fTup (fCons (fC (.str "rounds")) (fCons (fTup (fCons (fC (.int 1)) (fCons (fC (.int 1)) (fCons (fC (.int 0)) fNil)))) (fCons (fTup fNil) (fCons (fVar 0) fNil))))))
  sNil)
noncomputable def R_one_more : Fn := runF 1 g_one_more
theorem s_one_more : FnScope ["parts"] ["parts"] (defScope (top 50)) := ⟨rfl, rfl, rfl, by decide +kernel, rfl, by decide +kernel, by decide +kernel⟩
theorem kr_one_more (A : All w K mg) : FnK P w K mg base 1 ⟨"one_more", 1, R_one_more⟩ := by
  obtain ⟨f, fd, hm, F⟩ := A.f_one_more
  exact fn_in A.fr (He5.fun_of F) s_one_more hm (FunD.bindsN (ps := ["parts"]) F fun _ _ _ _ _ _ us hl => match us, hl with | [_], _ => rfl) fun X W h =>
  (dss_cons (ds_ret (de_tup (h.cons de_str (h.cons (de_tup (h.cons de_int (h.cons de_int (h.cons de_int da_nil)))) (h.cons (de_tup da_nil) (h.cons h.var da_nil))))))
  dss_nil)
noncomputable def q_one_more : Fn := fun ds S => lowR (R_one_more ds S)
noncomputable abbrev F_one_more : Fn := q_one_more
theorem w_one_more (ds : List D) (S : Sg) (h : ds.length = 1) : Weak S (R_one_more ds S) (q_one_more ds S) := weak_lowR
theorem one_more_e (p : D) (S : Sg) : F_one_more [p] S = .ok (.tup false [.str "rounds", .tup false [.int 1, .int 1, .int 0], .tup false [], p.low]) S := by
  simp [q_one_more, R_one_more, g_one_more, runF_e, startE, List.replicate, sizeLine]
theorem k_one_more (A : All w K mg) : FnK P w K mg base 1 ⟨"one_more", 1, F_one_more⟩ := (kr_one_more A).weak w_one_more
noncomputable def g_chosen_rest : FS := (sSeq (sAsg (fCallK F_cell [0, 1, 2, 3, 4] [(.int 0), (.int 0), (.int 0), (.int 0)] (fCons (fC (.str "d")) (fCons (fC (.int 0)) (fCons (fC (.int 0)) (fCons (fC (.int 1)) (fCons (fC (.int 0)) fNil))))) fNil) (gNm 0))
  (sSeq (sAsg (fCallK F_cell [0, 1, 2, 3, 4] [(.int 0), (.int 0), (.int 0), (.int 0)] (fCons (fC (.str "f")) (fCons (fC (.int 0)) (fCons (fC (.int 0)) (fCons (fC (.int 1)) (fCons (fC (.int 0)) fNil))))) fNil) (gNm 1))
  (sSeq (sAsg (fCallK F_cell [0, 1, 2, 3, 4] [(.int 0), (.int 0), (.int 0), (.int 0)] (fCons (fC (.str "g")) fNil) fNil) (gNm 2))
  (sSeq (sRet (fTup (fCons (fCall F_do (fCons (fTup (fCons (fC (.str "both")) (fCons (fVar 2) (fCons (fVar 0) (fCons (fCallK F_cell [0, 1, 2, 3, 4] [(.int 0), (.int 0), (.int 0), (.int 0)] (fCons (fC (.str "p")) fNil) fNil) fNil))))) fNil)) (fCons (fCall F_do (fCons (fTup (fCons (fC (.str "both")) (fCons (fVar 1) (fCons (fVar 1) (fCons (fCallK F_cell [0, 1, 2, 3, 4] [(.int 0), (.int 0), (.int 0), (.int 0)] (fCons (fC (.str "q")) fNil) fNil) fNil))))) fNil)) (fCons (fCall F_do (fCons (fTup (fCons (fC (.str "any")) (fCons (fVar 0) (fCons (fVar 2) (fCons (fVar 1) fNil))))) fNil)) fNil)))))
  sNil))))
noncomputable def R_chosen_rest : Fn := runF 3 g_chosen_rest
theorem s_chosen_rest : FnScope ["rest", "trial", "kept"] [] (defScope (top 53)) := ⟨rfl, rfl, rfl, by decide +kernel, rfl, by decide +kernel, by decide +kernel⟩
theorem kr_chosen_rest (A : All w K mg) : FnK P w K mg base 2 ⟨"chosen_rest", 0, R_chosen_rest⟩ := by
  obtain ⟨f, fd, hm, F⟩ := A.f_chosen_rest
  exact fn_in A.fr (He5.fun_of F) s_chosen_rest hm (FunD.bindsN (ps := []) F fun _ _ _ _ _ _ us hl => match us, hl with | [], _ => rfl) fun X W h =>
  (dss_cons (h.set (h.callK (ks := []) [0, 1, 2, 3, 4] (k_cell A) bd_cell_5 (h.cons de_str (h.cons de_int (h.cons de_int (h.cons de_int (h.cons de_int da_nil))))) dk_nil (FsN.cons (FsN.cons (FsN.cons (FsN.cons (FsN.cons FsN.nil))))).len (FsN.nil).len))
  (dss_cons (h.set (h.callK (ks := []) [0, 1, 2, 3, 4] (k_cell A) bd_cell_5 (h.cons de_str (h.cons de_int (h.cons de_int (h.cons de_int (h.cons de_int da_nil))))) dk_nil (FsN.cons (FsN.cons (FsN.cons (FsN.cons (FsN.cons FsN.nil))))).len (FsN.nil).len))
  (dss_cons (h.set (h.callK (ks := []) [0, 1, 2, 3, 4] (k_cell A) bd_cell_1 (h.cons de_str da_nil) dk_nil (FsN.cons FsN.nil).len (FsN.nil).len))
  (dss_cons (ds_ret (de_tup (h.cons (h.call (k_do A) (h.cons (de_tup (h.cons de_str (h.cons h.var (h.cons h.var (h.cons (h.callK (ks := []) [0, 1, 2, 3, 4] (k_cell A) bd_cell_1 (h.cons de_str da_nil) dk_nil (FsN.cons FsN.nil).len (FsN.nil).len) da_nil))))) da_nil) (FsN.cons FsN.nil).len) (h.cons (h.call (k_do A) (h.cons (de_tup (h.cons de_str (h.cons h.var (h.cons h.var (h.cons (h.callK (ks := []) [0, 1, 2, 3, 4] (k_cell A) bd_cell_1 (h.cons de_str da_nil) dk_nil (FsN.cons FsN.nil).len (FsN.nil).len) da_nil))))) da_nil) (FsN.cons FsN.nil).len) (h.cons (h.call (k_do A) (h.cons (de_tup (h.cons de_str (h.cons h.var (h.cons h.var (h.cons h.var da_nil))))) da_nil) (FsN.cons FsN.nil).len) da_nil)))))
  dss_nil))))
noncomputable def q_chosen_rest : Fn := fun ds S => lowR (R_chosen_rest ds S)
noncomputable abbrev F_chosen_rest : Fn := q_chosen_rest
theorem w_chosen_rest (ds : List D) (S : Sg) (h : ds.length = 0) : Weak S (R_chosen_rest ds S) (q_chosen_rest ds S) := weak_lowR
theorem chosen_e (S : Sg) : F_chosen_rest [] S = .ok (.tup false (chosenRows.map encDeep)) S := by
  simp [q_chosen_rest, R_chosen_rest, g_chosen_rest, runF_e, startE, List.replicate, sizeLine, do_e, cell_e, pick_cons]
  rfl
theorem k_chosen_rest (A : All w K mg) : FnK P w K mg base 2 ⟨"chosen_rest", 0, F_chosen_rest⟩ := (kr_chosen_rest A).weak w_chosen_rest
noncomputable def g_doubled : FS := (sSeq (sAsg (fCallK F_cell [0, 1, 2, 3, 4] [(.int 0), (.int 0), (.int 0), (.int 0)] (fCons (fVar 0) (fCons (fC (.int 0)) (fCons (fC (.int 0)) (fCons (fC (.int 1)) (fCons (fC (.int 0)) fNil))))) fNil) (gNm 1))
  (sSeq (sRet (fCall F_do (fCons (fTup (fCons (fC (.str "twice")) (fCons (fVar 1) (fCons (fVar 1) fNil)))) fNil)))
  sNil))
noncomputable def R_doubled : Fn := runF 2 g_doubled
theorem s_doubled : FnScope ["letter", "here"] ["letter"] (defScope (top 52)) := ⟨rfl, rfl, rfl, by decide +kernel, rfl, by decide +kernel, by decide +kernel⟩
theorem kr_doubled (A : All w K mg) : FnK P w K mg base 2 ⟨"doubled", 1, R_doubled⟩ := by
  obtain ⟨f, fd, hm, F⟩ := A.f_doubled
  exact fn_in A.fr (He5.fun_of F) s_doubled hm (FunD.bindsN (ps := ["letter"]) F fun _ _ _ _ _ _ us hl => match us, hl with | [_], _ => rfl) fun X W h =>
  (dss_cons (h.set (h.callK (ks := []) [0, 1, 2, 3, 4] (k_cell A) bd_cell_5 (h.cons h.var (h.cons de_int (h.cons de_int (h.cons de_int (h.cons de_int da_nil))))) dk_nil (FsN.cons (FsN.cons (FsN.cons (FsN.cons (FsN.cons FsN.nil))))).len (FsN.nil).len))
  (dss_cons (ds_ret (h.call (k_do A) (h.cons (de_tup (h.cons de_str (h.cons h.var (h.cons h.var da_nil)))) da_nil) (FsN.cons FsN.nil).len))
  dss_nil))
noncomputable def q_doubled : Fn := fun ds S => lowR (R_doubled ds S)
noncomputable abbrev F_doubled : Fn := q_doubled
theorem w_doubled (ds : List D) (S : Sg) (h : ds.length = 1) : Weak S (R_doubled ds S) (q_doubled ds S) := weak_lowR
theorem doubled_e (l : Str) (S : Sg) : F_doubled [.str l] S = .ok (encDeep (doubledR l)) S := by
  simp [q_doubled, R_doubled, g_doubled, runF_e, startE, List.replicate, sizeLine, do_e, cell_e, pick_cons]
  rfl
theorem k_doubled (A : All w K mg) : FnK P w K mg base 2 ⟨"doubled", 1, F_doubled⟩ := (kr_doubled A).weak w_doubled
noncomputable def g_place_parts : FS := (sSeq (sAsg (fTup (fCons (fCall F_do (fCons (fTup (fCons (fC (.str "mark")) (fCons (fC (.int 0)) fNil))) fNil)) (fCons (fCallK F_times_n [0, 1] [.non] (fCons (fTup (fCons (fCall F_doubled (fCons (fC (.str "e")) fNil)) fNil)) fNil) fNil) (fCons (fCall F_one_more (fCons (fTup (fCons (fCall F_doubled (fCons (fC (.str "d")) fNil)) fNil)) fNil)) (fCons (fCall F_do (fCons (fTup (fCons (fC (.str "mark")) (fCons (fC (.int 0)) fNil))) fNil)) fNil))))) (gNm 1))
  (sSeq (sAsg (fCall F_do (fCons (fTup (fCons (fC (.str "less")) (fCons (fCallK F_cell [0, 1, 2, 3, 4] [(.int 0), (.int 0), (.int 0), (.int 0)] (fCons (fC (.str "f")) (fCons (fC (.int 0)) (fCons (fC (.int 0)) (fCons (fC (.int 1)) (fCons (fC (.int 0)) fNil))))) fNil) (fCons (fCallK F_cell [0, 1, 2, 3, 4] [(.int 0), (.int 0), (.int 0), (.int 0)] (fCons (fC (.str "d")) (fCons (fC (.int 0)) (fCons (fC (.int 0)) (fCons (fC (.int 1)) (fCons (fC (.int 0)) fNil))))) fNil) (fCons (fCallK F_cell [0, 1, 2, 3, 4] [(.int 0), (.int 0), (.int 0), (.int 0)] (fCons (fVar 0) (fCons (fC (.int 0)) (fCons (fC (.int 0)) (fCons (fC (.int 1)) (fCons (fC (.int 0)) fNil))))) fNil) fNil))))) fNil)) (gNm 2))
  (sSeq (sAsg (fTup (fCons (fCall F_do (fCons (fTup (fCons (fC (.str "less")) (fCons (fCallK F_cell [0, 1, 2, 3, 4] [(.int 0), (.int 0), (.int 0), (.int 0)] (fCons (fC (.str "p")) fNil) fNil) (fCons (fC (.tup false [(.str "z"), (.tup false [(.int 0), (.int 0), (.int 0), (.int 0)])])) (fCons (fC (.tup false [(.str "z"), (.tup false [(.int 0), (.int 0), (.int 0), (.int 0)])])) fNil))))) fNil)) (fCons (fCall F_do (fCons (fTup (fCons (fC (.str "bare")) (fCons (fCallK F_cell [0, 1, 2, 3, 4] [(.int 0), (.int 0), (.int 0), (.int 0)] (fCons (fC (.str "q")) fNil) fNil) (fCons (fCallK F_cell [0, 1, 2, 3, 4] [(.int 0), (.int 0), (.int 0), (.int 0)] (fCons (fC (.str "p")) fNil) fNil) fNil)))) fNil)) fNil))) (gNm 3))
  (sSeq (sAsg (fTup (fCons (fCall F_do (fCons (fTup (fCons (fC (.str "ask")) (fCons (fCallK F_cell [0, 1, 2, 3, 4] [(.int 0), (.int 0), (.int 0), (.int 0)] (fCons (fC (.str "q")) fNil) fNil) fNil))) fNil)) (fCons (fCallK F_times_n [0, 1] [.non] (fCons (fTup (fCons (fCall F_doubled (fCons (fC (.str "c")) fNil)) fNil)) fNil) fNil) fNil))) (gNm 4))
  (sSeq (sRet (fBin dAdd (fBin dAdd (fBin dAdd (fBin dAdd (fVar 1) (fTup (fCons (fCall F_one_more (fCons (fTup (fCons (fVar 2) fNil)) fNil)) fNil))) (fVar 3)) (fTup (fCons (fCall F_one_more (fCons (fCall F_chosen_rest fNil) fNil)) fNil))) (fVar 4)))
  sNil)))))
noncomputable def R_place_parts : Fn := runF 5 g_place_parts
theorem s_place_parts : FnScope ["under", "down", "less", "masks", "up"] ["under"] (defScope (top 54)) := ⟨rfl, rfl, rfl, by decide +kernel, rfl, by decide +kernel, by decide +kernel⟩
theorem kr_place_parts (A : All w K mg) : FnK P w K mg base 3 ⟨"place_parts", 1, R_place_parts⟩ := by
  obtain ⟨f, fd, hm, F⟩ := A.f_place_parts
  exact fn_in A.fr (He5.fun_of F) s_place_parts hm (FunD.bindsN (ps := ["under"]) F fun _ _ _ _ _ _ us hl => match us, hl with | [_], _ => rfl) fun X W h =>
  (dss_cons (h.set (de_tup (h.cons (h.call (k_do A) (h.cons (de_tup (h.cons de_str (h.cons de_int da_nil))) da_nil) (FsN.cons FsN.nil).len) (h.cons (h.callK (ks := []) [0, 1] (k_times_n A) bd_times_n_1 (h.cons (de_tup (h.cons (h.call (k_doubled A) (h.cons de_str da_nil) (FsN.cons FsN.nil).len) da_nil)) da_nil) dk_nil (FsN.cons FsN.nil).len (FsN.nil).len) (h.cons (h.call (k_one_more A) (h.cons (de_tup (h.cons (h.call (k_doubled A) (h.cons de_str da_nil) (FsN.cons FsN.nil).len) da_nil)) da_nil) (FsN.cons FsN.nil).len) (h.cons (h.call (k_do A) (h.cons (de_tup (h.cons de_str (h.cons de_int da_nil))) da_nil) (FsN.cons FsN.nil).len) da_nil))))))
  (dss_cons (h.set (h.call (k_do A) (h.cons (de_tup (h.cons de_str (h.cons (h.callK (ks := []) [0, 1, 2, 3, 4] (k_cell A) bd_cell_5 (h.cons de_str (h.cons de_int (h.cons de_int (h.cons de_int (h.cons de_int da_nil))))) dk_nil (FsN.cons (FsN.cons (FsN.cons (FsN.cons (FsN.cons FsN.nil))))).len (FsN.nil).len) (h.cons (h.callK (ks := []) [0, 1, 2, 3, 4] (k_cell A) bd_cell_5 (h.cons de_str (h.cons de_int (h.cons de_int (h.cons de_int (h.cons de_int da_nil))))) dk_nil (FsN.cons (FsN.cons (FsN.cons (FsN.cons (FsN.cons FsN.nil))))).len (FsN.nil).len) (h.cons (h.callK (ks := []) [0, 1, 2, 3, 4] (k_cell A) bd_cell_5 (h.cons h.var (h.cons de_int (h.cons de_int (h.cons de_int (h.cons de_int da_nil))))) dk_nil (FsN.cons (FsN.cons (FsN.cons (FsN.cons (FsN.cons FsN.nil))))).len (FsN.nil).len) da_nil))))) da_nil) (FsN.cons FsN.nil).len))
  (dss_cons (h.set (de_tup (h.cons (h.call (k_do A) (h.cons (de_tup (h.cons de_str (h.cons (h.callK (ks := []) [0, 1, 2, 3, 4] (k_cell A) bd_cell_1 (h.cons de_str da_nil) dk_nil (FsN.cons FsN.nil).len (FsN.nil).len) (h.cons (h.gC A.c_NAUGHT) (h.cons (h.gC A.c_NAUGHT) da_nil))))) da_nil) (FsN.cons FsN.nil).len) (h.cons (h.call (k_do A) (h.cons (de_tup (h.cons de_str (h.cons (h.callK (ks := []) [0, 1, 2, 3, 4] (k_cell A) bd_cell_1 (h.cons de_str da_nil) dk_nil (FsN.cons FsN.nil).len (FsN.nil).len) (h.cons (h.callK (ks := []) [0, 1, 2, 3, 4] (k_cell A) bd_cell_1 (h.cons de_str da_nil) dk_nil (FsN.cons FsN.nil).len (FsN.nil).len) da_nil)))) da_nil) (FsN.cons FsN.nil).len) da_nil))))
  (dss_cons (h.set (de_tup (h.cons (h.call (k_do A) (h.cons (de_tup (h.cons de_str (h.cons (h.callK (ks := []) [0, 1, 2, 3, 4] (k_cell A) bd_cell_1 (h.cons de_str da_nil) dk_nil (FsN.cons FsN.nil).len (FsN.nil).len) da_nil))) da_nil) (FsN.cons FsN.nil).len) (h.cons (h.callK (ks := []) [0, 1] (k_times_n A) bd_times_n_1 (h.cons (de_tup (h.cons (h.call (k_doubled A) (h.cons de_str da_nil) (FsN.cons FsN.nil).len) da_nil)) da_nil) dk_nil (FsN.cons FsN.nil).len (FsN.nil).len) da_nil))))
  (dss_cons (ds_ret (h.add (h.add (h.add (h.add h.var (de_tup (h.cons (h.call (k_one_more A) (h.cons (de_tup (h.cons h.var da_nil)) da_nil) (FsN.cons FsN.nil).len) da_nil))) h.var) (de_tup (h.cons (h.call (k_one_more A) (h.cons (h.call0 (k_chosen_rest A)) da_nil) (FsN.cons FsN.nil).len) da_nil))) h.var))
  dss_nil)))))
noncomputable def q_place_parts : Fn := fun ds S => lowR (R_place_parts ds S)
noncomputable abbrev F_place_parts : Fn := q_place_parts
theorem w_place_parts (ds : List D) (S : Sg) (h : ds.length = 1) : Weak S (R_place_parts ds S) (q_place_parts ds S) := weak_lowR
theorem place_parts_e (u : Str) (S : Sg) : F_place_parts [.str u] S = .ok (.tup false ((placeParts u).map encInner)) S := by
  simp [q_place_parts, R_place_parts, g_place_parts, runF_e, startE, List.replicate, sizeLine, do_e, cell_e, pick_cons, times_none, one_more_e, doubled_e, chosen_e]
  rfl
theorem k_place_parts (A : All w K mg) : FnK P w K mg base 3 ⟨"place_parts", 1, F_place_parts⟩ := (kr_place_parts A).weak w_place_parts
noncomputable def g_stretch : FS := (sSeq (sRet (fTup (fCons (fC (.str "slice")) (fCons (fVar 0) (fCons (fVar 1) (fCons (fVar 2) fNil))))))
  sNil)
noncomputable def R_stretch : Fn := runF 3 g_stretch
theorem s_stretch : FnScope ["letter", "start", "end"] ["letter", "start", "end"] (defScope (top 43)) := ⟨rfl, rfl, rfl, by decide +kernel, rfl, by decide +kernel, by decide +kernel⟩
theorem kr_stretch (A : All w K mg) : FnK P w K mg base 1 ⟨"stretch", 3, R_stretch⟩ := by
  obtain ⟨f, fd, hm, F⟩ := A.f_stretch
  exact fn_in A.fr (He5.fun_of F) s_stretch hm (FunD.bindsN (ps := ["letter", "start", "end"]) F fun _ _ _ _ _ _ us hl => match us, hl with | [_, _, _], _ => rfl) fun X W h =>
  (dss_cons (ds_ret (de_tup (h.cons de_str (h.cons h.var (h.cons h.var (h.cons h.var da_nil))))))
  dss_nil)
noncomputable def q_stretch : Fn := fun ds S => lowR (R_stretch ds S)
noncomputable abbrev F_stretch : Fn := q_stretch
theorem w_stretch (ds : List D) (S : Sg) (h : ds.length = 3) : Weak S (R_stretch ds S) (q_stretch ds S) := weak_lowR
theorem stretch_e (l a b : D) (S : Sg) : F_stretch [l, a, b] S = .ok (.tup false [.str "slice", l.low, a.low, b.low]) S := by
  simp [q_stretch, R_stretch, g_stretch, runF_e, startE, List.replicate, sizeLine]
theorem k_stretch (A : All w K mg) : FnK P w K mg base 1 ⟨"stretch", 3, F_stretch⟩ := (kr_stretch A).weak w_stretch
noncomputable def g_place_sentence : FS := (sSeq (sAsg (fTup (fCons (fC (.int 0)) (fCons (fC (.int 0)) (fCons (fC (.int 0)) (fCons (fC (.int 1)) fNil))))) (gNm 2))
  (sSeq (sAsg (fTup (fCons (fNeg (fC (.int 1))) (fCons (fTup (fCons (fC (.int 0)) (fCons (fC (.int 0)) (fCons (fC (.int 0)) (fCons (fC (.int 0)) (fCons (fC (.int 0)) (fCons (fC (.int 1)) fNil))))))) (fCons (fTup (fCons (fCall F_stretch (fCons (fC (.str "d")) (fCons (fC (.tup false [(.int 0), (.int 0), (.int 0), (.int 0)])) (fCons (fTup (fCons (fC (.int 1)) (fCons (fC (.int 0)) (fCons (fC (.int 0)) (fCons (fC (.int 1)) fNil))))) fNil)))) fNil)) fNil)))) (gNm 3))
  (sSeq (sAsg (fTup (fCons (fNeg (fC (.int 1))) (fCons (fTup (fCons (fC (.int 0)) (fCons (fC (.int 0)) (fCons (fC (.int 0)) (fCons (fC (.int 0)) (fCons (fC (.int 0)) (fCons (fC (.int 1)) fNil))))))) (fCons (fTup (fCons (fCall F_stretch (fCons (fC (.str "c")) (fCons (fC (.tup false [(.int 0), (.int 0), (.int 0), (.int 0)])) (fCons (fVar 2) fNil)))) (fCons (fCall F_stretch (fCons (fVar 1) (fCons (fC (.tup false [(.int 0), (.int 0), (.int 0), (.int 0)])) (fCons (fVar 2) fNil)))) fNil))) fNil)))) (gNm 4))
  (sSeq (sAsg (fTup (fCons (fNeg (fC (.int 1))) (fCons (fC (.tup false [(.int 0), (.int 0), (.int 0), (.int 0), (.int 0), (.int 0)])) (fCons (fTup (fCons (fCall F_stretch (fCons (fC (.str "e")) (fCons (fC (.tup false [(.int 0), (.int 0), (.int 0), (.int 0)])) (fCons (fVar 2) fNil)))) fNil)) fNil)))) (gNm 5))
  (sSeq (sRet (fTup (fCons (fTup (fCons (fC (.int 1)) (fCons (fTup (fCons (fC (.int 0)) (fCons (fC (.int 1)) (fCons (fC (.int 0)) (fCons (fC (.int 0)) (fCons (fC (.int 0)) (fCons (fC (.int 0)) fNil))))))) (fCons (fTup (fCons (fCall F_stretch (fCons (fVar 0) (fCons (fC (.tup false [(.int 0), (.int 0), (.int 0), (.int 0)])) (fCons (fVar 2) fNil)))) fNil)) fNil)))) (fCons (fVar 4) (fCons (fVar 3) (fCons (fVar 5) fNil))))))
  sNil)))))
noncomputable def R_place_sentence : Fn := runF 6 g_place_sentence
theorem s_place_sentence : FnScope ["over", "under", "whole", "rest", "quotient", "left"] ["over", "under"] (defScope (top 51)) := ⟨rfl, rfl, rfl, by decide +kernel, rfl, by decide +kernel, by decide +kernel⟩
theorem kr_place_sentence (A : All w K mg) : FnK P w K mg base 2 ⟨"place_sentence", 2, R_place_sentence⟩ := by
  obtain ⟨f, fd, hm, F⟩ := A.f_place_sentence
  exact fn_in A.fr (He5.fun_of F) s_place_sentence hm (FunD.bindsN (ps := ["over", "under"]) F fun _ _ _ _ _ _ us hl => match us, hl with | [_, _], _ => rfl) fun X W h =>
  (dss_cons (h.set (de_tup (h.cons de_int (h.cons de_int (h.cons de_int (h.cons de_int da_nil))))))
  (dss_cons (h.set (de_tup (h.cons (de_neg de_int) (h.cons (de_tup (h.cons de_int (h.cons de_int (h.cons de_int (h.cons de_int (h.cons de_int (h.cons de_int da_nil))))))) (h.cons (de_tup (h.cons (h.call (k_stretch A) (h.cons de_str (h.cons (h.gC A.c_AT_NAUGHT) (h.cons (de_tup (h.cons de_int (h.cons de_int (h.cons de_int (h.cons de_int da_nil))))) da_nil))) (FsN.cons (FsN.cons (FsN.cons FsN.nil))).len) da_nil)) da_nil)))))
  (dss_cons (h.set (de_tup (h.cons (de_neg de_int) (h.cons (de_tup (h.cons de_int (h.cons de_int (h.cons de_int (h.cons de_int (h.cons de_int (h.cons de_int da_nil))))))) (h.cons (de_tup (h.cons (h.call (k_stretch A) (h.cons de_str (h.cons (h.gC A.c_AT_NAUGHT) (h.cons h.var da_nil))) (FsN.cons (FsN.cons (FsN.cons FsN.nil))).len) (h.cons (h.call (k_stretch A) (h.cons h.var (h.cons (h.gC A.c_AT_NAUGHT) (h.cons h.var da_nil))) (FsN.cons (FsN.cons (FsN.cons FsN.nil))).len) da_nil))) da_nil)))))
  (dss_cons (h.set (de_tup (h.cons (de_neg de_int) (h.cons (h.gC A.c_NO_SHIFT) (h.cons (de_tup (h.cons (h.call (k_stretch A) (h.cons de_str (h.cons (h.gC A.c_AT_NAUGHT) (h.cons h.var da_nil))) (FsN.cons (FsN.cons (FsN.cons FsN.nil))).len) da_nil)) da_nil)))))
  (dss_cons (ds_ret (de_tup (h.cons (de_tup (h.cons de_int (h.cons (de_tup (h.cons de_int (h.cons de_int (h.cons de_int (h.cons de_int (h.cons de_int (h.cons de_int da_nil))))))) (h.cons (de_tup (h.cons (h.call (k_stretch A) (h.cons h.var (h.cons (h.gC A.c_AT_NAUGHT) (h.cons h.var da_nil))) (FsN.cons (FsN.cons (FsN.cons FsN.nil))).len) da_nil)) da_nil)))) (h.cons h.var (h.cons h.var (h.cons h.var da_nil))))))
  dss_nil)))))
noncomputable def q_place_sentence : Fn := fun ds S => lowR (R_place_sentence ds S)
noncomputable abbrev F_place_sentence : Fn := q_place_sentence
theorem w_place_sentence (ds : List D) (S : Sg) (h : ds.length = 2) : Weak S (R_place_sentence ds S) (q_place_sentence ds S) := weak_lowR
theorem place_sen_e (o u : Str) (S : Sg) : F_place_sentence [.str o, .str u] S = .ok (encSen (placeSen o u)) S := by
  simp [q_place_sentence, R_place_sentence, g_place_sentence, runF_e, startE, List.replicate, sizeLine, stretch_e]
  rfl
theorem k_place_sentence (A : All w K mg) : FnK P w K mg base 2 ⟨"place_sentence", 2, F_place_sentence⟩ := (kr_place_sentence A).weak w_place_sentence
noncomputable def g_divided : FS := (sSeq (sAsg (fCallK F_times_n [0, 1] [.non] (fCons (fTup (fCons (fCall F_do (fCons (fTup (fCons (fC (.str "move")) (fCons (fCallK F_cell [0, 1, 2, 3, 4] [(.int 0), (.int 0), (.int 0), (.int 0)] (fCons (fC (.str "e")) (fCons (fC (.int 0)) (fCons (fC (.int 1)) (fCons (fC (.int 0)) (fCons (fC (.int 0)) fNil))))) fNil) (fCons (fCallK F_cell [0, 1, 2, 3, 4] [(.int 0), (.int 0), (.int 0), (.int 0)] (fCons (fVar 0) (fCons (fC (.int 0)) (fCons (fC (.int 1)) (fCons (fC (.int 0)) (fCons (fC (.int 0)) fNil))))) fNil) fNil)))) fNil)) fNil)) fNil) fNil) (gNm 2))
  (sSeq (sRet (fTup (fCons (fVar 2) (fCons (fTup (fCons (fC (.str "rounds")) (fCons (fTup (fCons (fC (.int 0)) (fCons (fC (.int 0)) (fCons (fC (.int 1)) fNil)))) (fCons (fCall F_place_sentence (fCons (fVar 0) (fCons (fVar 1) fNil))) (fCons (fCall F_place_parts (fCons (fVar 1) fNil)) fNil))))) fNil))))
  sNil))
noncomputable def R_divided : Fn := runF 3 g_divided
theorem s_divided : FnScope ["over", "under", "moved"] ["over", "under"] (defScope (top 55)) := ⟨rfl, rfl, rfl, by decide +kernel, rfl, by decide +kernel, by decide +kernel⟩
theorem kr_divided (A : All w K mg) : FnK P w K mg base 4 ⟨"divided", 2, R_divided⟩ := by
  obtain ⟨f, fd, hm, F⟩ := A.f_divided
  exact fn_in A.fr (He5.fun_of F) s_divided hm (FunD.bindsN (ps := ["over", "under"]) F fun _ _ _ _ _ _ us hl => match us, hl with | [_, _], _ => rfl) fun X W h =>
  (dss_cons (h.set (h.callK (ks := []) [0, 1] (k_times_n A) bd_times_n_1 (h.cons (de_tup (h.cons (h.call (k_do A) (h.cons (de_tup (h.cons de_str (h.cons (h.callK (ks := []) [0, 1, 2, 3, 4] (k_cell A) bd_cell_5 (h.cons de_str (h.cons de_int (h.cons de_int (h.cons de_int (h.cons de_int da_nil))))) dk_nil (FsN.cons (FsN.cons (FsN.cons (FsN.cons (FsN.cons FsN.nil))))).len (FsN.nil).len) (h.cons (h.callK (ks := []) [0, 1, 2, 3, 4] (k_cell A) bd_cell_5 (h.cons h.var (h.cons de_int (h.cons de_int (h.cons de_int (h.cons de_int da_nil))))) dk_nil (FsN.cons (FsN.cons (FsN.cons (FsN.cons (FsN.cons FsN.nil))))).len (FsN.nil).len) da_nil)))) da_nil) (FsN.cons FsN.nil).len) da_nil)) da_nil) dk_nil (FsN.cons FsN.nil).len (FsN.nil).len))
  (dss_cons (ds_ret (de_tup (h.cons h.var (h.cons (de_tup (h.cons de_str (h.cons (de_tup (h.cons de_int (h.cons de_int (h.cons de_int da_nil)))) (h.cons (h.call (k_place_sentence A) (h.cons h.var (h.cons h.var da_nil)) (FsN.cons (FsN.cons FsN.nil)).len) (h.cons (h.call (k_place_parts A) (h.cons h.var da_nil) (FsN.cons FsN.nil).len) da_nil))))) da_nil))))
  dss_nil))
noncomputable def q_divided : Fn := fun ds S => lowR (R_divided ds S)
noncomputable abbrev F_divided : Fn := q_divided
theorem w_divided (ds : List D) (S : Sg) (h : ds.length = 2) : Weak S (R_divided ds S) (q_divided ds S) := weak_lowR
theorem divided_e (o u : Str) (S : Sg) : F_divided [.str o, .str u] S = .ok (encPs (dividedT o u)) S := by
  have e1 : (encSen (placeSen o u)).low = encSen (placeSen o u) := low_sen _
  have e2 : D.lows ((placeParts u).map encInner) = (placeParts u).map encInner := lows_map fun p _ => low_inner p
  simp [q_divided, R_divided, g_divided, runF_e, startE, List.replicate, sizeLine, do_e, cell_e, pick_cons, times_none, place_sen_e, place_parts_e, e1, e2]
  rfl
theorem k_divided (A : All w K mg) : FnK P w K mg base 4 ⟨"divided", 2, F_divided⟩ := (kr_divided A).weak w_divided
noncomputable def g_turned_by : FS := (sSeq (sAsg (fCallK F_cell [0, 1, 2, 3, 4] [(.int 0), (.int 0), (.int 0), (.int 0)] (fCons (fVar 0) (fCons (fC (.int 0)) (fCons (fC (.int 1)) (fCons (fC (.int 0)) (fCons (fC (.int 0)) fNil))))) fNil) (gNm 3))
  (sSeq (sAsg (fTup (fCons (fCall F_do (fCons (fTup (fCons (fC (.str "odd")) (fCons (fVar 3) (fCons (fCallK F_cell [0, 1, 2, 3, 4] [(.int 0), (.int 0), (.int 0), (.int 0)] (fCons (fVar 1) (fCons (fC (.int 0)) (fCons (fC (.int 1)) (fCons (fC (.int 0)) (fCons (fC (.int 0)) fNil))))) fNil) (fCons (fVar 2) fNil))))) fNil)) (fCons (fCall F_do (fCons (fTup (fCons (fC (.str "less")) (fCons (fVar 3) (fCons (fVar 3) (fCons (fVar 2) fNil))))) fNil)) fNil))) (gNm 4))
  (sSeq (sRet (fTup (fCons (fCall F_do (fCons (fTup (fCons (fC (.str "mark")) (fCons (fC (.int 0)) fNil))) fNil)) (fCons (fCallK F_times_n [0, 1] [.non] (fCons (fVar 4) fNil) fNil) fNil))))
  sNil)))
noncomputable def R_turned_by : Fn := runF 5 g_turned_by
theorem s_turned_by : FnScope ["to", "letter", "mask", "here", "rows"] ["to", "letter", "mask"] (defScope (top 68)) := ⟨rfl, rfl, rfl, by decide +kernel, rfl, by decide +kernel, by decide +kernel⟩
theorem kr_turned_by (A : All w K mg) : FnK P w K mg base 2 ⟨"turned_by", 3, R_turned_by⟩ := by
  obtain ⟨f, fd, hm, F⟩ := A.f_turned_by
  exact fn_in A.fr (He5.fun_of F) s_turned_by hm (FunD.bindsN (ps := ["to", "letter", "mask"]) F fun _ _ _ _ _ _ us hl => match us, hl with | [_, _, _], _ => rfl) fun X W h =>
  (dss_cons (h.set (h.callK (ks := []) [0, 1, 2, 3, 4] (k_cell A) bd_cell_5 (h.cons h.var (h.cons de_int (h.cons de_int (h.cons de_int (h.cons de_int da_nil))))) dk_nil (FsN.cons (FsN.cons (FsN.cons (FsN.cons (FsN.cons FsN.nil))))).len (FsN.nil).len))
  (dss_cons (h.set (de_tup (h.cons (h.call (k_do A) (h.cons (de_tup (h.cons de_str (h.cons h.var (h.cons (h.callK (ks := []) [0, 1, 2, 3, 4] (k_cell A) bd_cell_5 (h.cons h.var (h.cons de_int (h.cons de_int (h.cons de_int (h.cons de_int da_nil))))) dk_nil (FsN.cons (FsN.cons (FsN.cons (FsN.cons (FsN.cons FsN.nil))))).len (FsN.nil).len) (h.cons h.var da_nil))))) da_nil) (FsN.cons FsN.nil).len) (h.cons (h.call (k_do A) (h.cons (de_tup (h.cons de_str (h.cons h.var (h.cons h.var (h.cons h.var da_nil))))) da_nil) (FsN.cons FsN.nil).len) da_nil))))
  (dss_cons (ds_ret (de_tup (h.cons (h.call (k_do A) (h.cons (de_tup (h.cons de_str (h.cons de_int da_nil))) da_nil) (FsN.cons FsN.nil).len) (h.cons (h.callK (ks := []) [0, 1] (k_times_n A) bd_times_n_1 (h.cons h.var da_nil) dk_nil (FsN.cons FsN.nil).len (FsN.nil).len) da_nil))))
  dss_nil)))
noncomputable def q_turned_by : Fn := fun ds S => lowR (R_turned_by ds S)
noncomputable abbrev F_turned_by : Fn := q_turned_by
theorem w_turned_by (ds : List D) (S : Sg) (h : ds.length = 3) : Weak S (R_turned_by ds S) (q_turned_by ds S) := weak_lowR
theorem k_turned_by (A : All w K mg) : FnK P w K mg base 2 ⟨"turned_by", 3, F_turned_by⟩ := (kr_turned_by A).weak w_turned_by
noncomputable def g_signed_quotient_parts : FS := (sSeq (sAsg (fCallK F_cell [0, 1, 2, 3, 4] [(.int 0), (.int 0), (.int 0), (.int 0)] (fCons (fC (.str "s")) fNil) fNil) (gNm 0))
  (sSeq (sAsg (fCallK F_cell [0, 1, 3, 4, 5] [(.int 0), (.int 0), (.int 0), (.int 0)] (fCons (fC (.str "s")) (fCons (fC (.int 1)) fNil)) fNil) (gNm 1))
  (sSeq (sAsg (fCallK F_cell [0, 1, 3, 4, 5] [(.int 0), (.int 0), (.int 0), (.int 0)] (fCons (fC (.str "s")) (fCons (fC (.int 2)) fNil)) fNil) (gNm 2))
  (sSeq (sAsg (fCallK F_cell [0, 1, 2, 3, 4] [(.int 0), (.int 0), (.int 0), (.int 0)] (fCons (fC (.str "g")) fNil) fNil) (gNm 3))
  (sSeq (sAsg (fBin dAdd (fCall F_mask_of (fCons (fVar 0) (fCons (fCallK F_cell [0, 1, 2, 3, 4] [(.int 0), (.int 0), (.int 0), (.int 0)] (fCons (fC (.str "a")) (fCons (fNeg (fC (.int 1))) (fCons (fC (.int 0)) (fCons (fC (.int 0)) (fCons (fC (.int 1)) fNil))))) fNil) fNil))) (fCall F_mask_of (fCons (fVar 1) (fCons (fCallK F_cell [0, 1, 2, 3, 4] [(.int 0), (.int 0), (.int 0), (.int 0)] (fCons (fC (.str "b")) (fCons (fNeg (fC (.int 1))) (fCons (fC (.int 0)) (fCons (fC (.int 0)) (fCons (fC (.int 1)) fNil))))) fNil) fNil)))) (gNm 4))
  (sSeq (sAsg (fBin dAdd (fBin dAdd (fBin dAdd (fVar 4) (fTup (fCons (fCall F_do (fCons (fTup (fCons (fC (.str "odd")) (fCons (fVar 2) (fCons (fVar 0) (fCons (fVar 1) fNil))))) fNil)) fNil))) (fCall F_turned_by (fCons (fC (.str "x")) (fCons (fC (.str "a")) (fCons (fVar 0) fNil))))) (fCall F_turned_by (fCons (fC (.str "y")) (fCons (fC (.str "b")) (fCons (fVar 1) fNil))))) (gNm 5))
  (sSeq (sAsg (fBin dAdd (fBin dAdd (fBin dAdd (fVar 5) (fCall F_divided (fCons (fC (.str "x")) (fCons (fC (.str "y")) fNil)))) (fCall F_turned_by (fCons (fC (.str "c")) (fCons (fC (.str "c")) (fCons (fVar 2) fNil))))) (fCall F_turned_by (fCons (fC (.str "d")) (fCons (fC (.str "d")) (fCons (fVar 0) fNil))))) (gNm 5))
  (sSeq (sAsg (fTup (fCons (fCall F_do (fCons (fTup (fCons (fC (.str "bare")) (fCons (fCallK F_cell [0, 1, 2, 3, 4] [(.int 0), (.int 0), (.int 0), (.int 0)] (fCons (fC (.str "h")) fNil) fNil) (fCons (fVar 2) fNil)))) fNil)) (fCons (fCall F_do (fCons (fTup (fCons (fC (.str "both")) (fCons (fVar 3) (fCons (fVar 3) (fCons (fCallK F_cell [0, 1, 2, 3, 4] [(.int 0), (.int 0), (.int 0), (.int 0)] (fCons (fC (.str "h")) fNil) fNil) fNil))))) fNil)) (fCons (fCall F_do (fCons (fTup (fCons (fC (.str "ask")) (fCons (fVar 3) fNil))) fNil)) fNil)))) (gNm 6))
  (sSeq (sAsg (fBin dAdd (fBin dAdd (fCall F_mask_of (fCons (fVar 3) (fCons (fCallK F_cell [0, 1, 2, 3, 4] [(.int 0), (.int 0), (.int 0), (.int 0)] (fCons (fC (.str "c")) (fCons (fNeg (fC (.int 1))) (fCons (fC (.int 0)) (fCons (fC (.int 0)) (fCons (fC (.int 1)) fNil))))) fNil) fNil))) (fVar 6)) (fCall F_mark_to (fCons (fC (.int 1)) fNil))) (gNm 7))
  (sSeq (sRet (fBin dAdd (fBin dAdd (fBin dAdd (fVar 5) (fCall F_nought_to_mark fNil)) (fVar 7)) (fCall F_ends (fCons (fC (.str "c")) (fCons (fC (.int 0)) (fCons (fC (.int 1)) fNil))))))
  sNil))))))))))
noncomputable def R_signed_quotient_parts : Fn := runF 8 g_signed_quotient_parts
theorem s_signed_quotient_parts : FnScope ["first", "second", "unlike", "spare", "masks", "parts", "alike", "over"] [] (defScope (top 72)) := ⟨rfl, rfl, rfl, by decide +kernel, rfl, by decide +kernel, by decide +kernel⟩
theorem kr_signed_quotient_parts (A : All w K mg) : FnK P w K mg base 5 ⟨"signed_quotient_parts", 0, R_signed_quotient_parts⟩ := by
  obtain ⟨f, fd, hm, F⟩ := A.f_signed_quotient_parts
  exact fn_in A.fr (He5.fun_of F) s_signed_quotient_parts hm (FunD.bindsN (ps := []) F fun _ _ _ _ _ _ us hl => match us, hl with | [], _ => rfl) fun X W h =>
  (dss_cons (h.set (h.callK (ks := []) [0, 1, 2, 3, 4] (k_cell A) bd_cell_1 (h.cons de_str da_nil) dk_nil (FsN.cons FsN.nil).len (FsN.nil).len))
  (dss_cons (h.set (h.callK (ks := []) [0, 1, 3, 4, 5] (k_cell A) bd_cell_2 (h.cons de_str (h.cons de_int da_nil)) dk_nil (FsN.cons (FsN.cons FsN.nil)).len (FsN.nil).len))
  (dss_cons (h.set (h.callK (ks := []) [0, 1, 3, 4, 5] (k_cell A) bd_cell_2 (h.cons de_str (h.cons de_int da_nil)) dk_nil (FsN.cons (FsN.cons FsN.nil)).len (FsN.nil).len))
  (dss_cons (h.set (h.callK (ks := []) [0, 1, 2, 3, 4] (k_cell A) bd_cell_1 (h.cons de_str da_nil) dk_nil (FsN.cons FsN.nil).len (FsN.nil).len))
  (dss_cons (h.set (h.add (h.call (k_mask_of A) (h.cons h.var (h.cons (h.callK (ks := []) [0, 1, 2, 3, 4] (k_cell A) bd_cell_5 (h.cons de_str (h.cons (de_neg de_int) (h.cons de_int (h.cons de_int (h.cons de_int da_nil))))) dk_nil (FsN.cons (FsN.cons (FsN.cons (FsN.cons (FsN.cons FsN.nil))))).len (FsN.nil).len) da_nil)) (FsN.cons (FsN.cons FsN.nil)).len) (h.call (k_mask_of A) (h.cons h.var (h.cons (h.callK (ks := []) [0, 1, 2, 3, 4] (k_cell A) bd_cell_5 (h.cons de_str (h.cons (de_neg de_int) (h.cons de_int (h.cons de_int (h.cons de_int da_nil))))) dk_nil (FsN.cons (FsN.cons (FsN.cons (FsN.cons (FsN.cons FsN.nil))))).len (FsN.nil).len) da_nil)) (FsN.cons (FsN.cons FsN.nil)).len)))
  (dss_cons (h.set (h.add (h.add (h.add h.var (de_tup (h.cons (h.call (k_do A) (h.cons (de_tup (h.cons de_str (h.cons h.var (h.cons h.var (h.cons h.var da_nil))))) da_nil) (FsN.cons FsN.nil).len) da_nil))) (h.call (k_turned_by A) (h.cons de_str (h.cons de_str (h.cons h.var da_nil))) (FsN.cons (FsN.cons (FsN.cons FsN.nil))).len)) (h.call (k_turned_by A) (h.cons de_str (h.cons de_str (h.cons h.var da_nil))) (FsN.cons (FsN.cons (FsN.cons FsN.nil))).len)))
  (dss_cons (h.set (h.add (h.add (h.add h.var (h.call (k_divided A) (h.cons de_str (h.cons de_str da_nil)) (FsN.cons (FsN.cons FsN.nil)).len)) (h.call (k_turned_by A) (h.cons de_str (h.cons de_str (h.cons h.var da_nil))) (FsN.cons (FsN.cons (FsN.cons FsN.nil))).len)) (h.call (k_turned_by A) (h.cons de_str (h.cons de_str (h.cons h.var da_nil))) (FsN.cons (FsN.cons (FsN.cons FsN.nil))).len)))
  (dss_cons (h.set (de_tup (h.cons (h.call (k_do A) (h.cons (de_tup (h.cons de_str (h.cons (h.callK (ks := []) [0, 1, 2, 3, 4] (k_cell A) bd_cell_1 (h.cons de_str da_nil) dk_nil (FsN.cons FsN.nil).len (FsN.nil).len) (h.cons h.var da_nil)))) da_nil) (FsN.cons FsN.nil).len) (h.cons (h.call (k_do A) (h.cons (de_tup (h.cons de_str (h.cons h.var (h.cons h.var (h.cons (h.callK (ks := []) [0, 1, 2, 3, 4] (k_cell A) bd_cell_1 (h.cons de_str da_nil) dk_nil (FsN.cons FsN.nil).len (FsN.nil).len) da_nil))))) da_nil) (FsN.cons FsN.nil).len) (h.cons (h.call (k_do A) (h.cons (de_tup (h.cons de_str (h.cons h.var da_nil))) da_nil) (FsN.cons FsN.nil).len) da_nil)))))
  (dss_cons (h.set (h.add (h.add (h.call (k_mask_of A) (h.cons h.var (h.cons (h.callK (ks := []) [0, 1, 2, 3, 4] (k_cell A) bd_cell_5 (h.cons de_str (h.cons (de_neg de_int) (h.cons de_int (h.cons de_int (h.cons de_int da_nil))))) dk_nil (FsN.cons (FsN.cons (FsN.cons (FsN.cons (FsN.cons FsN.nil))))).len (FsN.nil).len) da_nil)) (FsN.cons (FsN.cons FsN.nil)).len) h.var) (h.call (k_mark_to A) (h.cons de_int da_nil) (FsN.cons FsN.nil).len)))
  (dss_cons (ds_ret (h.add (h.add (h.add h.var (h.call0 (k_nought_to_mark A))) h.var) (h.call (k_ends A) (h.cons de_str (h.cons de_int (h.cons de_int da_nil))) (FsN.cons (FsN.cons (FsN.cons FsN.nil))).len)))
  dss_nil))))))))))
noncomputable def q_signed_quotient_parts : Fn := fun ds S => lowR (R_signed_quotient_parts ds S)
noncomputable abbrev F_signed_quotient_parts : Fn := q_signed_quotient_parts
theorem w_signed_quotient_parts (ds : List D) (S : Sg) (h : ds.length = 0) : Weak S (R_signed_quotient_parts ds S) (q_signed_quotient_parts ds S) := weak_lowR
theorem k_signed_quotient_parts (A : All w K mg) : FnK P w K mg base 5 ⟨"signed_quotient_parts", 0, F_signed_quotient_parts⟩ := (kr_signed_quotient_parts A).weak w_signed_quotient_parts
noncomputable def g_quotient_parts : FS := (sSeq (sRet (fBin dAdd (fBin dAdd (fCall F_divided (fCons (fC (.str "a")) (fCons (fC (.str "b")) fNil))) (fCall F_nought_to_mark fNil)) (fCall F_ends (fCons (fC (.str "c")) (fCons (fC (.int 0)) (fCons (fC (.int 1)) fNil))))))
  sNil)
noncomputable def R_quotient_parts : Fn := runF 0 g_quotient_parts
theorem s_quotient_parts : FnScope [] [] (defScope (top 57)) := ⟨rfl, rfl, rfl, by decide +kernel, rfl, by decide +kernel, by decide +kernel⟩
theorem kr_quotient_parts (A : All w K mg) : FnK P w K mg base 5 ⟨"quotient_parts", 0, R_quotient_parts⟩ := by
  obtain ⟨f, fd, hm, F⟩ := A.f_quotient_parts
  exact fn_in A.fr (He5.fun_of F) s_quotient_parts hm (FunD.bindsN (ps := []) F fun _ _ _ _ _ _ us hl => match us, hl with | [], _ => rfl) fun X W h =>
  (dss_cons (ds_ret (h.add (h.add (h.call (k_divided A) (h.cons de_str (h.cons de_str da_nil)) (FsN.cons (FsN.cons FsN.nil)).len) (h.call0 (k_nought_to_mark A))) (h.call (k_ends A) (h.cons de_str (h.cons de_int (h.cons de_int da_nil))) (FsN.cons (FsN.cons (FsN.cons FsN.nil))).len)))
  dss_nil)
noncomputable def q_quotient_parts : Fn := fun ds S => lowR (R_quotient_parts ds S)
noncomputable abbrev F_quotient_parts : Fn := q_quotient_parts
theorem w_quotient_parts (ds : List D) (S : Sg) (h : ds.length = 0) : Weak S (R_quotient_parts ds S) (q_quotient_parts ds S) := weak_lowR
theorem quotient_e (S : Sg) : F_quotient_parts [] S = .ok (encPs quotientT) S := by
  have l1 : (dividedT "a" "b").length ≤ 10 := by simp [dividedT]
  have l2 : noughtToMark.length ≤ 10 := by simp [noughtToMark, bareMarkTo]
  have l3 : (endsT "c" 0 1).length ≤ 20 := by simp [endsT, bareMarkTo, markTo]
  have h1 : ∀ S, dAdd (encPs (dividedT "a" "b")) (encPs noughtToMark) S = .ok (encPs (dividedT "a" "b" ++ noughtToMark)) S := fun S => add_encPs3 _ _ S (by omega) (by omega)
  have h2 : ∀ S, dAdd (encPs (dividedT "a" "b" ++ noughtToMark)) (encPs (endsT "c" 0 1)) S = .ok (encPs quotientT) S := fun S => add_encPs3 _ _ S (by omega) (by rw [List.length_append]; omega)
  simp [-add_tups, q_quotient_parts, R_quotient_parts, g_quotient_parts, runF_e, startE, List.replicate, sizeLine, divided_e, nought_e, ends_e, h1, h2, low_encPs]
theorem k_quotient_parts (A : All w K mg) : FnK P w K mg base 5 ⟨"quotient_parts", 0, F_quotient_parts⟩ := (kr_quotient_parts A).weak w_quotient_parts
noncomputable def g_round_sentence : FS := (sSeq (sRet (fTup (fCons (fTup (fCons (fC (.int 1)) (fCons (fC (.tup false [(.int 0), (.int 0), (.int 0), (.int 0), (.int 0), (.int 0)])) (fCons (fTup (fCons (fC (.tup false [(.str "slice"), (.str "c"), (.tup false [(.int 0), (.int 0), (.int 0), (.int 0)]), (.tup false [(.int 0), (.int 1), (.int 0), (.int 1)])])) fNil)) fNil)))) (fCons (fTup (fCons (fNeg (fC (.int 1))) (fCons (fC (.tup false [(.int 0), (.int 0), (.int 0), (.int 0), (.int 0), (.int 0)])) (fCons (fTup (fCons (fC (.tup false [(.str "slice"), (.str "a"), (.tup false [(.int 0), (.int 0), (.int 0), (.int 0)]), (.tup false [(.int 0), (.int 0), (.int 0), (.int 1)])])) (fCons (fC (.tup false [(.str "slice"), (.str "b"), (.tup false [(.int 0), (.int 0), (.int 0), (.int 0)]), (.tup false [(.int 0), (.int 1), (.int 0), (.int 0)])])) fNil))) fNil)))) fNil))))
  sNil)
noncomputable def R_round_sentence : Fn := runF 0 g_round_sentence
theorem s_round_sentence : FnScope [] [] (defScope (top 45)) := ⟨rfl, rfl, rfl, by decide +kernel, rfl, by decide +kernel, by decide +kernel⟩
theorem kr_round_sentence (A : All w K mg) : FnK P w K mg base 1 ⟨"round_sentence", 0, R_round_sentence⟩ := by
  obtain ⟨f, fd, hm, F⟩ := A.f_round_sentence
  exact fn_in A.fr (He5.fun_of F) s_round_sentence hm (FunD.bindsN (ps := []) F fun _ _ _ _ _ _ us hl => match us, hl with | [], _ => rfl) fun X W h =>
  (dss_cons (ds_ret (de_tup (h.cons (de_tup (h.cons de_int (h.cons (h.gC A.c_NO_SHIFT) (h.cons (de_tup (h.cons (h.gC A.c_LOW_C) da_nil)) da_nil)))) (h.cons (de_tup (h.cons (de_neg de_int) (h.cons (h.gC A.c_NO_SHIFT) (h.cons (de_tup (h.cons (h.gC A.c_ALL_A) (h.cons (h.gC A.c_LOW_B) da_nil))) da_nil)))) da_nil))))
  dss_nil)
noncomputable def q_round_sentence : Fn := fun ds S => lowR (R_round_sentence ds S)
noncomputable abbrev F_round_sentence : Fn := q_round_sentence
theorem w_round_sentence (ds : List D) (S : Sg) (h : ds.length = 0) : Weak S (R_round_sentence ds S) (q_round_sentence ds S) := weak_lowR
theorem k_round_sentence (A : All w K mg) : FnK P w K mg base 1 ⟨"round_sentence", 0, F_round_sentence⟩ := (kr_round_sentence A).weak w_round_sentence
noncomputable def g_word_sentence : FS := (sSeq (sAsg (fTup (fCons (fC (.int 1)) (fCons (fTup (fCons (fC (.int 0)) (fCons (fC (.int 0)) (fCons (fC (.int 0)) (fCons (fC (.int 1)) (fCons (fC (.int 1)) (fCons (fC (.int 0)) fNil))))))) (fCons (fTup (fCons (fCall F_stretch (fCons (fC (.str "r")) (fCons (fC (.tup false [(.int 0), (.int 0), (.int 0), (.int 0)])) (fCons (fTup (fCons (fC (.int 1)) (fCons (fC (.int 0)) (fCons (fC (.int 0)) (fCons (fC (.int 0)) fNil))))) fNil)))) fNil)) fNil)))) (gNm 0))
  (sSeq (sAsg (fTup (fCons (fNeg (fC (.int 1))) (fCons (fC (.tup false [(.int 0), (.int 0), (.int 0), (.int 0), (.int 0), (.int 0)])) (fCons (fTup (fCons (fC (.tup false [(.str "slice"), (.str "a"), (.tup false [(.int 0), (.int 0), (.int 0), (.int 0)]), (.tup false [(.int 0), (.int 0), (.int 0), (.int 1)])])) (fCons (fC (.tup false [(.str "slice"), (.str "b"), (.tup false [(.int 0), (.int 0), (.int 0), (.int 0)]), (.tup false [(.int 0), (.int 1), (.int 0), (.int 0)])])) fNil))) fNil)))) (gNm 1))
  (sSeq (sAsg (fCall F_stretch (fCons (fC (.str "b")) (fCons (fTup (fCons (fC (.int 0)) (fCons (fC (.int 1)) (fCons (fC (.int 0)) (fCons (fC (.int 0)) fNil))))) (fCons (fTup (fCons (fC (.int 1)) (fCons (fC (.int 1)) (fCons (fC (.int 0)) (fCons (fC (.int 0)) fNil))))) fNil)))) (gNm 2))
  (sSeq (sAsg (fTup (fCons (fNeg (fC (.int 1))) (fCons (fTup (fCons (fC (.int 0)) (fCons (fC (.int 0)) (fCons (fC (.int 0)) (fCons (fC (.int 1)) (fCons (fC (.int 0)) (fCons (fC (.int 0)) fNil))))))) (fCons (fTup (fCons (fCall F_stretch (fCons (fC (.str "a")) (fCons (fC (.tup false [(.int 0), (.int 0), (.int 0), (.int 0)])) (fCons (fTup (fCons (fC (.int 0)) (fCons (fC (.int 0)) (fCons (fC (.int 1)) (fCons (fC (.int 0)) fNil))))) fNil)))) (fCons (fVar 2) fNil))) fNil)))) (gNm 3))
  (sSeq (sRet (fTup (fCons (fTup (fCons (fC (.int 1)) (fCons (fC (.tup false [(.int 0), (.int 0), (.int 0), (.int 0), (.int 0), (.int 0)])) (fCons (fTup (fCons (fC (.tup false [(.str "slice"), (.str "c"), (.tup false [(.int 0), (.int 0), (.int 0), (.int 0)]), (.tup false [(.int 0), (.int 1), (.int 0), (.int 1)])])) fNil)) fNil)))) (fCons (fVar 0) (fCons (fVar 1) (fCons (fVar 3) fNil))))))
  sNil)))))
noncomputable def R_word_sentence : Fn := runF 4 g_word_sentence
theorem s_word_sentence : FnScope ["carried", "ahead", "one", "now"] [] (defScope (top 44)) := ⟨rfl, rfl, rfl, by decide +kernel, rfl, by decide +kernel, by decide +kernel⟩
theorem kr_word_sentence (A : All w K mg) : FnK P w K mg base 2 ⟨"word_sentence", 0, R_word_sentence⟩ := by
  obtain ⟨f, fd, hm, F⟩ := A.f_word_sentence
  exact fn_in A.fr (He5.fun_of F) s_word_sentence hm (FunD.bindsN (ps := []) F fun _ _ _ _ _ _ us hl => match us, hl with | [], _ => rfl) fun X W h =>
  (dss_cons (h.set (de_tup (h.cons de_int (h.cons (de_tup (h.cons de_int (h.cons de_int (h.cons de_int (h.cons de_int (h.cons de_int (h.cons de_int da_nil))))))) (h.cons (de_tup (h.cons (h.call (k_stretch A) (h.cons de_str (h.cons (h.gC A.c_AT_NAUGHT) (h.cons (de_tup (h.cons de_int (h.cons de_int (h.cons de_int (h.cons de_int da_nil))))) da_nil))) (FsN.cons (FsN.cons (FsN.cons FsN.nil))).len) da_nil)) da_nil)))))
  (dss_cons (h.set (de_tup (h.cons (de_neg de_int) (h.cons (h.gC A.c_NO_SHIFT) (h.cons (de_tup (h.cons (h.gC A.c_ALL_A) (h.cons (h.gC A.c_LOW_B) da_nil))) da_nil)))))
  (dss_cons (h.set (h.call (k_stretch A) (h.cons de_str (h.cons (de_tup (h.cons de_int (h.cons de_int (h.cons de_int (h.cons de_int da_nil))))) (h.cons (de_tup (h.cons de_int (h.cons de_int (h.cons de_int (h.cons de_int da_nil))))) da_nil))) (FsN.cons (FsN.cons (FsN.cons FsN.nil))).len))
  (dss_cons (h.set (de_tup (h.cons (de_neg de_int) (h.cons (de_tup (h.cons de_int (h.cons de_int (h.cons de_int (h.cons de_int (h.cons de_int (h.cons de_int da_nil))))))) (h.cons (de_tup (h.cons (h.call (k_stretch A) (h.cons de_str (h.cons (h.gC A.c_AT_NAUGHT) (h.cons (de_tup (h.cons de_int (h.cons de_int (h.cons de_int (h.cons de_int da_nil))))) da_nil))) (FsN.cons (FsN.cons (FsN.cons FsN.nil))).len) (h.cons h.var da_nil))) da_nil)))))
  (dss_cons (ds_ret (de_tup (h.cons (de_tup (h.cons de_int (h.cons (h.gC A.c_NO_SHIFT) (h.cons (de_tup (h.cons (h.gC A.c_LOW_C) da_nil)) da_nil)))) (h.cons h.var (h.cons h.var (h.cons h.var da_nil))))))
  dss_nil)))))
noncomputable def q_word_sentence : Fn := fun ds S => lowR (R_word_sentence ds S)
noncomputable abbrev F_word_sentence : Fn := q_word_sentence
theorem w_word_sentence (ds : List D) (S : Sg) (h : ds.length = 0) : Weak S (R_word_sentence ds S) (q_word_sentence ds S) := weak_lowR
theorem k_word_sentence (A : All w K mg) : FnK P w K mg base 2 ⟨"word_sentence", 0, F_word_sentence⟩ := (kr_word_sentence A).weak w_word_sentence
noncomputable def g_word_parts : FS := (sSeq (sAsg (fCallK F_cell [0, 1, 2, 3, 4] [(.int 0), (.int 0), (.int 0), (.int 0)] (fCons (fC (.str "p")) fNil) fNil) (gNm 0))
  (sSeq (sAsg (fCallK F_cell [0, 1, 2, 3, 4] [(.int 0), (.int 0), (.int 0), (.int 0)] (fCons (fC (.str "q")) fNil) fNil) (gNm 1))
  (sSeq (sAsg (fCallK F_cell [0, 1, 2, 3, 4] [(.int 0), (.int 0), (.int 0), (.int 0)] (fCons (fC (.str "r")) fNil) fNil) (gNm 2))
  (sSeq (sAsg (fCallK F_cell [0, 1, 2, 3, 4] [(.int 0), (.int 0), (.int 0), (.int 0)] (fCons (fC (.str "c")) (fCons (fC (.int 0)) (fCons (fC (.int 1)) (fCons (fC (.int 1)) (fCons (fC (.int 0)) fNil))))) fNil) (gNm 3))
  (sSeq (sRet (fTup (fCons (fCall F_do (fCons (fTup (fCons (fC (.str "times")) (fCons (fVar 0) (fCons (fVar 1) (fCons (fCallK F_cell [0, 1, 2, 3, 4] [(.int 0), (.int 0), (.int 0), (.int 0)] (fCons (fC (.str "a")) (fCons (fC (.int 0)) (fCons (fC (.int 0)) (fCons (fC (.int 1)) (fCons (fC (.int 0)) fNil))))) fNil) (fCons (fCallK F_cell [0, 1, 2, 3, 4] [(.int 0), (.int 0), (.int 0), (.int 0)] (fCons (fC (.str "b")) (fCons (fC (.int 0)) (fCons (fC (.int 1)) (fCons (fC (.int 0)) (fCons (fC (.int 0)) fNil))))) fNil) fNil)))))) fNil)) (fCons (fCall F_do (fCons (fTup (fCons (fC (.str "mark")) (fCons (fC (.int 0)) fNil))) fNil)) (fCons (fCall F_do (fCons (fTup (fCons (fC (.str "sum")) (fCons (fVar 0) (fCons (fVar 0) (fCons (fVar 2) fNil))))) fNil)) (fCons (fCall F_do (fCons (fTup (fCons (fC (.str "sum")) (fCons (fVar 1) (fCons (fVar 1) (fCons (fC (.tup false [(.str "z"), (.tup false [(.int 0), (.int 0), (.int 0), (.int 0)])])) fNil))))) fNil)) (fCons (fCall F_do (fCons (fTup (fCons (fC (.str "mark")) (fCons (fC (.int 0)) fNil))) fNil)) (fCons (fCall F_do (fCons (fTup (fCons (fC (.str "sum")) (fCons (fVar 3) (fCons (fVar 3) (fCons (fVar 0) fNil))))) fNil)) (fCons (fCall F_do (fCons (fTup (fCons (fC (.str "sum")) (fCons (fVar 2) (fCons (fVar 1) (fCons (fC (.tup false [(.str "z"), (.tup false [(.int 0), (.int 0), (.int 0), (.int 0)])])) fNil))))) fNil)) fNil)))))))))
  sNil)))))
noncomputable def R_word_parts : Fn := runF 4 g_word_parts
theorem s_word_parts : FnScope ["low", "high", "carried", "here"] [] (defScope (top 46)) := ⟨rfl, rfl, rfl, by decide +kernel, rfl, by decide +kernel, by decide +kernel⟩
theorem kr_word_parts (A : All w K mg) : FnK P w K mg base 2 ⟨"word_parts", 0, R_word_parts⟩ := by
  obtain ⟨f, fd, hm, F⟩ := A.f_word_parts
  exact fn_in A.fr (He5.fun_of F) s_word_parts hm (FunD.bindsN (ps := []) F fun _ _ _ _ _ _ us hl => match us, hl with | [], _ => rfl) fun X W h =>
  (dss_cons (h.set (h.callK (ks := []) [0, 1, 2, 3, 4] (k_cell A) bd_cell_1 (h.cons de_str da_nil) dk_nil (FsN.cons FsN.nil).len (FsN.nil).len))
  (dss_cons (h.set (h.callK (ks := []) [0, 1, 2, 3, 4] (k_cell A) bd_cell_1 (h.cons de_str da_nil) dk_nil (FsN.cons FsN.nil).len (FsN.nil).len))
  (dss_cons (h.set (h.callK (ks := []) [0, 1, 2, 3, 4] (k_cell A) bd_cell_1 (h.cons de_str da_nil) dk_nil (FsN.cons FsN.nil).len (FsN.nil).len))
  (dss_cons (h.set (h.callK (ks := []) [0, 1, 2, 3, 4] (k_cell A) bd_cell_5 (h.cons de_str (h.cons de_int (h.cons de_int (h.cons de_int (h.cons de_int da_nil))))) dk_nil (FsN.cons (FsN.cons (FsN.cons (FsN.cons (FsN.cons FsN.nil))))).len (FsN.nil).len))
  (dss_cons (ds_ret (de_tup (h.cons (h.call (k_do A) (h.cons (de_tup (h.cons de_str (h.cons h.var (h.cons h.var (h.cons (h.callK (ks := []) [0, 1, 2, 3, 4] (k_cell A) bd_cell_5 (h.cons de_str (h.cons de_int (h.cons de_int (h.cons de_int (h.cons de_int da_nil))))) dk_nil (FsN.cons (FsN.cons (FsN.cons (FsN.cons (FsN.cons FsN.nil))))).len (FsN.nil).len) (h.cons (h.callK (ks := []) [0, 1, 2, 3, 4] (k_cell A) bd_cell_5 (h.cons de_str (h.cons de_int (h.cons de_int (h.cons de_int (h.cons de_int da_nil))))) dk_nil (FsN.cons (FsN.cons (FsN.cons (FsN.cons (FsN.cons FsN.nil))))).len (FsN.nil).len) da_nil)))))) da_nil) (FsN.cons FsN.nil).len) (h.cons (h.call (k_do A) (h.cons (de_tup (h.cons de_str (h.cons de_int da_nil))) da_nil) (FsN.cons FsN.nil).len) (h.cons (h.call (k_do A) (h.cons (de_tup (h.cons de_str (h.cons h.var (h.cons h.var (h.cons h.var da_nil))))) da_nil) (FsN.cons FsN.nil).len) (h.cons (h.call (k_do A) (h.cons (de_tup (h.cons de_str (h.cons h.var (h.cons h.var (h.cons (h.gC A.c_NAUGHT) da_nil))))) da_nil) (FsN.cons FsN.nil).len) (h.cons (h.call (k_do A) (h.cons (de_tup (h.cons de_str (h.cons de_int da_nil))) da_nil) (FsN.cons FsN.nil).len) (h.cons (h.call (k_do A) (h.cons (de_tup (h.cons de_str (h.cons h.var (h.cons h.var (h.cons h.var da_nil))))) da_nil) (FsN.cons FsN.nil).len) (h.cons (h.call (k_do A) (h.cons (de_tup (h.cons de_str (h.cons h.var (h.cons h.var (h.cons (h.gC A.c_NAUGHT) da_nil))))) da_nil) (FsN.cons FsN.nil).len) da_nil)))))))))
  dss_nil)))))
noncomputable def q_word_parts : Fn := fun ds S => lowR (R_word_parts ds S)
noncomputable abbrev F_word_parts : Fn := q_word_parts
theorem w_word_parts (ds : List D) (S : Sg) (h : ds.length = 0) : Weak S (R_word_parts ds S) (q_word_parts ds S) := weak_lowR
theorem k_word_parts (A : All w K mg) : FnK P w K mg base 2 ⟨"word_parts", 0, F_word_parts⟩ := (kr_word_parts A).weak w_word_parts
noncomputable def g_plain_rounds : FS := (sSeq (sAsg (fCallK F_times_n [0, 1] [.non] (fCons (fCall F_word_parts fNil) (fCons (fCall F_word_sentence fNil) fNil)) fNil) (gNm 0))
  (sSeq (sAsg (fTup (fCons (fCall F_do (fCons (fTup (fCons (fC (.str "set")) (fCons (fCallK F_cell [0, 1, 2, 3, 4] [(.int 0), (.int 0), (.int 0), (.int 0)] (fCons (fC (.str "r")) fNil) fNil) (fCons (fC (.int 0)) fNil)))) fNil)) (fCons (fVar 0) (fCons (fCall F_do (fCons (fTup (fCons (fC (.str "move")) (fCons (fCallK F_cell [0, 1, 2, 3, 4] [(.int 0), (.int 0), (.int 0), (.int 0)] (fCons (fC (.str "c")) (fCons (fC (.int 0)) (fCons (fC (.int 1)) (fCons (fC (.int 0)) (fCons (fC (.int 1)) fNil))))) fNil) (fCons (fCallK F_cell [0, 1, 2, 3, 4] [(.int 0), (.int 0), (.int 0), (.int 0)] (fCons (fC (.str "r")) fNil) fNil) fNil)))) fNil)) fNil)))) (gNm 1))
  (sSeq (sRet (fTup (fCons (fCallK F_times_n [0, 1] [.non] (fCons (fVar 1) (fCons (fCall F_round_sentence fNil) fNil)) fNil) fNil)))
  sNil)))
noncomputable def R_plain_rounds : Fn := runF 2 g_plain_rounds
theorem s_plain_rounds : FnScope ["inner", "parts"] [] (defScope (top 47)) := ⟨rfl, rfl, rfl, by decide +kernel, rfl, by decide +kernel, by decide +kernel⟩
theorem kr_plain_rounds (A : All w K mg) : FnK P w K mg base 3 ⟨"plain_rounds", 0, R_plain_rounds⟩ := by
  obtain ⟨f, fd, hm, F⟩ := A.f_plain_rounds
  exact fn_in A.fr (He5.fun_of F) s_plain_rounds hm (FunD.bindsN (ps := []) F fun _ _ _ _ _ _ us hl => match us, hl with | [], _ => rfl) fun X W h =>
  (dss_cons (h.set (h.callK (ks := []) [0, 1] (k_times_n A) bd_times_n_2 (h.cons (h.call0 (k_word_parts A)) (h.cons (h.call0 (k_word_sentence A)) da_nil)) dk_nil (FsN.cons (FsN.cons FsN.nil)).len (FsN.nil).len))
  (dss_cons (h.set (de_tup (h.cons (h.call (k_do A) (h.cons (de_tup (h.cons de_str (h.cons (h.callK (ks := []) [0, 1, 2, 3, 4] (k_cell A) bd_cell_1 (h.cons de_str da_nil) dk_nil (FsN.cons FsN.nil).len (FsN.nil).len) (h.cons de_int da_nil)))) da_nil) (FsN.cons FsN.nil).len) (h.cons h.var (h.cons (h.call (k_do A) (h.cons (de_tup (h.cons de_str (h.cons (h.callK (ks := []) [0, 1, 2, 3, 4] (k_cell A) bd_cell_5 (h.cons de_str (h.cons de_int (h.cons de_int (h.cons de_int (h.cons de_int da_nil))))) dk_nil (FsN.cons (FsN.cons (FsN.cons (FsN.cons (FsN.cons FsN.nil))))).len (FsN.nil).len) (h.cons (h.callK (ks := []) [0, 1, 2, 3, 4] (k_cell A) bd_cell_1 (h.cons de_str da_nil) dk_nil (FsN.cons FsN.nil).len (FsN.nil).len) da_nil)))) da_nil) (FsN.cons FsN.nil).len) da_nil)))))
  (dss_cons (ds_ret (de_tup (h.cons (h.callK (ks := []) [0, 1] (k_times_n A) bd_times_n_2 (h.cons h.var (h.cons (h.call0 (k_round_sentence A)) da_nil)) dk_nil (FsN.cons (FsN.cons FsN.nil)).len (FsN.nil).len) da_nil)))
  dss_nil)))
noncomputable def q_plain_rounds : Fn := fun ds S => lowR (R_plain_rounds ds S)
noncomputable abbrev F_plain_rounds : Fn := q_plain_rounds
theorem w_plain_rounds (ds : List D) (S : Sg) (h : ds.length = 0) : Weak S (R_plain_rounds ds S) (q_plain_rounds ds S) := weak_lowR
theorem k_plain_rounds (A : All w K mg) : FnK P w K mg base 3 ⟨"plain_rounds", 0, F_plain_rounds⟩ := (kr_plain_rounds A).weak w_plain_rounds
noncomputable def g_taken_off : FS := (sSeq (sAsg (fCallK F_cell [0, 1, 2, 3, 4] [(.int 0), (.int 0), (.int 0), (.int 0)] (fCons (fC (.str "g")) fNil) fNil) (gNm 2))
  (sSeq (sAsg (fCallK F_cell [0, 1, 2, 3, 4] [(.int 0), (.int 0), (.int 0), (.int 0)] (fCons (fC (.str "c")) (fCons (fC (.int 0)) (fCons (fC (.int 1)) (fCons (fC (.int 0)) (fCons (fC (.int 1)) fNil))))) fNil) (gNm 3))
  (sSeq (sAsg (fTup (fCons (fCall F_do (fCons (fTup (fCons (fC (.str "both")) (fCons (fVar 2) (fCons (fCallK F_cell [0, 1, 2, 3, 4] [(.int 0), (.int 0), (.int 0), (.int 0)] (fCons (fVar 0) (fCons (fC (.int 0)) (fCons (fC (.int 1)) (fCons (fC (.int 0)) (fCons (fC (.int 0)) fNil))))) fNil) (fCons (fVar 1) fNil))))) fNil)) (fCons (fCall F_do (fCons (fTup (fCons (fC (.str "less")) (fCons (fVar 3) (fCons (fVar 3) (fCons (fVar 2) fNil))))) fNil)) fNil))) (gNm 4))
  (sSeq (sRet (fTup (fCons (fCall F_do (fCons (fTup (fCons (fC (.str "mark")) (fCons (fC (.int 0)) fNil))) fNil)) (fCons (fCallK F_times_n [0, 1] [.non] (fCons (fVar 4) fNil) fNil) fNil))))
  sNil))))
noncomputable def R_taken_off : Fn := runF 5 g_taken_off
theorem s_taken_off : FnScope ["letter", "mask", "spare", "here", "rows"] ["letter", "mask"] (defScope (top 70)) := ⟨rfl, rfl, rfl, by decide +kernel, rfl, by decide +kernel, by decide +kernel⟩
theorem kr_taken_off (A : All w K mg) : FnK P w K mg base 2 ⟨"taken_off", 2, R_taken_off⟩ := by
  obtain ⟨f, fd, hm, F⟩ := A.f_taken_off
  exact fn_in A.fr (He5.fun_of F) s_taken_off hm (FunD.bindsN (ps := ["letter", "mask"]) F fun _ _ _ _ _ _ us hl => match us, hl with | [_, _], _ => rfl) fun X W h =>
  (dss_cons (h.set (h.callK (ks := []) [0, 1, 2, 3, 4] (k_cell A) bd_cell_1 (h.cons de_str da_nil) dk_nil (FsN.cons FsN.nil).len (FsN.nil).len))
  (dss_cons (h.set (h.callK (ks := []) [0, 1, 2, 3, 4] (k_cell A) bd_cell_5 (h.cons de_str (h.cons de_int (h.cons de_int (h.cons de_int (h.cons de_int da_nil))))) dk_nil (FsN.cons (FsN.cons (FsN.cons (FsN.cons (FsN.cons FsN.nil))))).len (FsN.nil).len))
  (dss_cons (h.set (de_tup (h.cons (h.call (k_do A) (h.cons (de_tup (h.cons de_str (h.cons h.var (h.cons (h.callK (ks := []) [0, 1, 2, 3, 4] (k_cell A) bd_cell_5 (h.cons h.var (h.cons de_int (h.cons de_int (h.cons de_int (h.cons de_int da_nil))))) dk_nil (FsN.cons (FsN.cons (FsN.cons (FsN.cons (FsN.cons FsN.nil))))).len (FsN.nil).len) (h.cons h.var da_nil))))) da_nil) (FsN.cons FsN.nil).len) (h.cons (h.call (k_do A) (h.cons (de_tup (h.cons de_str (h.cons h.var (h.cons h.var (h.cons h.var da_nil))))) da_nil) (FsN.cons FsN.nil).len) da_nil))))
  (dss_cons (ds_ret (de_tup (h.cons (h.call (k_do A) (h.cons (de_tup (h.cons de_str (h.cons de_int da_nil))) da_nil) (FsN.cons FsN.nil).len) (h.cons (h.callK (ks := []) [0, 1] (k_times_n A) bd_times_n_1 (h.cons h.var da_nil) dk_nil (FsN.cons FsN.nil).len (FsN.nil).len) da_nil))))
  dss_nil))))
noncomputable def q_taken_off : Fn := fun ds S => lowR (R_taken_off ds S)
noncomputable abbrev F_taken_off : Fn := q_taken_off
theorem w_taken_off (ds : List D) (S : Sg) (h : ds.length = 2) : Weak S (R_taken_off ds S) (q_taken_off ds S) := weak_lowR
theorem k_taken_off (A : All w K mg) : FnK P w K mg base 2 ⟨"taken_off", 2, F_taken_off⟩ := (kr_taken_off A).weak w_taken_off
noncomputable def g_signed_product_parts : FS := (sSeq (sAsg (fCallK F_cell [0, 1, 2, 3, 4] [(.int 0), (.int 0), (.int 0), (.int 0)] (fCons (fC (.str "s")) fNil) fNil) (gNm 0))
  (sSeq (sAsg (fCallK F_cell [0, 1, 3, 4, 5] [(.int 0), (.int 0), (.int 0), (.int 0)] (fCons (fC (.str "s")) (fCons (fC (.int 1)) fNil)) fNil) (gNm 1))
  (sSeq (sAsg (fCallK F_cell [0, 1, 2, 3, 4] [(.int 0), (.int 0), (.int 0), (.int 0)] (fCons (fC (.str "t")) fNil) fNil) (gNm 2))
  (sSeq (sAsg (fCallK F_cell [0, 1, 2, 3, 4] [(.int 0), (.int 0), (.int 0), (.int 0)] (fCons (fC (.str "g")) fNil) fNil) (gNm 3))
  (sSeq (sAsg (fBin dAdd (fCall F_mask_of (fCons (fVar 0) (fCons (fCallK F_cell [0, 1, 2, 3, 4] [(.int 0), (.int 0), (.int 0), (.int 0)] (fCons (fC (.str "a")) (fCons (fNeg (fC (.int 1))) (fCons (fC (.int 0)) (fCons (fC (.int 0)) (fCons (fC (.int 1)) fNil))))) fNil) fNil))) (fCall F_mask_of (fCons (fVar 1) (fCons (fCallK F_cell [0, 1, 2, 3, 4] [(.int 0), (.int 0), (.int 0), (.int 0)] (fCons (fC (.str "b")) (fCons (fNeg (fC (.int 1))) (fCons (fC (.int 0)) (fCons (fC (.int 0)) (fCons (fC (.int 1)) fNil))))) fNil) fNil)))) (gNm 4))
  (sSeq (sAsg (fBin dAdd (fBin dAdd (fBin dAdd (fCall F_plain_rounds fNil) (fVar 4)) (fCall F_taken_off (fCons (fC (.str "b")) (fCons (fVar 0) fNil)))) (fCall F_taken_off (fCons (fC (.str "a")) (fCons (fVar 1) fNil)))) (gNm 5))
  (sSeq (sAsg (fCall F_mask_of (fCons (fVar 0) (fCons (fCallK F_cell [0, 1, 2, 3, 4] [(.int 0), (.int 0), (.int 0), (.int 0)] (fCons (fC (.str "c")) (fCons (fNeg (fC (.int 1))) (fCons (fC (.int 0)) (fCons (fC (.int 0)) (fCons (fC (.int 1)) fNil))))) fNil) fNil))) (gNm 6))
  (sSeq (sAsg (fTup (fCons (fCall F_do (fCons (fTup (fCons (fC (.str "odd")) (fCons (fVar 3) (fCons (fCallK F_cell [0, 1, 2, 3, 4] [(.int 0), (.int 0), (.int 0), (.int 0)] (fCons (fC (.str "c")) (fCons (fC (.int 0)) (fCons (fC (.int 1)) (fCons (fC (.int 0)) (fCons (fC (.int 1)) fNil))))) fNil) (fCons (fVar 0) fNil))))) fNil)) (fCons (fCall F_do (fCons (fTup (fCons (fC (.str "any")) (fCons (fVar 2) (fCons (fVar 2) (fCons (fVar 3) fNil))))) fNil)) fNil))) (gNm 7))
  (sSeq (sAsg (fBin dAdd (fTup (fCons (fCall F_do (fCons (fTup (fCons (fC (.str "set")) (fCons (fVar 2) (fCons (fC (.int 0)) fNil)))) fNil)) (fCons (fCallK F_times_n [0, 1] [.non] (fCons (fVar 7) fNil) fNil) (fCons (fCall F_do (fCons (fTup (fCons (fC (.str "ask")) (fCons (fVar 2) fNil))) fNil)) fNil)))) (fCall F_mark_to (fCons (fC (.int 1)) fNil))) (gNm 8))
  (sSeq (sRet (fBin dAdd (fBin dAdd (fBin dAdd (fVar 5) (fVar 6)) (fVar 8)) (fCall F_ends (fCons (fC (.str "c")) (fCons (fC (.int 0)) (fCons (fC (.int 2)) fNil))))))
  sNil))))))))))
noncomputable def R_signed_product_parts : Fn := runF 9 g_signed_product_parts
theorem s_signed_product_parts : FnScope ["first", "second", "spare", "unlike", "masks", "parts", "filled", "gather", "over"] [] (defScope (top 71)) := ⟨rfl, rfl, rfl, by decide +kernel, rfl, by decide +kernel, by decide +kernel⟩
theorem kr_signed_product_parts (A : All w K mg) : FnK P w K mg base 4 ⟨"signed_product_parts", 0, R_signed_product_parts⟩ := by
  obtain ⟨f, fd, hm, F⟩ := A.f_signed_product_parts
  exact fn_in A.fr (He5.fun_of F) s_signed_product_parts hm (FunD.bindsN (ps := []) F fun _ _ _ _ _ _ us hl => match us, hl with | [], _ => rfl) fun X W h =>
  (dss_cons (h.set (h.callK (ks := []) [0, 1, 2, 3, 4] (k_cell A) bd_cell_1 (h.cons de_str da_nil) dk_nil (FsN.cons FsN.nil).len (FsN.nil).len))
  (dss_cons (h.set (h.callK (ks := []) [0, 1, 3, 4, 5] (k_cell A) bd_cell_2 (h.cons de_str (h.cons de_int da_nil)) dk_nil (FsN.cons (FsN.cons FsN.nil)).len (FsN.nil).len))
  (dss_cons (h.set (h.callK (ks := []) [0, 1, 2, 3, 4] (k_cell A) bd_cell_1 (h.cons de_str da_nil) dk_nil (FsN.cons FsN.nil).len (FsN.nil).len))
  (dss_cons (h.set (h.callK (ks := []) [0, 1, 2, 3, 4] (k_cell A) bd_cell_1 (h.cons de_str da_nil) dk_nil (FsN.cons FsN.nil).len (FsN.nil).len))
  (dss_cons (h.set (h.add (h.call (k_mask_of A) (h.cons h.var (h.cons (h.callK (ks := []) [0, 1, 2, 3, 4] (k_cell A) bd_cell_5 (h.cons de_str (h.cons (de_neg de_int) (h.cons de_int (h.cons de_int (h.cons de_int da_nil))))) dk_nil (FsN.cons (FsN.cons (FsN.cons (FsN.cons (FsN.cons FsN.nil))))).len (FsN.nil).len) da_nil)) (FsN.cons (FsN.cons FsN.nil)).len) (h.call (k_mask_of A) (h.cons h.var (h.cons (h.callK (ks := []) [0, 1, 2, 3, 4] (k_cell A) bd_cell_5 (h.cons de_str (h.cons (de_neg de_int) (h.cons de_int (h.cons de_int (h.cons de_int da_nil))))) dk_nil (FsN.cons (FsN.cons (FsN.cons (FsN.cons (FsN.cons FsN.nil))))).len (FsN.nil).len) da_nil)) (FsN.cons (FsN.cons FsN.nil)).len)))
  (dss_cons (h.set (h.add (h.add (h.add (h.call0 (k_plain_rounds A)) h.var) (h.call (k_taken_off A) (h.cons de_str (h.cons h.var da_nil)) (FsN.cons (FsN.cons FsN.nil)).len)) (h.call (k_taken_off A) (h.cons de_str (h.cons h.var da_nil)) (FsN.cons (FsN.cons FsN.nil)).len)))
  (dss_cons (h.set (h.call (k_mask_of A) (h.cons h.var (h.cons (h.callK (ks := []) [0, 1, 2, 3, 4] (k_cell A) bd_cell_5 (h.cons de_str (h.cons (de_neg de_int) (h.cons de_int (h.cons de_int (h.cons de_int da_nil))))) dk_nil (FsN.cons (FsN.cons (FsN.cons (FsN.cons (FsN.cons FsN.nil))))).len (FsN.nil).len) da_nil)) (FsN.cons (FsN.cons FsN.nil)).len))
  (dss_cons (h.set (de_tup (h.cons (h.call (k_do A) (h.cons (de_tup (h.cons de_str (h.cons h.var (h.cons (h.callK (ks := []) [0, 1, 2, 3, 4] (k_cell A) bd_cell_5 (h.cons de_str (h.cons de_int (h.cons de_int (h.cons de_int (h.cons de_int da_nil))))) dk_nil (FsN.cons (FsN.cons (FsN.cons (FsN.cons (FsN.cons FsN.nil))))).len (FsN.nil).len) (h.cons h.var da_nil))))) da_nil) (FsN.cons FsN.nil).len) (h.cons (h.call (k_do A) (h.cons (de_tup (h.cons de_str (h.cons h.var (h.cons h.var (h.cons h.var da_nil))))) da_nil) (FsN.cons FsN.nil).len) da_nil))))
  (dss_cons (h.set (h.add (de_tup (h.cons (h.call (k_do A) (h.cons (de_tup (h.cons de_str (h.cons h.var (h.cons de_int da_nil)))) da_nil) (FsN.cons FsN.nil).len) (h.cons (h.callK (ks := []) [0, 1] (k_times_n A) bd_times_n_1 (h.cons h.var da_nil) dk_nil (FsN.cons FsN.nil).len (FsN.nil).len) (h.cons (h.call (k_do A) (h.cons (de_tup (h.cons de_str (h.cons h.var da_nil))) da_nil) (FsN.cons FsN.nil).len) da_nil)))) (h.call (k_mark_to A) (h.cons de_int da_nil) (FsN.cons FsN.nil).len)))
  (dss_cons (ds_ret (h.add (h.add (h.add h.var h.var) h.var) (h.call (k_ends A) (h.cons de_str (h.cons de_int (h.cons de_int da_nil))) (FsN.cons (FsN.cons (FsN.cons FsN.nil))).len)))
  dss_nil))))))))))
noncomputable def q_signed_product_parts : Fn := fun ds S => lowR (R_signed_product_parts ds S)
noncomputable abbrev F_signed_product_parts : Fn := q_signed_product_parts
theorem w_signed_product_parts (ds : List D) (S : Sg) (h : ds.length = 0) : Weak S (R_signed_product_parts ds S) (q_signed_product_parts ds S) := weak_lowR
theorem k_signed_product_parts (A : All w K mg) : FnK P w K mg base 4 ⟨"signed_product_parts", 0, F_signed_product_parts⟩ := (kr_signed_product_parts A).weak w_signed_product_parts
noncomputable def g_product_parts : FS := (sSeq (sAsg (fCallK F_cell [0, 1, 2, 3, 4] [(.int 0), (.int 0), (.int 0), (.int 0)] (fCons (fC (.str "t")) fNil) fNil) (gNm 0))
  (sSeq (sAsg (fTup (fCons (fCall F_do (fCons (fTup (fCons (fC (.str "any")) (fCons (fVar 0) (fCons (fVar 0) (fCons (fCallK F_cell [0, 1, 2, 3, 4] [(.int 0), (.int 0), (.int 0), (.int 0)] (fCons (fC (.str "c")) (fCons (fC (.int 0)) (fCons (fC (.int 1)) (fCons (fC (.int 0)) (fCons (fC (.int 1)) fNil))))) fNil) fNil))))) fNil)) fNil)) (gNm 1))
  (sSeq (sAsg (fBin dAdd (fTup (fCons (fCall F_do (fCons (fTup (fCons (fC (.str "set")) (fCons (fVar 0) (fCons (fC (.int 0)) fNil)))) fNil)) (fCons (fCallK F_times_n [0, 1] [.non] (fCons (fVar 1) fNil) fNil) (fCons (fCall F_do (fCons (fTup (fCons (fC (.str "ask")) (fCons (fVar 0) fNil))) fNil)) fNil)))) (fCall F_mark_to (fCons (fC (.int 1)) fNil))) (gNm 2))
  (sSeq (sRet (fBin dAdd (fBin dAdd (fCall F_plain_rounds fNil) (fVar 2)) (fCall F_ends (fCons (fC (.str "c")) (fCons (fC (.int 0)) (fCons (fC (.int 2)) fNil))))))
  sNil))))
noncomputable def R_product_parts : Fn := runF 3 g_product_parts
theorem s_product_parts : FnScope ["spare", "gather", "over"] [] (defScope (top 48)) := ⟨rfl, rfl, rfl, by decide +kernel, rfl, by decide +kernel, by decide +kernel⟩
theorem kr_product_parts (A : All w K mg) : FnK P w K mg base 4 ⟨"product_parts", 0, R_product_parts⟩ := by
  obtain ⟨f, fd, hm, F⟩ := A.f_product_parts
  exact fn_in A.fr (He5.fun_of F) s_product_parts hm (FunD.bindsN (ps := []) F fun _ _ _ _ _ _ us hl => match us, hl with | [], _ => rfl) fun X W h =>
  (dss_cons (h.set (h.callK (ks := []) [0, 1, 2, 3, 4] (k_cell A) bd_cell_1 (h.cons de_str da_nil) dk_nil (FsN.cons FsN.nil).len (FsN.nil).len))
  (dss_cons (h.set (de_tup (h.cons (h.call (k_do A) (h.cons (de_tup (h.cons de_str (h.cons h.var (h.cons h.var (h.cons (h.callK (ks := []) [0, 1, 2, 3, 4] (k_cell A) bd_cell_5 (h.cons de_str (h.cons de_int (h.cons de_int (h.cons de_int (h.cons de_int da_nil))))) dk_nil (FsN.cons (FsN.cons (FsN.cons (FsN.cons (FsN.cons FsN.nil))))).len (FsN.nil).len) da_nil))))) da_nil) (FsN.cons FsN.nil).len) da_nil)))
  (dss_cons (h.set (h.add (de_tup (h.cons (h.call (k_do A) (h.cons (de_tup (h.cons de_str (h.cons h.var (h.cons de_int da_nil)))) da_nil) (FsN.cons FsN.nil).len) (h.cons (h.callK (ks := []) [0, 1] (k_times_n A) bd_times_n_1 (h.cons h.var da_nil) dk_nil (FsN.cons FsN.nil).len (FsN.nil).len) (h.cons (h.call (k_do A) (h.cons (de_tup (h.cons de_str (h.cons h.var da_nil))) da_nil) (FsN.cons FsN.nil).len) da_nil)))) (h.call (k_mark_to A) (h.cons de_int da_nil) (FsN.cons FsN.nil).len)))
  (dss_cons (ds_ret (h.add (h.add (h.call0 (k_plain_rounds A)) h.var) (h.call (k_ends A) (h.cons de_str (h.cons de_int (h.cons de_int da_nil))) (FsN.cons (FsN.cons (FsN.cons FsN.nil))).len)))
  dss_nil))))
noncomputable def q_product_parts : Fn := fun ds S => lowR (R_product_parts ds S)
noncomputable abbrev F_product_parts : Fn := q_product_parts
theorem w_product_parts (ds : List D) (S : Sg) (h : ds.length = 0) : Weak S (R_product_parts ds S) (q_product_parts ds S) := weak_lowR
theorem k_product_parts (A : All w K mg) : FnK P w K mg base 4 ⟨"product_parts", 0, F_product_parts⟩ := (kr_product_parts A).weak w_product_parts
noncomputable def g_no_marks : FS := (sSeq (sRet (fTup (fCons (fCall F_do (fCons (fTup (fCons (fC (.str "set")) (fCons (fCallK F_cell [0, 1, 2, 3, 4] [(.int 0), (.int 0), (.int 0), (.int 0)] (fCons (fC (.str "m")) fNil) fNil) (fCons (fC (.int 0)) fNil)))) fNil)) (fCons (fCall F_do (fCons (fTup (fCons (fC (.str "set")) (fCons (fCallK F_cell [0, 5, 2, 3, 4] [(.int 0), (.int 0), (.int 0), (.int 0)] (fCons (fC (.str "m")) fNil) (fCons (fC (.int 1)) fNil)) (fCons (fC (.int 0)) fNil)))) fNil)) fNil))))
  sNil)
noncomputable def R_no_marks : Fn := runF 0 g_no_marks
theorem s_no_marks : FnScope [] [] (defScope (top 23)) := ⟨rfl, rfl, rfl, by decide +kernel, rfl, by decide +kernel, by decide +kernel⟩
theorem kr_no_marks (A : All w K mg) : FnK P w K mg base 2 ⟨"no_marks", 0, R_no_marks⟩ := by
  obtain ⟨f, fd, hm, F⟩ := A.f_no_marks
  exact fn_in A.fr (He5.fun_of F) s_no_marks hm (FunD.bindsN (ps := []) F fun _ _ _ _ _ _ us hl => match us, hl with | [], _ => rfl) fun X W h =>
  (dss_cons (ds_ret (de_tup (h.cons (h.call (k_do A) (h.cons (de_tup (h.cons de_str (h.cons (h.callK (ks := []) [0, 1, 2, 3, 4] (k_cell A) bd_cell_1 (h.cons de_str da_nil) dk_nil (FsN.cons FsN.nil).len (FsN.nil).len) (h.cons de_int da_nil)))) da_nil) (FsN.cons FsN.nil).len) (h.cons (h.call (k_do A) (h.cons (de_tup (h.cons de_str (h.cons (h.callK (ks := ["c"]) [0, 5, 2, 3, 4] (k_cell A) bd_cell_1_c (h.cons de_str da_nil) (dk_cons de_int dk_nil) (FsN.cons FsN.nil).len (FsN.cons FsN.nil).len) (h.cons de_int da_nil)))) da_nil) (FsN.cons FsN.nil).len) da_nil))))
  dss_nil)
noncomputable def q_no_marks : Fn := fun ds S => lowR (R_no_marks ds S)
noncomputable abbrev F_no_marks : Fn := q_no_marks
theorem w_no_marks (ds : List D) (S : Sg) (h : ds.length = 0) : Weak S (R_no_marks ds S) (q_no_marks ds S) := weak_lowR
theorem k_no_marks (A : All w K mg) : FnK P w K mg base 2 ⟨"no_marks", 0, F_no_marks⟩ := (kr_no_marks A).weak w_no_marks
noncomputable def g_lowest : FS := (sSeq (sRet (fTup (fCons (fC (.str "slice")) (fCons (fVar 0) (fCons (fTup (fCons (fC (.int 0)) (fCons (fC (.int 0)) (fCons (fC (.int 0)) (fCons (fC (.int 0)) fNil))))) (fCons (fTup (fCons (fC (.int 0)) (fCons (fC (.int 1)) (fCons (fC (.int 0)) (fCons (fC (.int 0)) fNil))))) fNil))))))
  sNil)
noncomputable def R_lowest : Fn := runF 1 g_lowest
theorem s_lowest : FnScope ["letter"] ["letter"] (defScope (top 15)) := ⟨rfl, rfl, rfl, by decide +kernel, rfl, by decide +kernel, by decide +kernel⟩
theorem kr_lowest (A : All w K mg) : FnK P w K mg base 1 ⟨"lowest", 1, R_lowest⟩ := by
  obtain ⟨f, fd, hm, F⟩ := A.f_lowest
  exact fn_in A.fr (He5.fun_of F) s_lowest hm (FunD.bindsN (ps := ["letter"]) F fun _ _ _ _ _ _ us hl => match us, hl with | [_], _ => rfl) fun X W h =>
  (dss_cons (ds_ret (de_tup (h.cons de_str (h.cons h.var (h.cons (de_tup (h.cons de_int (h.cons de_int (h.cons de_int (h.cons de_int da_nil))))) (h.cons (de_tup (h.cons de_int (h.cons de_int (h.cons de_int (h.cons de_int da_nil))))) da_nil))))))
  dss_nil)
noncomputable def q_lowest : Fn := fun ds S => lowR (R_lowest ds S)
noncomputable abbrev F_lowest : Fn := q_lowest
theorem w_lowest (ds : List D) (S : Sg) (h : ds.length = 1) : Weak S (R_lowest ds S) (q_lowest ds S) := weak_lowR
theorem k_lowest (A : All w K mg) : FnK P w K mg base 1 ⟨"lowest", 1, F_lowest⟩ := (kr_lowest A).weak w_lowest
noncomputable def g_bare_parts : FS := (sSeq (sAsg (fTup (fCons (fTup (fCons (fC (.int 1)) (fCons (fC (.tup false [(.int 0), (.int 0), (.int 0), (.int 0), (.int 0), (.int 0)])) (fCons (fTup (fCons (fCall F_lowest (fCons (fC (.str "a")) fNil)) fNil)) fNil)))) (fCons (fTup (fCons (fC (.int 1)) (fCons (fC (.tup false [(.int 0), (.int 0), (.int 0), (.int 0), (.int 0), (.int 0)])) (fCons (fTup (fCons (fCall F_lowest (fCons (fC (.str "c")) fNil)) fNil)) fNil)))) (fCons (fTup (fCons (fC (.int 1)) (fCons (fC (.tup false [(.int 0), (.int 0), (.int 0), (.int 0), (.int 0), (.int 0)])) (fCons (fTup fNil) fNil)))) (fCons (fTup (fCons (fNeg (fC (.int 1))) (fCons (fC (.tup false [(.int 0), (.int 0), (.int 0), (.int 1), (.int 0), (.int 0)])) (fCons (fTup fNil) fNil)))) fNil))))) (gNm 0))
  (sSeq (sAsg (fCall F_do (fCons (fTup (fCons (fC (.str "bare")) (fCons (fCallK F_cell [0, 1, 5, 3, 4] [(.int 0), (.int 0), (.int 0), (.int 0)] (fCons (fC (.str "c")) fNil) (fCons (fC (.int 1)) fNil)) (fCons (fCallK F_cell [0, 1, 5, 3, 4] [(.int 0), (.int 0), (.int 0), (.int 0)] (fCons (fC (.str "a")) fNil) (fCons (fC (.int 1)) fNil)) fNil)))) fNil)) (gNm 1))
  (sSeq (sRet (fBin dAdd (fBin dAdd (fTup (fCons (fCallK F_times_n [0, 1] [.non] (fCons (fTup (fCons (fVar 1) fNil)) (fCons (fVar 0) fNil)) fNil) fNil)) (fCall F_no_marks fNil)) (fCall F_ends (fCons (fC (.str "c")) (fCons (fC (.int 0)) (fCons (fC (.int 1)) fNil))))))
  sNil)))
noncomputable def R_bare_parts : Fn := runF 2 g_bare_parts
theorem s_bare_parts : FnScope ["sentence", "go"] [] (defScope (top 25)) := ⟨rfl, rfl, rfl, by decide +kernel, rfl, by decide +kernel, by decide +kernel⟩
theorem kr_bare_parts (A : All w K mg) : FnK P w K mg base 4 ⟨"bare_parts", 0, R_bare_parts⟩ := by
  obtain ⟨f, fd, hm, F⟩ := A.f_bare_parts
  exact fn_in A.fr (He5.fun_of F) s_bare_parts hm (FunD.bindsN (ps := []) F fun _ _ _ _ _ _ us hl => match us, hl with | [], _ => rfl) fun X W h =>
  (dss_cons (h.set (de_tup (h.cons (de_tup (h.cons de_int (h.cons (h.gC A.c_FLAT) (h.cons (de_tup (h.cons (h.call (k_lowest A) (h.cons de_str da_nil) (FsN.cons FsN.nil).len) da_nil)) da_nil)))) (h.cons (de_tup (h.cons de_int (h.cons (h.gC A.c_FLAT) (h.cons (de_tup (h.cons (h.call (k_lowest A) (h.cons de_str da_nil) (FsN.cons FsN.nil).len) da_nil)) da_nil)))) (h.cons (de_tup (h.cons de_int (h.cons (h.gC A.c_FLAT) (h.cons (de_tup da_nil) da_nil)))) (h.cons (de_tup (h.cons (de_neg de_int) (h.cons (h.gC A.c_SO_FAR) (h.cons (de_tup da_nil) da_nil)))) da_nil))))))
  (dss_cons (h.set (h.call (k_do A) (h.cons (de_tup (h.cons de_str (h.cons (h.callK (ks := ["i"]) [0, 1, 5, 3, 4] (k_cell A) bd_cell_1_i (h.cons de_str da_nil) (dk_cons de_int dk_nil) (FsN.cons FsN.nil).len (FsN.cons FsN.nil).len) (h.cons (h.callK (ks := ["i"]) [0, 1, 5, 3, 4] (k_cell A) bd_cell_1_i (h.cons de_str da_nil) (dk_cons de_int dk_nil) (FsN.cons FsN.nil).len (FsN.cons FsN.nil).len) da_nil)))) da_nil) (FsN.cons FsN.nil).len))
  (dss_cons (ds_ret (h.add (h.add (de_tup (h.cons (h.callK (ks := []) [0, 1] (k_times_n A) bd_times_n_2 (h.cons (de_tup (h.cons h.var da_nil)) (h.cons h.var da_nil)) dk_nil (FsN.cons (FsN.cons FsN.nil)).len (FsN.nil).len) da_nil)) (h.call0 (k_no_marks A))) (h.call (k_ends A) (h.cons de_str (h.cons de_int (h.cons de_int da_nil))) (FsN.cons (FsN.cons (FsN.cons FsN.nil))).len)))
  dss_nil)))
noncomputable def q_bare_parts : Fn := fun ds S => lowR (R_bare_parts ds S)
noncomputable abbrev F_bare_parts : Fn := q_bare_parts
theorem w_bare_parts (ds : List D) (S : Sg) (h : ds.length = 0) : Weak S (R_bare_parts ds S) (q_bare_parts ds S) := weak_lowR
theorem k_bare_parts (A : All w K mg) : FnK P w K mg base 4 ⟨"bare_parts", 0, F_bare_parts⟩ := (kr_bare_parts A).weak w_bare_parts
noncomputable def g_less_rounds : FS := (sSeq (sAsg (fTup (fCons (fTup (fCons (fC (.int 1)) (fCons (fC (.tup false [(.int 0), (.int 0), (.int 0), (.int 0), (.int 0), (.int 0)])) (fCons (fTup (fCons (fCall F_lowest (fCons (fC (.str "a")) fNil)) fNil)) fNil)))) (fCons (fTup (fCons (fNeg (fC (.int 1))) (fCons (fC (.tup false [(.int 0), (.int 0), (.int 0), (.int 0), (.int 0), (.int 0)])) (fCons (fTup (fCons (fCall F_lowest (fCons (fC (.str "b")) fNil)) fNil)) fNil)))) (fCons (fTup (fCons (fNeg (fC (.int 1))) (fCons (fC (.tup false [(.int 0), (.int 0), (.int 0), (.int 0), (.int 0), (.int 0)])) (fCons (fTup (fCons (fCall F_lowest (fCons (fC (.str "c")) fNil)) fNil)) fNil)))) fNil)))) (gNm 0))
  (sSeq (sAsg (fBin dAdd (fVar 0) (fTup (fCons (fTup (fCons (fC (.int 1)) (fCons (fC (.tup false [(.int 0), (.int 0), (.int 0), (.int 1), (.int 0), (.int 0)])) (fCons (fTup (fCons (fC (.tup false [(.str "mark")])) fNil)) fNil)))) fNil))) (gNm 1))
  (sSeq (sAsg (fCall F_do (fCons (fTup (fCons (fC (.str "less")) (fCons (fCallK F_cell [0, 1, 5, 3, 4] [(.int 0), (.int 0), (.int 0), (.int 0)] (fCons (fC (.str "c")) fNil) (fCons (fC (.int 1)) fNil)) (fCons (fCallK F_cell [0, 1, 5, 3, 4] [(.int 0), (.int 0), (.int 0), (.int 0)] (fCons (fC (.str "a")) fNil) (fCons (fC (.int 1)) fNil)) (fCons (fCallK F_cell [0, 1, 5, 3, 4] [(.int 0), (.int 0), (.int 0), (.int 0)] (fCons (fC (.str "b")) fNil) (fCons (fC (.int 1)) fNil)) fNil))))) fNil)) (gNm 2))
  (sSeq (sRet (fTup (fCons (fCall F_do (fCons (fTup (fCons (fC (.str "mark")) (fCons (fC (.int 0)) fNil))) fNil)) (fCons (fCallK F_times_n [0, 1] [.non] (fCons (fTup (fCons (fVar 2) fNil)) (fCons (fVar 1) fNil)) fNil) fNil))))
  sNil))))
noncomputable def R_less_rounds : Fn := runF 3 g_less_rounds
theorem s_less_rounds : FnScope ["both_sides", "sentence", "take"] [] (defScope (top 18)) := ⟨rfl, rfl, rfl, by decide +kernel, rfl, by decide +kernel, by decide +kernel⟩
theorem kr_less_rounds (A : All w K mg) : FnK P w K mg base 2 ⟨"less_rounds", 0, R_less_rounds⟩ := by
  obtain ⟨f, fd, hm, F⟩ := A.f_less_rounds
  exact fn_in A.fr (He5.fun_of F) s_less_rounds hm (FunD.bindsN (ps := []) F fun _ _ _ _ _ _ us hl => match us, hl with | [], _ => rfl) fun X W h =>
  (dss_cons (h.set (de_tup (h.cons (de_tup (h.cons de_int (h.cons (h.gC A.c_FLAT) (h.cons (de_tup (h.cons (h.call (k_lowest A) (h.cons de_str da_nil) (FsN.cons FsN.nil).len) da_nil)) da_nil)))) (h.cons (de_tup (h.cons (de_neg de_int) (h.cons (h.gC A.c_FLAT) (h.cons (de_tup (h.cons (h.call (k_lowest A) (h.cons de_str da_nil) (FsN.cons FsN.nil).len) da_nil)) da_nil)))) (h.cons (de_tup (h.cons (de_neg de_int) (h.cons (h.gC A.c_FLAT) (h.cons (de_tup (h.cons (h.call (k_lowest A) (h.cons de_str da_nil) (FsN.cons FsN.nil).len) da_nil)) da_nil)))) da_nil)))))
  (dss_cons (h.set (h.add h.var (de_tup (h.cons (de_tup (h.cons de_int (h.cons (h.gC A.c_SO_FAR) (h.cons (de_tup (h.cons (h.gC A.c_MARK) da_nil)) da_nil)))) da_nil))))
  (dss_cons (h.set (h.call (k_do A) (h.cons (de_tup (h.cons de_str (h.cons (h.callK (ks := ["i"]) [0, 1, 5, 3, 4] (k_cell A) bd_cell_1_i (h.cons de_str da_nil) (dk_cons de_int dk_nil) (FsN.cons FsN.nil).len (FsN.cons FsN.nil).len) (h.cons (h.callK (ks := ["i"]) [0, 1, 5, 3, 4] (k_cell A) bd_cell_1_i (h.cons de_str da_nil) (dk_cons de_int dk_nil) (FsN.cons FsN.nil).len (FsN.cons FsN.nil).len) (h.cons (h.callK (ks := ["i"]) [0, 1, 5, 3, 4] (k_cell A) bd_cell_1_i (h.cons de_str da_nil) (dk_cons de_int dk_nil) (FsN.cons FsN.nil).len (FsN.cons FsN.nil).len) da_nil))))) da_nil) (FsN.cons FsN.nil).len))
  (dss_cons (ds_ret (de_tup (h.cons (h.call (k_do A) (h.cons (de_tup (h.cons de_str (h.cons de_int da_nil))) da_nil) (FsN.cons FsN.nil).len) (h.cons (h.callK (ks := []) [0, 1] (k_times_n A) bd_times_n_2 (h.cons (de_tup (h.cons h.var da_nil)) (h.cons h.var da_nil)) dk_nil (FsN.cons (FsN.cons FsN.nil)).len (FsN.nil).len) da_nil))))
  dss_nil))))
noncomputable def q_less_rounds : Fn := fun ds S => lowR (R_less_rounds ds S)
noncomputable abbrev F_less_rounds : Fn := q_less_rounds
theorem w_less_rounds (ds : List D) (S : Sg) (h : ds.length = 0) : Weak S (R_less_rounds ds S) (q_less_rounds ds S) := weak_lowR
theorem k_less_rounds (A : All w K mg) : FnK P w K mg base 2 ⟨"less_rounds", 0, F_less_rounds⟩ := (kr_less_rounds A).weak w_less_rounds
noncomputable def b_signs_to_1 : FS := (sSeq (sAsg (fCallK F_cell [0, 5, 2, 3, 6] [(.int 0), (.int 0), (.int 0), (.int 0)] (fCons (fVar 3) fNil) (fCons (fNeg (fC (.int 1))) (fCons (fC (.int 1)) fNil))) (gNm 4))
  (sSeq (sAsg (fBin dAdd (fVar 1) (fTup (fCons (fCall F_do (fCons (fTup (fCons (fC (.str "mark")) (fCons (fC (.int 0)) fNil))) fNil)) (fCons (fCall F_do (fCons (fTup (fCons (fC (.str "twice")) (fCons (fCallK F_cell [0, 1, 2, 3, 4] [(.int 0), (.int 0), (.int 0), (.int 0)] (fCons (fC (.str "t")) fNil) fNil) (fCons (fVar 4) fNil)))) fNil)) (fCons (fCall F_do (fCons (fTup (fCons (fC (.str "sum")) (fCons (fCallK F_cell [0, 5, 2, 3, 4] [(.int 0), (.int 0), (.int 0), (.int 0)] (fCons (fC (.str "s")) fNil) (fCons (fVar 2) fNil)) (fCons (fC (.tup false [(.str "z"), (.tup false [(.int 0), (.int 0), (.int 0), (.int 0)])])) (fCons (fC (.tup false [(.str "z"), (.tup false [(.int 0), (.int 0), (.int 0), (.int 0)])])) fNil))))) fNil)) fNil))))) (gNm 1))
  sNil))
noncomputable def g_signs_to : FS := (sSeq (sAsg (fTup fNil) (gNm 1))
  (sSeq (sFor (fIt iEnumS (fCons (fVar 0) fNil)) (gTupN [2, 3]) b_signs_to_1)
  (sSeq (sRet (fVar 1))
  sNil)))
noncomputable def R_signs_to : Fn := runF 5 g_signs_to
theorem s_signs_to : FnScope ["letters", "parts", "k", "letter", "last"] ["letters"] (defScope (top 16)) := ⟨rfl, rfl, rfl, by decide +kernel, rfl, by decide +kernel, by decide +kernel⟩
theorem kr_signs_to (A : All w K mg) : FnK P w K mg base 2 ⟨"signs_to", 1, R_signs_to⟩ := by
  obtain ⟨f, fd, hm, F⟩ := A.f_signs_to
  exact fn_in A.fr (He5.fun_of F) s_signs_to hm (FunD.bindsN (ps := ["letters"]) F fun _ _ _ _ _ _ us hl => match us, hl with | [_], _ => rfl) fun X W h =>
  (dss_cons (h.set (de_tup da_nil))
  (dss_cons (h.for_ (h.enumS (h.cons h.var da_nil)) (h.tup (NmTs.mk h (NmTs.mk h NmTs.nil))) (dss_cons (h.set (h.callK (ks := ["c", "m"]) [0, 5, 2, 3, 6] (k_cell A) bd_cell_1_c_m (h.cons h.var da_nil) (dk_cons (de_neg de_int) (dk_cons de_int dk_nil)) (FsN.cons FsN.nil).len (FsN.cons (FsN.cons FsN.nil)).len))
  (dss_cons (h.set (h.add h.var (de_tup (h.cons (h.call (k_do A) (h.cons (de_tup (h.cons de_str (h.cons de_int da_nil))) da_nil) (FsN.cons FsN.nil).len) (h.cons (h.call (k_do A) (h.cons (de_tup (h.cons de_str (h.cons (h.callK (ks := []) [0, 1, 2, 3, 4] (k_cell A) bd_cell_1 (h.cons de_str da_nil) dk_nil (FsN.cons FsN.nil).len (FsN.nil).len) (h.cons h.var da_nil)))) da_nil) (FsN.cons FsN.nil).len) (h.cons (h.call (k_do A) (h.cons (de_tup (h.cons de_str (h.cons (h.callK (ks := ["c"]) [0, 5, 2, 3, 4] (k_cell A) bd_cell_1_c (h.cons de_str da_nil) (dk_cons h.var dk_nil) (FsN.cons FsN.nil).len (FsN.cons FsN.nil).len) (h.cons (h.gC A.c_NAUGHT) (h.cons (h.gC A.c_NAUGHT) da_nil))))) da_nil) (FsN.cons FsN.nil).len) da_nil))))))
  dss_nil)))
  (dss_cons (ds_ret h.var)
  dss_nil)))
noncomputable def q_signs_to : Fn := fun ds S => lowR (R_signs_to ds S)
noncomputable abbrev F_signs_to : Fn := q_signs_to
theorem w_signs_to (ds : List D) (S : Sg) (h : ds.length = 1) : Weak S (R_signs_to ds S) (q_signs_to ds S) := weak_lowR
theorem k_signs_to (A : All w K mg) : FnK P w K mg base 2 ⟨"signs_to", 1, F_signs_to⟩ := (kr_signs_to A).weak w_signs_to
noncomputable def g_over_less : FS := (sSeq (sAsg (fCall F_do (fCons (fTup (fCons (fC (.str "odd")) (fCons (fCallK F_cell [0, 5, 2, 3, 4] [(.int 0), (.int 0), (.int 0), (.int 0)] (fCons (fC (.str "s")) fNil) (fCons (fC (.int 3)) fNil)) (fCons (fCallK F_cell [0, 1, 2, 3, 4] [(.int 0), (.int 0), (.int 0), (.int 0)] (fCons (fC (.str "s")) fNil) fNil) (fCons (fCallK F_cell [0, 5, 2, 3, 4] [(.int 0), (.int 0), (.int 0), (.int 0)] (fCons (fC (.str "s")) fNil) (fCons (fC (.int 1)) fNil)) fNil))))) fNil)) (gNm 1))
  (sSeq (sAsg (fCall F_do (fCons (fTup (fCons (fC (.str "odd")) (fCons (fCallK F_cell [0, 5, 2, 3, 4] [(.int 0), (.int 0), (.int 0), (.int 0)] (fCons (fC (.str "s")) fNil) (fCons (fC (.int 4)) fNil)) (fCons (fCallK F_cell [0, 1, 2, 3, 4] [(.int 0), (.int 0), (.int 0), (.int 0)] (fCons (fC (.str "s")) fNil) fNil) (fCons (fCallK F_cell [0, 5, 2, 3, 4] [(.int 0), (.int 0), (.int 0), (.int 0)] (fCons (fC (.str "s")) fNil) (fCons (fC (.int 2)) fNil)) fNil))))) fNil)) (gNm 2))
  (sSeq (sRet (fTup (fCons (fVar 1) (fCons (fVar 2) (fCons (fCall F_do (fCons (fTup (fCons (fC (.str "both")) (fCons (fCallK F_cell [0, 5, 2, 3, 4] [(.int 0), (.int 0), (.int 0), (.int 0)] (fCons (fC (.str "s")) fNil) (fCons (fVar 0) fNil)) (fCons (fCallK F_cell [0, 5, 2, 3, 4] [(.int 0), (.int 0), (.int 0), (.int 0)] (fCons (fC (.str "s")) fNil) (fCons (fC (.int 3)) fNil)) (fCons (fCallK F_cell [0, 5, 2, 3, 4] [(.int 0), (.int 0), (.int 0), (.int 0)] (fCons (fC (.str "s")) fNil) (fCons (fC (.int 4)) fNil)) fNil))))) fNil)) fNil)))))
  sNil)))
noncomputable def R_over_less : Fn := runF 3 g_over_less
theorem s_over_less : FnScope ["at", "first", "other"] ["at"] (defScope (top 19)) := ⟨rfl, rfl, rfl, by decide +kernel, rfl, by decide +kernel, by decide +kernel⟩
theorem kr_over_less (A : All w K mg) : FnK P w K mg base 2 ⟨"over_less", 1, R_over_less⟩ := by
  obtain ⟨f, fd, hm, F⟩ := A.f_over_less
  exact fn_in A.fr (He5.fun_of F) s_over_less hm (FunD.bindsN (ps := ["at"]) F fun _ _ _ _ _ _ us hl => match us, hl with | [_], _ => rfl) fun X W h =>
  (dss_cons (h.set (h.call (k_do A) (h.cons (de_tup (h.cons de_str (h.cons (h.callK (ks := ["c"]) [0, 5, 2, 3, 4] (k_cell A) bd_cell_1_c (h.cons de_str da_nil) (dk_cons de_int dk_nil) (FsN.cons FsN.nil).len (FsN.cons FsN.nil).len) (h.cons (h.callK (ks := []) [0, 1, 2, 3, 4] (k_cell A) bd_cell_1 (h.cons de_str da_nil) dk_nil (FsN.cons FsN.nil).len (FsN.nil).len) (h.cons (h.callK (ks := ["c"]) [0, 5, 2, 3, 4] (k_cell A) bd_cell_1_c (h.cons de_str da_nil) (dk_cons de_int dk_nil) (FsN.cons FsN.nil).len (FsN.cons FsN.nil).len) da_nil))))) da_nil) (FsN.cons FsN.nil).len))
  (dss_cons (h.set (h.call (k_do A) (h.cons (de_tup (h.cons de_str (h.cons (h.callK (ks := ["c"]) [0, 5, 2, 3, 4] (k_cell A) bd_cell_1_c (h.cons de_str da_nil) (dk_cons de_int dk_nil) (FsN.cons FsN.nil).len (FsN.cons FsN.nil).len) (h.cons (h.callK (ks := []) [0, 1, 2, 3, 4] (k_cell A) bd_cell_1 (h.cons de_str da_nil) dk_nil (FsN.cons FsN.nil).len (FsN.nil).len) (h.cons (h.callK (ks := ["c"]) [0, 5, 2, 3, 4] (k_cell A) bd_cell_1_c (h.cons de_str da_nil) (dk_cons de_int dk_nil) (FsN.cons FsN.nil).len (FsN.cons FsN.nil).len) da_nil))))) da_nil) (FsN.cons FsN.nil).len))
  (dss_cons (ds_ret (de_tup (h.cons h.var (h.cons h.var (h.cons (h.call (k_do A) (h.cons (de_tup (h.cons de_str (h.cons (h.callK (ks := ["c"]) [0, 5, 2, 3, 4] (k_cell A) bd_cell_1_c (h.cons de_str da_nil) (dk_cons h.var dk_nil) (FsN.cons FsN.nil).len (FsN.cons FsN.nil).len) (h.cons (h.callK (ks := ["c"]) [0, 5, 2, 3, 4] (k_cell A) bd_cell_1_c (h.cons de_str da_nil) (dk_cons de_int dk_nil) (FsN.cons FsN.nil).len (FsN.cons FsN.nil).len) (h.cons (h.callK (ks := ["c"]) [0, 5, 2, 3, 4] (k_cell A) bd_cell_1_c (h.cons de_str da_nil) (dk_cons de_int dk_nil) (FsN.cons FsN.nil).len (FsN.cons FsN.nil).len) da_nil))))) da_nil) (FsN.cons FsN.nil).len) da_nil)))))
  dss_nil)))
noncomputable def q_over_less : Fn := fun ds S => lowR (R_over_less ds S)
noncomputable abbrev F_over_less : Fn := q_over_less
theorem w_over_less (ds : List D) (S : Sg) (h : ds.length = 1) : Weak S (R_over_less ds S) (q_over_less ds S) := weak_lowR
theorem k_over_less (A : All w K mg) : FnK P w K mg base 2 ⟨"over_less", 1, F_over_less⟩ := (kr_over_less A).weak w_over_less
noncomputable def g_compare_parts : FS := (sSeq (sAsg (fBin dAdd (fCall F_over_less (fCons (fC (.int 5)) fNil)) (fTup (fCons (fCall F_do (fCons (fTup (fCons (fC (.str "odd")) (fCons (fCallK F_cell [0, 5, 2, 3, 4] [(.int 0), (.int 0), (.int 0), (.int 0)] (fCons (fC (.str "m")) fNil) (fCons (fC (.int 1)) fNil)) (fCons (fCallK F_cell [0, 5, 2, 3, 4] [(.int 0), (.int 0), (.int 0), (.int 0)] (fCons (fC (.str "s")) fNil) (fCons (fC (.int 2)) fNil)) (fCons (fCallK F_cell [0, 5, 2, 3, 4] [(.int 0), (.int 0), (.int 0), (.int 0)] (fCons (fC (.str "s")) fNil) (fCons (fC (.int 5)) fNil)) fNil))))) fNil)) fNil))) (gNm 0))
  (sSeq (sAsg (fCall F_do (fCons (fTup (fCons (fC (.str "any")) (fCons (fCallK F_cell [0, 1, 2, 3, 4] [(.int 0), (.int 0), (.int 0), (.int 0)] (fCons (fC (.str "t")) fNil) fNil) (fCons (fCallK F_cell [0, 1, 2, 3, 4] [(.int 0), (.int 0), (.int 0), (.int 0)] (fCons (fC (.str "t")) fNil) fNil) (fCons (fCallK F_cell [0, 1, 5, 3, 4] [(.int 0), (.int 0), (.int 0), (.int 0)] (fCons (fC (.str "c")) fNil) (fCons (fC (.int 1)) fNil)) fNil))))) fNil)) (gNm 1))
  (sSeq (sAsg (fBin dAdd (fTup (fCons (fCall F_do (fCons (fTup (fCons (fC (.str "set")) (fCons (fCallK F_cell [0, 1, 2, 3, 4] [(.int 0), (.int 0), (.int 0), (.int 0)] (fCons (fC (.str "t")) fNil) fNil) (fCons (fC (.int 0)) fNil)))) fNil)) (fCons (fCallK F_times_n [0, 1] [.non] (fCons (fTup (fCons (fVar 1) fNil)) fNil) fNil) (fCons (fCall F_do (fCons (fTup (fCons (fC (.str "ask")) (fCons (fCallK F_cell [0, 1, 2, 3, 4] [(.int 0), (.int 0), (.int 0), (.int 0)] (fCons (fC (.str "t")) fNil) fNil) fNil))) fNil)) fNil)))) (fCall F_bare_mark_to (fCons (fC (.int 2)) fNil))) (gNm 2))
  (sSeq (sRet (fBin dAdd (fBin dAdd (fBin dAdd (fBin dAdd (fBin dAdd (fCall F_less_rounds fNil) (fCall F_mark_to (fCons (fC (.int 0)) fNil))) (fCall F_signs_to (fCons (fC (.str "abc")) fNil))) (fVar 0)) (fVar 2)) (fTup (fCons (fCall F_do (fCons (fTup (fCons (fC (.str "set")) (fCons (fCallK F_cell [0, 5, 2, 3, 4] [(.int 0), (.int 0), (.int 0), (.int 0)] (fCons (fC (.str "m")) fNil) (fCons (fC (.int 3)) fNil)) (fCons (fC (.int 0)) fNil)))) fNil)) fNil))))
  sNil))))
noncomputable def R_compare_parts : Fn := runF 3 g_compare_parts
theorem s_compare_parts : FnScope ["below", "gather", "alike"] [] (defScope (top 22)) := ⟨rfl, rfl, rfl, by decide +kernel, rfl, by decide +kernel, by decide +kernel⟩
theorem kr_compare_parts (A : All w K mg) : FnK P w K mg base 3 ⟨"compare_parts", 0, R_compare_parts⟩ := by
  obtain ⟨f, fd, hm, F⟩ := A.f_compare_parts
  exact fn_in A.fr (He5.fun_of F) s_compare_parts hm (FunD.bindsN (ps := []) F fun _ _ _ _ _ _ us hl => match us, hl with | [], _ => rfl) fun X W h =>
  (dss_cons (h.set (h.add (h.call (k_over_less A) (h.cons de_int da_nil) (FsN.cons FsN.nil).len) (de_tup (h.cons (h.call (k_do A) (h.cons (de_tup (h.cons de_str (h.cons (h.callK (ks := ["c"]) [0, 5, 2, 3, 4] (k_cell A) bd_cell_1_c (h.cons de_str da_nil) (dk_cons de_int dk_nil) (FsN.cons FsN.nil).len (FsN.cons FsN.nil).len) (h.cons (h.callK (ks := ["c"]) [0, 5, 2, 3, 4] (k_cell A) bd_cell_1_c (h.cons de_str da_nil) (dk_cons de_int dk_nil) (FsN.cons FsN.nil).len (FsN.cons FsN.nil).len) (h.cons (h.callK (ks := ["c"]) [0, 5, 2, 3, 4] (k_cell A) bd_cell_1_c (h.cons de_str da_nil) (dk_cons de_int dk_nil) (FsN.cons FsN.nil).len (FsN.cons FsN.nil).len) da_nil))))) da_nil) (FsN.cons FsN.nil).len) da_nil))))
  (dss_cons (h.set (h.call (k_do A) (h.cons (de_tup (h.cons de_str (h.cons (h.callK (ks := []) [0, 1, 2, 3, 4] (k_cell A) bd_cell_1 (h.cons de_str da_nil) dk_nil (FsN.cons FsN.nil).len (FsN.nil).len) (h.cons (h.callK (ks := []) [0, 1, 2, 3, 4] (k_cell A) bd_cell_1 (h.cons de_str da_nil) dk_nil (FsN.cons FsN.nil).len (FsN.nil).len) (h.cons (h.callK (ks := ["i"]) [0, 1, 5, 3, 4] (k_cell A) bd_cell_1_i (h.cons de_str da_nil) (dk_cons de_int dk_nil) (FsN.cons FsN.nil).len (FsN.cons FsN.nil).len) da_nil))))) da_nil) (FsN.cons FsN.nil).len))
  (dss_cons (h.set (h.add (de_tup (h.cons (h.call (k_do A) (h.cons (de_tup (h.cons de_str (h.cons (h.callK (ks := []) [0, 1, 2, 3, 4] (k_cell A) bd_cell_1 (h.cons de_str da_nil) dk_nil (FsN.cons FsN.nil).len (FsN.nil).len) (h.cons de_int da_nil)))) da_nil) (FsN.cons FsN.nil).len) (h.cons (h.callK (ks := []) [0, 1] (k_times_n A) bd_times_n_1 (h.cons (de_tup (h.cons h.var da_nil)) da_nil) dk_nil (FsN.cons FsN.nil).len (FsN.nil).len) (h.cons (h.call (k_do A) (h.cons (de_tup (h.cons de_str (h.cons (h.callK (ks := []) [0, 1, 2, 3, 4] (k_cell A) bd_cell_1 (h.cons de_str da_nil) dk_nil (FsN.cons FsN.nil).len (FsN.nil).len) da_nil))) da_nil) (FsN.cons FsN.nil).len) da_nil)))) (h.call (k_bare_mark_to A) (h.cons de_int da_nil) (FsN.cons FsN.nil).len)))
  (dss_cons (ds_ret (h.add (h.add (h.add (h.add (h.add (h.call0 (k_less_rounds A)) (h.call (k_mark_to A) (h.cons de_int da_nil) (FsN.cons FsN.nil).len)) (h.call (k_signs_to A) (h.cons de_str da_nil) (FsN.cons FsN.nil).len)) h.var) h.var) (de_tup (h.cons (h.call (k_do A) (h.cons (de_tup (h.cons de_str (h.cons (h.callK (ks := ["c"]) [0, 5, 2, 3, 4] (k_cell A) bd_cell_1_c (h.cons de_str da_nil) (dk_cons de_int dk_nil) (FsN.cons FsN.nil).len (FsN.cons FsN.nil).len) (h.cons de_int da_nil)))) da_nil) (FsN.cons FsN.nil).len) da_nil))))
  dss_nil))))
noncomputable def q_compare_parts : Fn := fun ds S => lowR (R_compare_parts ds S)
noncomputable abbrev F_compare_parts : Fn := q_compare_parts
theorem w_compare_parts (ds : List D) (S : Sg) (h : ds.length = 0) : Weak S (R_compare_parts ds S) (q_compare_parts ds S) := weak_lowR
theorem k_compare_parts (A : All w K mg) : FnK P w K mg base 3 ⟨"compare_parts", 0, F_compare_parts⟩ := (kr_compare_parts A).weak w_compare_parts
noncomputable def g_turned_parts : FS := (sSeq (sAsg (fTup (fCons (fTup (fCons (fNeg (fC (.int 1))) (fCons (fC (.tup false [(.int 0), (.int 0), (.int 0), (.int 0), (.int 0), (.int 0)])) (fCons (fTup (fCons (fCall F_lowest (fCons (fC (.str "a")) fNil)) fNil)) fNil)))) (fCons (fTup (fCons (fNeg (fC (.int 1))) (fCons (fC (.tup false [(.int 0), (.int 0), (.int 0), (.int 0), (.int 0), (.int 0)])) (fCons (fTup (fCons (fCall F_lowest (fCons (fC (.str "c")) fNil)) fNil)) fNil)))) (fCons (fTup (fCons (fC (.int 1)) (fCons (fC (.tup false [(.int 0), (.int 0), (.int 0), (.int 1), (.int 0), (.int 0)])) (fCons (fTup (fCons (fC (.tup false [(.str "mark")])) fNil)) fNil)))) fNil)))) (gNm 0))
  (sSeq (sAsg (fCall F_do (fCons (fTup (fCons (fC (.str "less")) (fCons (fCallK F_cell [0, 1, 5, 3, 4] [(.int 0), (.int 0), (.int 0), (.int 0)] (fCons (fC (.str "c")) fNil) (fCons (fC (.int 1)) fNil)) (fCons (fC (.tup false [(.str "z"), (.tup false [(.int 0), (.int 0), (.int 0), (.int 0)])])) (fCons (fCallK F_cell [0, 1, 5, 3, 4] [(.int 0), (.int 0), (.int 0), (.int 0)] (fCons (fC (.str "a")) fNil) (fCons (fC (.int 1)) fNil)) fNil))))) fNil)) (gNm 1))
  (sSeq (sAsg (fTup (fCons (fCall F_do (fCons (fTup (fCons (fC (.str "both")) (fCons (fCallK F_cell [0, 5, 2, 3, 4] [(.int 0), (.int 0), (.int 0), (.int 0)] (fCons (fC (.str "m")) fNil) (fCons (fC (.int 1)) fNil)) (fCons (fCallK F_cell [0, 1, 2, 3, 4] [(.int 0), (.int 0), (.int 0), (.int 0)] (fCons (fC (.str "s")) fNil) fNil) (fCons (fCallK F_cell [0, 5, 2, 3, 4] [(.int 0), (.int 0), (.int 0), (.int 0)] (fCons (fC (.str "s")) fNil) (fCons (fC (.int 1)) fNil)) fNil))))) fNil)) fNil)) (gNm 2))
  (sSeq (sRet (fBin dAdd (fBin dAdd (fBin dAdd (fBin dAdd (fTup (fCons (fCall F_do (fCons (fTup (fCons (fC (.str "mark")) (fCons (fC (.int 0)) fNil))) fNil)) (fCons (fCallK F_times_n [0, 1] [.non] (fCons (fTup (fCons (fVar 1) fNil)) (fCons (fVar 0) fNil)) fNil) fNil))) (fCall F_mark_to (fCons (fC (.int 0)) fNil))) (fCall F_signs_to (fCons (fC (.str "ac")) fNil))) (fVar 2)) (fCall F_ends (fCons (fC (.str "c")) (fCons (fC (.int 0)) (fCons (fC (.int 1)) fNil))))))
  sNil))))
noncomputable def R_turned_parts : Fn := runF 3 g_turned_parts
theorem s_turned_parts : FnScope ["sentence", "take", "over"] [] (defScope (top 21)) := ⟨rfl, rfl, rfl, by decide +kernel, rfl, by decide +kernel, by decide +kernel⟩
theorem kr_turned_parts (A : All w K mg) : FnK P w K mg base 4 ⟨"turned_parts", 0, R_turned_parts⟩ := by
  obtain ⟨f, fd, hm, F⟩ := A.f_turned_parts
  exact fn_in A.fr (He5.fun_of F) s_turned_parts hm (FunD.bindsN (ps := []) F fun _ _ _ _ _ _ us hl => match us, hl with | [], _ => rfl) fun X W h =>
  (dss_cons (h.set (de_tup (h.cons (de_tup (h.cons (de_neg de_int) (h.cons (h.gC A.c_FLAT) (h.cons (de_tup (h.cons (h.call (k_lowest A) (h.cons de_str da_nil) (FsN.cons FsN.nil).len) da_nil)) da_nil)))) (h.cons (de_tup (h.cons (de_neg de_int) (h.cons (h.gC A.c_FLAT) (h.cons (de_tup (h.cons (h.call (k_lowest A) (h.cons de_str da_nil) (FsN.cons FsN.nil).len) da_nil)) da_nil)))) (h.cons (de_tup (h.cons de_int (h.cons (h.gC A.c_SO_FAR) (h.cons (de_tup (h.cons (h.gC A.c_MARK) da_nil)) da_nil)))) da_nil)))))
  (dss_cons (h.set (h.call (k_do A) (h.cons (de_tup (h.cons de_str (h.cons (h.callK (ks := ["i"]) [0, 1, 5, 3, 4] (k_cell A) bd_cell_1_i (h.cons de_str da_nil) (dk_cons de_int dk_nil) (FsN.cons FsN.nil).len (FsN.cons FsN.nil).len) (h.cons (h.gC A.c_NAUGHT) (h.cons (h.callK (ks := ["i"]) [0, 1, 5, 3, 4] (k_cell A) bd_cell_1_i (h.cons de_str da_nil) (dk_cons de_int dk_nil) (FsN.cons FsN.nil).len (FsN.cons FsN.nil).len) da_nil))))) da_nil) (FsN.cons FsN.nil).len))
  (dss_cons (h.set (de_tup (h.cons (h.call (k_do A) (h.cons (de_tup (h.cons de_str (h.cons (h.callK (ks := ["c"]) [0, 5, 2, 3, 4] (k_cell A) bd_cell_1_c (h.cons de_str da_nil) (dk_cons de_int dk_nil) (FsN.cons FsN.nil).len (FsN.cons FsN.nil).len) (h.cons (h.callK (ks := []) [0, 1, 2, 3, 4] (k_cell A) bd_cell_1 (h.cons de_str da_nil) dk_nil (FsN.cons FsN.nil).len (FsN.nil).len) (h.cons (h.callK (ks := ["c"]) [0, 5, 2, 3, 4] (k_cell A) bd_cell_1_c (h.cons de_str da_nil) (dk_cons de_int dk_nil) (FsN.cons FsN.nil).len (FsN.cons FsN.nil).len) da_nil))))) da_nil) (FsN.cons FsN.nil).len) da_nil)))
  (dss_cons (ds_ret (h.add (h.add (h.add (h.add (de_tup (h.cons (h.call (k_do A) (h.cons (de_tup (h.cons de_str (h.cons de_int da_nil))) da_nil) (FsN.cons FsN.nil).len) (h.cons (h.callK (ks := []) [0, 1] (k_times_n A) bd_times_n_2 (h.cons (de_tup (h.cons h.var da_nil)) (h.cons h.var da_nil)) dk_nil (FsN.cons (FsN.cons FsN.nil)).len (FsN.nil).len) da_nil))) (h.call (k_mark_to A) (h.cons de_int da_nil) (FsN.cons FsN.nil).len)) (h.call (k_signs_to A) (h.cons de_str da_nil) (FsN.cons FsN.nil).len)) h.var) (h.call (k_ends A) (h.cons de_str (h.cons de_int (h.cons de_int da_nil))) (FsN.cons (FsN.cons (FsN.cons FsN.nil))).len)))
  dss_nil))))
noncomputable def q_turned_parts : Fn := fun ds S => lowR (R_turned_parts ds S)
noncomputable abbrev F_turned_parts : Fn := q_turned_parts
theorem w_turned_parts (ds : List D) (S : Sg) (h : ds.length = 0) : Weak S (R_turned_parts ds S) (q_turned_parts ds S) := weak_lowR
theorem k_turned_parts (A : All w K mg) : FnK P w K mg base 4 ⟨"turned_parts", 0, F_turned_parts⟩ := (kr_turned_parts A).weak w_turned_parts
noncomputable def g_difference_parts : FS := (sSeq (sAsg (fBin dAdd (fCall F_over_less (fCons (fC (.int 5)) fNil)) (fTup (fCons (fCall F_do (fCons (fTup (fCons (fC (.str "move")) (fCons (fCallK F_cell [0, 5, 2, 3, 4] [(.int 0), (.int 0), (.int 0), (.int 0)] (fCons (fC (.str "m")) fNil) (fCons (fC (.int 1)) fNil)) (fCons (fCallK F_cell [0, 5, 2, 3, 4] [(.int 0), (.int 0), (.int 0), (.int 0)] (fCons (fC (.str "s")) fNil) (fCons (fC (.int 5)) fNil)) fNil)))) fNil)) fNil))) (gNm 0))
  (sSeq (sRet (fBin dAdd (fBin dAdd (fBin dAdd (fBin dAdd (fCall F_less_rounds fNil) (fCall F_mark_to (fCons (fC (.int 0)) fNil))) (fCall F_signs_to (fCons (fC (.str "abc")) fNil))) (fVar 0)) (fCall F_ends (fCons (fC (.str "c")) (fCons (fC (.int 0)) (fCons (fC (.int 1)) fNil))))))
  sNil))
noncomputable def R_difference_parts : Fn := runF 1 g_difference_parts
theorem s_difference_parts : FnScope ["over"] [] (defScope (top 20)) := ⟨rfl, rfl, rfl, by decide +kernel, rfl, by decide +kernel, by decide +kernel⟩
theorem kr_difference_parts (A : All w K mg) : FnK P w K mg base 4 ⟨"difference_parts", 0, R_difference_parts⟩ := by
  obtain ⟨f, fd, hm, F⟩ := A.f_difference_parts
  exact fn_in A.fr (He5.fun_of F) s_difference_parts hm (FunD.bindsN (ps := []) F fun _ _ _ _ _ _ us hl => match us, hl with | [], _ => rfl) fun X W h =>
  (dss_cons (h.set (h.add (h.call (k_over_less A) (h.cons de_int da_nil) (FsN.cons FsN.nil).len) (de_tup (h.cons (h.call (k_do A) (h.cons (de_tup (h.cons de_str (h.cons (h.callK (ks := ["c"]) [0, 5, 2, 3, 4] (k_cell A) bd_cell_1_c (h.cons de_str da_nil) (dk_cons de_int dk_nil) (FsN.cons FsN.nil).len (FsN.cons FsN.nil).len) (h.cons (h.callK (ks := ["c"]) [0, 5, 2, 3, 4] (k_cell A) bd_cell_1_c (h.cons de_str da_nil) (dk_cons de_int dk_nil) (FsN.cons FsN.nil).len (FsN.cons FsN.nil).len) da_nil)))) da_nil) (FsN.cons FsN.nil).len) da_nil))))
  (dss_cons (ds_ret (h.add (h.add (h.add (h.add (h.call0 (k_less_rounds A)) (h.call (k_mark_to A) (h.cons de_int da_nil) (FsN.cons FsN.nil).len)) (h.call (k_signs_to A) (h.cons de_str da_nil) (FsN.cons FsN.nil).len)) h.var) (h.call (k_ends A) (h.cons de_str (h.cons de_int (h.cons de_int da_nil))) (FsN.cons (FsN.cons (FsN.cons FsN.nil))).len)))
  dss_nil))
noncomputable def q_difference_parts : Fn := fun ds S => lowR (R_difference_parts ds S)
noncomputable abbrev F_difference_parts : Fn := q_difference_parts
theorem w_difference_parts (ds : List D) (S : Sg) (h : ds.length = 0) : Weak S (R_difference_parts ds S) (q_difference_parts ds S) := weak_lowR
theorem k_difference_parts (A : All w K mg) : FnK P w K mg base 4 ⟨"difference_parts", 0, F_difference_parts⟩ := (kr_difference_parts A).weak w_difference_parts
noncomputable def g_sum_parts : FS := (sSeq (sAsg (fTup (fCons (fTup (fCons (fC (.int 1)) (fCons (fC (.tup false [(.int 0), (.int 0), (.int 0), (.int 0), (.int 0), (.int 0)])) (fCons (fTup (fCons (fCall F_lowest (fCons (fC (.str "a")) fNil)) fNil)) fNil)))) (fCons (fTup (fCons (fC (.int 1)) (fCons (fC (.tup false [(.int 0), (.int 0), (.int 0), (.int 0), (.int 0), (.int 0)])) (fCons (fTup (fCons (fCall F_lowest (fCons (fC (.str "b")) fNil)) fNil)) fNil)))) (fCons (fTup (fCons (fNeg (fC (.int 1))) (fCons (fC (.tup false [(.int 0), (.int 0), (.int 0), (.int 0), (.int 0), (.int 0)])) (fCons (fTup (fCons (fCall F_lowest (fCons (fC (.str "c")) fNil)) fNil)) fNil)))) fNil)))) (gNm 0))
  (sSeq (sAsg (fBin dAdd (fVar 0) (fTup (fCons (fTup (fCons (fNeg (fC (.int 1))) (fCons (fC (.tup false [(.int 0), (.int 0), (.int 0), (.int 1), (.int 0), (.int 0)])) (fCons (fTup (fCons (fC (.tup false [(.str "mark")])) fNil)) fNil)))) fNil))) (gNm 1))
  (sSeq (sAsg (fCall F_do (fCons (fTup (fCons (fC (.str "sum")) (fCons (fCallK F_cell [0, 1, 5, 3, 4] [(.int 0), (.int 0), (.int 0), (.int 0)] (fCons (fC (.str "c")) fNil) (fCons (fC (.int 1)) fNil)) (fCons (fCallK F_cell [0, 1, 5, 3, 4] [(.int 0), (.int 0), (.int 0), (.int 0)] (fCons (fC (.str "a")) fNil) (fCons (fC (.int 1)) fNil)) (fCons (fCallK F_cell [0, 1, 5, 3, 4] [(.int 0), (.int 0), (.int 0), (.int 0)] (fCons (fC (.str "b")) fNil) (fCons (fC (.int 1)) fNil)) fNil))))) fNil)) (gNm 2))
  (sSeq (sAsg (fCall F_do (fCons (fTup (fCons (fC (.str "odd")) (fCons (fCallK F_cell [0, 5, 2, 3, 4] [(.int 0), (.int 0), (.int 0), (.int 0)] (fCons (fC (.str "s")) fNil) (fCons (fC (.int 3)) fNil)) (fCons (fCallK F_cell [0, 1, 2, 3, 4] [(.int 0), (.int 0), (.int 0), (.int 0)] (fCons (fC (.str "s")) fNil) fNil) (fCons (fCallK F_cell [0, 5, 2, 3, 4] [(.int 0), (.int 0), (.int 0), (.int 0)] (fCons (fC (.str "s")) fNil) (fCons (fC (.int 2)) fNil)) fNil))))) fNil)) (gNm 3))
  (sSeq (sAsg (fCall F_do (fCons (fTup (fCons (fC (.str "odd")) (fCons (fCallK F_cell [0, 5, 2, 3, 4] [(.int 0), (.int 0), (.int 0), (.int 0)] (fCons (fC (.str "s")) fNil) (fCons (fC (.int 4)) fNil)) (fCons (fCallK F_cell [0, 5, 2, 3, 4] [(.int 0), (.int 0), (.int 0), (.int 0)] (fCons (fC (.str "s")) fNil) (fCons (fC (.int 1)) fNil)) (fCons (fCallK F_cell [0, 5, 2, 3, 4] [(.int 0), (.int 0), (.int 0), (.int 0)] (fCons (fC (.str "s")) fNil) (fCons (fC (.int 2)) fNil)) fNil))))) fNil)) (gNm 4))
  (sSeq (sAsg (fTup (fCons (fVar 3) (fCons (fVar 4) (fCons (fCall F_do (fCons (fTup (fCons (fC (.str "both")) (fCons (fCallK F_cell [0, 5, 2, 3, 4] [(.int 0), (.int 0), (.int 0), (.int 0)] (fCons (fC (.str "m")) fNil) (fCons (fC (.int 1)) fNil)) (fCons (fCallK F_cell [0, 5, 2, 3, 4] [(.int 0), (.int 0), (.int 0), (.int 0)] (fCons (fC (.str "s")) fNil) (fCons (fC (.int 3)) fNil)) (fCons (fCallK F_cell [0, 5, 2, 3, 4] [(.int 0), (.int 0), (.int 0), (.int 0)] (fCons (fC (.str "s")) fNil) (fCons (fC (.int 4)) fNil)) fNil))))) fNil)) fNil)))) (gNm 5))
  (sSeq (sRet (fBin dAdd (fBin dAdd (fBin dAdd (fBin dAdd (fTup (fCons (fCall F_do (fCons (fTup (fCons (fC (.str "mark")) (fCons (fC (.int 0)) fNil))) fNil)) (fCons (fCallK F_times_n [0, 1] [.non] (fCons (fTup (fCons (fVar 2) fNil)) (fCons (fVar 1) fNil)) fNil) fNil))) (fCall F_mark_to (fCons (fC (.int 0)) fNil))) (fCall F_signs_to (fCons (fC (.str "abc")) fNil))) (fVar 5)) (fCall F_ends (fCons (fC (.str "c")) (fCons (fC (.int 0)) (fCons (fC (.int 1)) fNil))))))
  sNil)))))))
noncomputable def R_sum_parts : Fn := runF 6 g_sum_parts
theorem s_sum_parts : FnScope ["both_sides", "sentence", "add", "first", "other", "over"] [] (defScope (top 17)) := ⟨rfl, rfl, rfl, by decide +kernel, rfl, by decide +kernel, by decide +kernel⟩
theorem kr_sum_parts (A : All w K mg) : FnK P w K mg base 4 ⟨"sum_parts", 0, R_sum_parts⟩ := by
  obtain ⟨f, fd, hm, F⟩ := A.f_sum_parts
  exact fn_in A.fr (He5.fun_of F) s_sum_parts hm (FunD.bindsN (ps := []) F fun _ _ _ _ _ _ us hl => match us, hl with | [], _ => rfl) fun X W h =>
  (dss_cons (h.set (de_tup (h.cons (de_tup (h.cons de_int (h.cons (h.gC A.c_FLAT) (h.cons (de_tup (h.cons (h.call (k_lowest A) (h.cons de_str da_nil) (FsN.cons FsN.nil).len) da_nil)) da_nil)))) (h.cons (de_tup (h.cons de_int (h.cons (h.gC A.c_FLAT) (h.cons (de_tup (h.cons (h.call (k_lowest A) (h.cons de_str da_nil) (FsN.cons FsN.nil).len) da_nil)) da_nil)))) (h.cons (de_tup (h.cons (de_neg de_int) (h.cons (h.gC A.c_FLAT) (h.cons (de_tup (h.cons (h.call (k_lowest A) (h.cons de_str da_nil) (FsN.cons FsN.nil).len) da_nil)) da_nil)))) da_nil)))))
  (dss_cons (h.set (h.add h.var (de_tup (h.cons (de_tup (h.cons (de_neg de_int) (h.cons (h.gC A.c_SO_FAR) (h.cons (de_tup (h.cons (h.gC A.c_MARK) da_nil)) da_nil)))) da_nil))))
  (dss_cons (h.set (h.call (k_do A) (h.cons (de_tup (h.cons de_str (h.cons (h.callK (ks := ["i"]) [0, 1, 5, 3, 4] (k_cell A) bd_cell_1_i (h.cons de_str da_nil) (dk_cons de_int dk_nil) (FsN.cons FsN.nil).len (FsN.cons FsN.nil).len) (h.cons (h.callK (ks := ["i"]) [0, 1, 5, 3, 4] (k_cell A) bd_cell_1_i (h.cons de_str da_nil) (dk_cons de_int dk_nil) (FsN.cons FsN.nil).len (FsN.cons FsN.nil).len) (h.cons (h.callK (ks := ["i"]) [0, 1, 5, 3, 4] (k_cell A) bd_cell_1_i (h.cons de_str da_nil) (dk_cons de_int dk_nil) (FsN.cons FsN.nil).len (FsN.cons FsN.nil).len) da_nil))))) da_nil) (FsN.cons FsN.nil).len))
  (dss_cons (h.set (h.call (k_do A) (h.cons (de_tup (h.cons de_str (h.cons (h.callK (ks := ["c"]) [0, 5, 2, 3, 4] (k_cell A) bd_cell_1_c (h.cons de_str da_nil) (dk_cons de_int dk_nil) (FsN.cons FsN.nil).len (FsN.cons FsN.nil).len) (h.cons (h.callK (ks := []) [0, 1, 2, 3, 4] (k_cell A) bd_cell_1 (h.cons de_str da_nil) dk_nil (FsN.cons FsN.nil).len (FsN.nil).len) (h.cons (h.callK (ks := ["c"]) [0, 5, 2, 3, 4] (k_cell A) bd_cell_1_c (h.cons de_str da_nil) (dk_cons de_int dk_nil) (FsN.cons FsN.nil).len (FsN.cons FsN.nil).len) da_nil))))) da_nil) (FsN.cons FsN.nil).len))
  (dss_cons (h.set (h.call (k_do A) (h.cons (de_tup (h.cons de_str (h.cons (h.callK (ks := ["c"]) [0, 5, 2, 3, 4] (k_cell A) bd_cell_1_c (h.cons de_str da_nil) (dk_cons de_int dk_nil) (FsN.cons FsN.nil).len (FsN.cons FsN.nil).len) (h.cons (h.callK (ks := ["c"]) [0, 5, 2, 3, 4] (k_cell A) bd_cell_1_c (h.cons de_str da_nil) (dk_cons de_int dk_nil) (FsN.cons FsN.nil).len (FsN.cons FsN.nil).len) (h.cons (h.callK (ks := ["c"]) [0, 5, 2, 3, 4] (k_cell A) bd_cell_1_c (h.cons de_str da_nil) (dk_cons de_int dk_nil) (FsN.cons FsN.nil).len (FsN.cons FsN.nil).len) da_nil))))) da_nil) (FsN.cons FsN.nil).len))
  (dss_cons (h.set (de_tup (h.cons h.var (h.cons h.var (h.cons (h.call (k_do A) (h.cons (de_tup (h.cons de_str (h.cons (h.callK (ks := ["c"]) [0, 5, 2, 3, 4] (k_cell A) bd_cell_1_c (h.cons de_str da_nil) (dk_cons de_int dk_nil) (FsN.cons FsN.nil).len (FsN.cons FsN.nil).len) (h.cons (h.callK (ks := ["c"]) [0, 5, 2, 3, 4] (k_cell A) bd_cell_1_c (h.cons de_str da_nil) (dk_cons de_int dk_nil) (FsN.cons FsN.nil).len (FsN.cons FsN.nil).len) (h.cons (h.callK (ks := ["c"]) [0, 5, 2, 3, 4] (k_cell A) bd_cell_1_c (h.cons de_str da_nil) (dk_cons de_int dk_nil) (FsN.cons FsN.nil).len (FsN.cons FsN.nil).len) da_nil))))) da_nil) (FsN.cons FsN.nil).len) da_nil)))))
  (dss_cons (ds_ret (h.add (h.add (h.add (h.add (de_tup (h.cons (h.call (k_do A) (h.cons (de_tup (h.cons de_str (h.cons de_int da_nil))) da_nil) (FsN.cons FsN.nil).len) (h.cons (h.callK (ks := []) [0, 1] (k_times_n A) bd_times_n_2 (h.cons (de_tup (h.cons h.var da_nil)) (h.cons h.var da_nil)) dk_nil (FsN.cons (FsN.cons FsN.nil)).len (FsN.nil).len) da_nil))) (h.call (k_mark_to A) (h.cons de_int da_nil) (FsN.cons FsN.nil).len)) (h.call (k_signs_to A) (h.cons de_str da_nil) (FsN.cons FsN.nil).len)) h.var) (h.call (k_ends A) (h.cons de_str (h.cons de_int (h.cons de_int da_nil))) (FsN.cons (FsN.cons (FsN.cons FsN.nil))).len)))
  dss_nil)))))))
noncomputable def q_sum_parts : Fn := fun ds S => lowR (R_sum_parts ds S)
noncomputable abbrev F_sum_parts : Fn := q_sum_parts
theorem w_sum_parts (ds : List D) (S : Sg) (h : ds.length = 0) : Weak S (R_sum_parts ds S) (q_sum_parts ds S) := weak_lowR
theorem k_sum_parts (A : All w K mg) : FnK P w K mg base 4 ⟨"sum_parts", 0, F_sum_parts⟩ := (kr_sum_parts A).weak w_sum_parts
noncomputable def g_twos_parts : FS := (sSeq (sAsg (fCall F_do (fCons (fTup (fCons (fVar 0) (fCons (fCallK F_cell [0, 1, 5, 3, 4] [(.int 0), (.int 0), (.int 0), (.int 0)] (fCons (fC (.str "c")) fNil) (fCons (fC (.int 1)) fNil)) (fCons (fCallK F_cell [0, 1, 5, 3, 4] [(.int 0), (.int 0), (.int 0), (.int 0)] (fCons (fC (.str "a")) fNil) (fCons (fC (.int 1)) fNil)) (fCons (fCallK F_cell [0, 1, 5, 3, 4] [(.int 0), (.int 0), (.int 0), (.int 0)] (fCons (fC (.str "b")) fNil) (fCons (fC (.int 1)) fNil)) fNil))))) fNil)) (gNm 1))
  (sSeq (sRet (fBin dAdd (fBin dAdd (fTup (fCons (fCallK F_times_n [0, 1] [.non] (fCons (fTup (fCons (fVar 1) fNil)) fNil) fNil) fNil)) (fCall F_no_marks fNil)) (fCall F_ends (fCons (fC (.str "c")) (fCons (fC (.int 0)) (fCons (fC (.int 1)) fNil))))))
  sNil))
noncomputable def R_twos_parts : Fn := runF 2 g_twos_parts
theorem s_twos_parts : FnScope ["word", "go"] ["word"] (defScope (top 24)) := ⟨rfl, rfl, rfl, by decide +kernel, rfl, by decide +kernel, by decide +kernel⟩
theorem kr_twos_parts (A : All w K mg) : FnK P w K mg base 4 ⟨"twos_parts", 1, R_twos_parts⟩ := by
  obtain ⟨f, fd, hm, F⟩ := A.f_twos_parts
  exact fn_in A.fr (He5.fun_of F) s_twos_parts hm (FunD.bindsN (ps := ["word"]) F fun _ _ _ _ _ _ us hl => match us, hl with | [_], _ => rfl) fun X W h =>
  (dss_cons (h.set (h.call (k_do A) (h.cons (de_tup (h.cons h.var (h.cons (h.callK (ks := ["i"]) [0, 1, 5, 3, 4] (k_cell A) bd_cell_1_i (h.cons de_str da_nil) (dk_cons de_int dk_nil) (FsN.cons FsN.nil).len (FsN.cons FsN.nil).len) (h.cons (h.callK (ks := ["i"]) [0, 1, 5, 3, 4] (k_cell A) bd_cell_1_i (h.cons de_str da_nil) (dk_cons de_int dk_nil) (FsN.cons FsN.nil).len (FsN.cons FsN.nil).len) (h.cons (h.callK (ks := ["i"]) [0, 1, 5, 3, 4] (k_cell A) bd_cell_1_i (h.cons de_str da_nil) (dk_cons de_int dk_nil) (FsN.cons FsN.nil).len (FsN.cons FsN.nil).len) da_nil))))) da_nil) (FsN.cons FsN.nil).len))
  (dss_cons (ds_ret (h.add (h.add (de_tup (h.cons (h.callK (ks := []) [0, 1] (k_times_n A) bd_times_n_1 (h.cons (de_tup (h.cons h.var da_nil)) da_nil) dk_nil (FsN.cons FsN.nil).len (FsN.nil).len) da_nil)) (h.call0 (k_no_marks A))) (h.call (k_ends A) (h.cons de_str (h.cons de_int (h.cons de_int da_nil))) (FsN.cons (FsN.cons (FsN.cons FsN.nil))).len)))
  dss_nil))
noncomputable def q_twos_parts : Fn := fun ds S => lowR (R_twos_parts ds S)
noncomputable abbrev F_twos_parts : Fn := q_twos_parts
theorem w_twos_parts (ds : List D) (S : Sg) (h : ds.length = 1) : Weak S (R_twos_parts ds S) (q_twos_parts ds S) := weak_lowR
theorem k_twos_parts (A : All w K mg) : FnK P w K mg base 4 ⟨"twos_parts", 1, F_twos_parts⟩ := (kr_twos_parts A).weak w_twos_parts
noncomputable def g_copied : FS := (sSeq (sAsg (fTup (fCons (fTup (fCons (fC (.int 1)) (fCons (fC (.tup false [(.int 0), (.int 0), (.int 0), (.int 0), (.int 0), (.int 0)])) (fCons (fTup (fCons (fCall F_lowest (fCons (fC (.str "a")) fNil)) fNil)) fNil)))) (fCons (fTup (fCons (fNeg (fC (.int 1))) (fCons (fC (.tup false [(.int 0), (.int 0), (.int 0), (.int 0), (.int 0), (.int 0)])) (fCons (fTup (fCons (fCall F_lowest (fCons (fC (.str "c")) fNil)) fNil)) fNil)))) fNil))) (gNm 0))
  (sSeq (sRet (fTup (fCons (fCallK F_times_n [0, 1] [.non] (fCons (fTup (fCons (fCall F_do (fCons (fTup (fCons (fC (.str "move")) (fCons (fCallK F_cell [0, 1, 5, 3, 4] [(.int 0), (.int 0), (.int 0), (.int 0)] (fCons (fC (.str "c")) fNil) (fCons (fC (.int 1)) fNil)) (fCons (fCallK F_cell [0, 1, 5, 3, 4] [(.int 0), (.int 0), (.int 0), (.int 0)] (fCons (fC (.str "a")) fNil) (fCons (fC (.int 1)) fNil)) fNil)))) fNil)) fNil)) (fCons (fVar 0) fNil)) fNil) fNil)))
  sNil))
noncomputable def R_copied : Fn := runF 1 g_copied
theorem s_copied : FnScope ["sentence"] [] (defScope (top 62)) := ⟨rfl, rfl, rfl, by decide +kernel, rfl, by decide +kernel, by decide +kernel⟩
theorem kr_copied (A : All w K mg) : FnK P w K mg base 2 ⟨"copied", 0, R_copied⟩ := by
  obtain ⟨f, fd, hm, F⟩ := A.f_copied
  exact fn_in A.fr (He5.fun_of F) s_copied hm (FunD.bindsN (ps := []) F fun _ _ _ _ _ _ us hl => match us, hl with | [], _ => rfl) fun X W h =>
  (dss_cons (h.set (de_tup (h.cons (de_tup (h.cons de_int (h.cons (h.gC A.c_FLAT) (h.cons (de_tup (h.cons (h.call (k_lowest A) (h.cons de_str da_nil) (FsN.cons FsN.nil).len) da_nil)) da_nil)))) (h.cons (de_tup (h.cons (de_neg de_int) (h.cons (h.gC A.c_FLAT) (h.cons (de_tup (h.cons (h.call (k_lowest A) (h.cons de_str da_nil) (FsN.cons FsN.nil).len) da_nil)) da_nil)))) da_nil))))
  (dss_cons (ds_ret (de_tup (h.cons (h.callK (ks := []) [0, 1] (k_times_n A) bd_times_n_2 (h.cons (de_tup (h.cons (h.call (k_do A) (h.cons (de_tup (h.cons de_str (h.cons (h.callK (ks := ["i"]) [0, 1, 5, 3, 4] (k_cell A) bd_cell_1_i (h.cons de_str da_nil) (dk_cons de_int dk_nil) (FsN.cons FsN.nil).len (FsN.cons FsN.nil).len) (h.cons (h.callK (ks := ["i"]) [0, 1, 5, 3, 4] (k_cell A) bd_cell_1_i (h.cons de_str da_nil) (dk_cons de_int dk_nil) (FsN.cons FsN.nil).len (FsN.cons FsN.nil).len) da_nil)))) da_nil) (FsN.cons FsN.nil).len) da_nil)) (h.cons h.var da_nil)) dk_nil (FsN.cons (FsN.cons FsN.nil)).len (FsN.nil).len) da_nil)))
  dss_nil))
noncomputable def q_copied : Fn := fun ds S => lowR (R_copied ds S)
noncomputable abbrev F_copied : Fn := q_copied
theorem w_copied (ds : List D) (S : Sg) (h : ds.length = 0) : Weak S (R_copied ds S) (q_copied ds S) := weak_lowR
theorem k_copied (A : All w K mg) : FnK P w K mg base 2 ⟨"copied", 0, F_copied⟩ := (kr_copied A).weak w_copied
noncomputable def g_ahead_of_round : FS := (sSeq (sIf (fOr (fB (fBin dEq (fVar 0) (fC (.str "down")))) (fB (fBin dEq (fVar 0) (fC (.str "roll"))))) (sSeq (sRet (fTup (fCons (fCall F_do (fCons (fC (.tup false [(.str "twice"), (.tup false [(.str "t"), (.tup false [(.int 0), (.int 0), (.int 0), (.int 0)])]), (.tup false [(.str "c"), (.tup false [(.int (-1)), (.int 0), (.int 0), (.int 1)])])])) fNil)) fNil)))
  sNil) sNil)
  (sSeq (sRet (fTup (fCons (fCall F_do (fCons (fTup (fCons (fC (.str "mark")) (fCons (fC (.int 0)) fNil))) fNil)) fNil)))
  sNil))
noncomputable def R_ahead_of_round : Fn := runF 1 g_ahead_of_round
theorem s_ahead_of_round : FnScope ["word"] ["word"] (defScope (top 63)) := ⟨rfl, rfl, rfl, by decide +kernel, rfl, by decide +kernel, by decide +kernel⟩
theorem kr_ahead_of_round (A : All w K mg) : FnK P w K mg base 2 ⟨"ahead_of_round", 1, R_ahead_of_round⟩ := by
  obtain ⟨f, fd, hm, F⟩ := A.f_ahead_of_round
  exact fn_in A.fr (He5.fun_of F) s_ahead_of_round hm (FunD.bindsN (ps := ["word"]) F fun _ _ _ _ _ _ us hl => match us, hl with | [_], _ => rfl) fun X W h =>
  (dss_cons (ds_if (DW.dt (dw_or (h.eq.tv h.var de_str) (dw_or1 (h.eq.tv h.var de_str)))) (dss_cons (ds_ret (de_tup (h.cons (h.call (k_do A) (h.cons (h.gC A.c_HIGHEST) da_nil) (FsN.cons FsN.nil).len) da_nil)))
  dss_nil) dss_nil)
  (dss_cons (ds_ret (de_tup (h.cons (h.call (k_do A) (h.cons (de_tup (h.cons de_str (h.cons de_int da_nil))) da_nil) (FsN.cons FsN.nil).len) da_nil)))
  dss_nil))
noncomputable def q_ahead_of_round : Fn := fun ds S => lowR (R_ahead_of_round ds S)
noncomputable abbrev F_ahead_of_round : Fn := q_ahead_of_round
theorem w_ahead_of_round (ds : List D) (S : Sg) (h : ds.length = 1) : Weak S (R_ahead_of_round ds S) (q_ahead_of_round ds S) := weak_lowR
theorem k_ahead_of_round (A : All w K mg) : FnK P w K mg base 2 ⟨"ahead_of_round", 1, F_ahead_of_round⟩ := (kr_ahead_of_round A).weak w_ahead_of_round
noncomputable def g_one_place : FS := (sSeq (sIf (fOr (fB (fBin dEq (fVar 0) (fC (.str "left")))) (fB (fBin dEq (fVar 0) (fC (.str "roll"))))) (sSeq (sRet (fCallK F_times_n [0, 1] [.non] (fCons (fTup (fCons (fCall F_do (fCons (fTup (fCons (fC (.str "twice")) (fCons (fCallK F_cell [0, 1, 2, 5, 4] [(.int 0), (.int 0), (.int 0), (.int 0)] (fCons (fC (.str "c")) fNil) (fCons (fC (.int 1)) fNil)) (fCons (fCallK F_cell [0, 1, 2, 5, 4] [(.int 0), (.int 0), (.int 0), (.int 0)] (fCons (fC (.str "c")) fNil) (fCons (fC (.int 1)) fNil)) fNil)))) fNil)) fNil)) fNil) fNil))
  sNil) sNil)
  (sSeq (sAsg (fCallK F_cell [0, 5, 2, 6, 7] [(.int 0), (.int 0), (.int 0), (.int 0)] (fCons (fC (.str "c")) fNil) (fCons (fNeg (fC (.int 1))) (fCons (fNeg (fC (.int 1))) (fCons (fC (.int 1)) fNil)))) (gNm 1))
  (sSeq (sRet (fCallK F_times_n [0, 1] [.non] (fCons (fTup (fCons (fCall F_do (fCons (fTup (fCons (fC (.str "half")) (fCons (fVar 1) (fCons (fVar 1) fNil)))) fNil)) fNil)) fNil) fNil))
  sNil)))
noncomputable def R_one_place : Fn := runF 2 g_one_place
theorem s_one_place : FnScope ["word", "from_top"] ["word"] (defScope (top 64)) := ⟨rfl, rfl, rfl, by decide +kernel, rfl, by decide +kernel, by decide +kernel⟩
theorem kr_one_place (A : All w K mg) : FnK P w K mg base 2 ⟨"one_place", 1, R_one_place⟩ := by
  obtain ⟨f, fd, hm, F⟩ := A.f_one_place
  exact fn_in A.fr (He5.fun_of F) s_one_place hm (FunD.bindsN (ps := ["word"]) F fun _ _ _ _ _ _ us hl => match us, hl with | [_], _ => rfl) fun X W h =>
  (dss_cons (ds_if (DW.dt (dw_or (h.eq.tv h.var de_str) (dw_or1 (h.eq.tv h.var de_str)))) (dss_cons (ds_ret (h.callK (ks := []) [0, 1] (k_times_n A) bd_times_n_1 (h.cons (de_tup (h.cons (h.call (k_do A) (h.cons (de_tup (h.cons de_str (h.cons (h.callK (ks := ["j"]) [0, 1, 2, 5, 4] (k_cell A) bd_cell_1_j (h.cons de_str da_nil) (dk_cons de_int dk_nil) (FsN.cons FsN.nil).len (FsN.cons FsN.nil).len) (h.cons (h.callK (ks := ["j"]) [0, 1, 2, 5, 4] (k_cell A) bd_cell_1_j (h.cons de_str da_nil) (dk_cons de_int dk_nil) (FsN.cons FsN.nil).len (FsN.cons FsN.nil).len) da_nil)))) da_nil) (FsN.cons FsN.nil).len) da_nil)) da_nil) dk_nil (FsN.cons FsN.nil).len (FsN.nil).len))
  dss_nil) dss_nil)
  (dss_cons (h.set (h.callK (ks := ["c", "j", "m"]) [0, 5, 2, 6, 7] (k_cell A) bd_cell_1_c_j_m (h.cons de_str da_nil) (dk_cons (de_neg de_int) (dk_cons (de_neg de_int) (dk_cons de_int dk_nil))) (FsN.cons FsN.nil).len (FsN.cons (FsN.cons (FsN.cons FsN.nil))).len))
  (dss_cons (ds_ret (h.callK (ks := []) [0, 1] (k_times_n A) bd_times_n_1 (h.cons (de_tup (h.cons (h.call (k_do A) (h.cons (de_tup (h.cons de_str (h.cons h.var (h.cons h.var da_nil)))) da_nil) (FsN.cons FsN.nil).len) da_nil)) da_nil) dk_nil (FsN.cons FsN.nil).len (FsN.nil).len))
  dss_nil)))
noncomputable def q_one_place : Fn := fun ds S => lowR (R_one_place ds S)
noncomputable abbrev F_one_place : Fn := q_one_place
theorem w_one_place (ds : List D) (S : Sg) (h : ds.length = 1) : Weak S (R_one_place ds S) (q_one_place ds S) := weak_lowR
theorem k_one_place (A : All w K mg) : FnK P w K mg base 2 ⟨"one_place", 1, F_one_place⟩ := (kr_one_place A).weak w_one_place
noncomputable def g_shift_parts : FS := (sSeq (sAsg (fTup (fCons (fC (.str "rounds")) (fCons (fTup (fCons (fVar 1) (fCons (fC (.int 0)) (fCons (fC (.int 0)) fNil)))) (fCons (fTup fNil) (fCons (fBin dAdd (fCall F_ahead_of_round (fCons (fVar 0) fNil)) (fTup (fCons (fCall F_one_place (fCons (fVar 0) fNil)) fNil))) fNil))))) (gNm 2))
  (sSeq (sAsg (fBin dAdd (fCall F_copied fNil) (fTup (fCons (fCall F_do (fCons (fTup (fCons (fC (.str "mark")) (fCons (fC (.int 0)) fNil))) fNil)) (fCons (fVar 2) fNil)))) (gNm 3))
  (sSeq (sIf (fB (fBin dEq (fVar 0) (fC (.str "roll")))) (sSeq (sRet (fBin dAdd (fBin dAdd (fVar 3) (fCall F_no_marks fNil)) (fCall F_ends (fCons (fC (.str "c")) (fCons (fC (.int 0)) (fCons (fC (.int 1)) fNil))))))
  sNil) sNil)
  (sSeq (sRet (fBin dAdd (fBin dAdd (fBin dAdd (fVar 3) (fCall F_mark_to (fCons (fC (.int 0)) fNil))) (fTup (fCons (fCall F_do (fCons (fTup (fCons (fC (.str "set")) (fCons (fCallK F_cell [0, 5, 2, 3, 4] [(.int 0), (.int 0), (.int 0), (.int 0)] (fCons (fC (.str "m")) fNil) (fCons (fC (.int 1)) fNil)) (fCons (fC (.int 0)) fNil)))) fNil)) fNil))) (fCall F_ends (fCons (fC (.str "c")) (fCons (fC (.int 0)) (fCons (fC (.int 1)) fNil))))))
  sNil))))
noncomputable def R_shift_parts : Fn := runF 4 g_shift_parts
theorem s_shift_parts : FnScope ["word", "s", "rounds", "told"] ["word", "s"] (defScope (top 65)) := ⟨rfl, rfl, rfl, by decide +kernel, rfl, by decide +kernel, by decide +kernel⟩
theorem kr_shift_parts (A : All w K mg) : FnK P w K mg base 4 ⟨"shift_parts", 2, R_shift_parts⟩ := by
  obtain ⟨f, fd, hm, F⟩ := A.f_shift_parts
  exact fn_in A.fr (He5.fun_of F) s_shift_parts hm (FunD.bindsN (ps := ["word", "s"]) F fun _ _ _ _ _ _ us hl => match us, hl with | [_, _], _ => rfl) fun X W h =>
  (dss_cons (h.set (de_tup (h.cons de_str (h.cons (de_tup (h.cons h.var (h.cons de_int (h.cons de_int da_nil)))) (h.cons (de_tup da_nil) (h.cons (h.add (h.call (k_ahead_of_round A) (h.cons h.var da_nil) (FsN.cons FsN.nil).len) (de_tup (h.cons (h.call (k_one_place A) (h.cons h.var da_nil) (FsN.cons FsN.nil).len) da_nil))) da_nil))))))
  (dss_cons (h.set (h.add (h.call0 (k_copied A)) (de_tup (h.cons (h.call (k_do A) (h.cons (de_tup (h.cons de_str (h.cons de_int da_nil))) da_nil) (FsN.cons FsN.nil).len) (h.cons h.var da_nil)))))
  (dss_cons (ds_if (h.eq.tv h.var de_str) (dss_cons (ds_ret (h.add (h.add h.var (h.call0 (k_no_marks A))) (h.call (k_ends A) (h.cons de_str (h.cons de_int (h.cons de_int da_nil))) (FsN.cons (FsN.cons (FsN.cons FsN.nil))).len)))
  dss_nil) dss_nil)
  (dss_cons (ds_ret (h.add (h.add (h.add h.var (h.call (k_mark_to A) (h.cons de_int da_nil) (FsN.cons FsN.nil).len)) (de_tup (h.cons (h.call (k_do A) (h.cons (de_tup (h.cons de_str (h.cons (h.callK (ks := ["c"]) [0, 5, 2, 3, 4] (k_cell A) bd_cell_1_c (h.cons de_str da_nil) (dk_cons de_int dk_nil) (FsN.cons FsN.nil).len (FsN.cons FsN.nil).len) (h.cons de_int da_nil)))) da_nil) (FsN.cons FsN.nil).len) da_nil))) (h.call (k_ends A) (h.cons de_str (h.cons de_int (h.cons de_int da_nil))) (FsN.cons (FsN.cons (FsN.cons FsN.nil))).len)))
  dss_nil))))
noncomputable def q_shift_parts : Fn := fun ds S => lowR (R_shift_parts ds S)
noncomputable abbrev F_shift_parts : Fn := q_shift_parts
theorem w_shift_parts (ds : List D) (S : Sg) (h : ds.length = 2) : Weak S (R_shift_parts ds S) (q_shift_parts ds S) := weak_lowR
theorem k_shift_parts (A : All w K mg) : FnK P w K mg base 4 ⟨"shift_parts", 2, F_shift_parts⟩ := (kr_shift_parts A).weak w_shift_parts
noncomputable def g_kept_words : FS := (sSeq (sAsg (fTup (fCons (fTup (fCons (fC (.int 1)) (fCons (fC (.tup false [(.int 0), (.int 0), (.int 0), (.int 0), (.int 0), (.int 0)])) (fCons (fTup (fCons (fCall F_lowest (fCons (fC (.str "a")) fNil)) fNil)) fNil)))) (fCons (fTup (fCons (fNeg (fC (.int 1))) (fCons (fC (.tup false [(.int 0), (.int 0), (.int 0), (.int 0), (.int 0), (.int 0)])) (fCons (fTup (fCons (fCall F_lowest (fCons (fC (.str "c")) fNil)) fNil)) fNil)))) fNil))) (gNm 1))
  (sSeq (sAsg (fTup (fCons (fCall oMin (fCons (fVar 0) (fCons (fC (.int 0)) fNil))) (fCons (fC (.int 1)) (fCons (fC (.int 0)) fNil)))) (gNm 2))
  (sSeq (sRet (fTup (fCons (fC (.str "rounds")) (fCons (fVar 2) (fCons (fVar 1) (fCons (fTup (fCons (fCall F_do (fCons (fTup (fCons (fC (.str "move")) (fCons (fCallK F_cell [0, 1, 5, 3, 4] [(.int 0), (.int 0), (.int 0), (.int 0)] (fCons (fC (.str "c")) fNil) (fCons (fC (.int 1)) fNil)) (fCons (fCallK F_cell [0, 1, 5, 3, 4] [(.int 0), (.int 0), (.int 0), (.int 0)] (fCons (fC (.str "a")) fNil) (fCons (fC (.int 1)) fNil)) fNil)))) fNil)) fNil)) fNil))))))
  sNil)))
noncomputable def R_kept_words : Fn := runF 3 g_kept_words
theorem s_kept_words : FnScope ["e", "sentence", "count"] ["e"] (defScope (top 30)) := ⟨rfl, rfl, rfl, by decide +kernel, rfl, by decide +kernel, by decide +kernel⟩
theorem kr_kept_words (A : All w K mg) : FnK P w K mg base 2 ⟨"kept_words", 1, R_kept_words⟩ := by
  obtain ⟨f, fd, hm, F⟩ := A.f_kept_words
  exact fn_in A.fr (He5.fun_of F) s_kept_words hm (FunD.bindsN (ps := ["e"]) F fun _ _ _ _ _ _ us hl => match us, hl with | [_], _ => rfl) fun X W h =>
  (dss_cons (h.set (de_tup (h.cons (de_tup (h.cons de_int (h.cons (h.gC A.c_FLAT) (h.cons (de_tup (h.cons (h.call (k_lowest A) (h.cons de_str da_nil) (FsN.cons FsN.nil).len) da_nil)) da_nil)))) (h.cons (de_tup (h.cons (de_neg de_int) (h.cons (h.gC A.c_FLAT) (h.cons (de_tup (h.cons (h.call (k_lowest A) (h.cons de_str da_nil) (FsN.cons FsN.nil).len) da_nil)) da_nil)))) da_nil))))
  (dss_cons (h.set (de_tup (h.cons (h.min_ (h.cons h.var (h.cons de_int da_nil))) (h.cons de_int (h.cons de_int da_nil)))))
  (dss_cons (ds_ret (de_tup (h.cons de_str (h.cons h.var (h.cons h.var (h.cons (de_tup (h.cons (h.call (k_do A) (h.cons (de_tup (h.cons de_str (h.cons (h.callK (ks := ["i"]) [0, 1, 5, 3, 4] (k_cell A) bd_cell_1_i (h.cons de_str da_nil) (dk_cons de_int dk_nil) (FsN.cons FsN.nil).len (FsN.cons FsN.nil).len) (h.cons (h.callK (ks := ["i"]) [0, 1, 5, 3, 4] (k_cell A) bd_cell_1_i (h.cons de_str da_nil) (dk_cons de_int dk_nil) (FsN.cons FsN.nil).len (FsN.cons FsN.nil).len) da_nil)))) da_nil) (FsN.cons FsN.nil).len) da_nil)) da_nil))))))
  dss_nil)))
noncomputable def q_kept_words : Fn := fun ds S => lowR (R_kept_words ds S)
noncomputable abbrev F_kept_words : Fn := q_kept_words
theorem w_kept_words (ds : List D) (S : Sg) (h : ds.length = 1) : Weak S (R_kept_words ds S) (q_kept_words ds S) := weak_lowR
theorem k_kept_words (A : All w K mg) : FnK P w K mg base 2 ⟨"kept_words", 1, F_kept_words⟩ := (kr_kept_words A).weak w_kept_words
noncomputable def g_sign_of_last : FS := (sSeq (sRet (fTup (fCons (fCall F_do (fCons (fTup (fCons (fC (.str "mark")) (fCons (fC (.int 0)) fNil))) fNil)) (fCons (fCall F_do (fCons (fTup (fCons (fC (.str "twice")) (fCons (fC (.tup false [(.str "t"), (.tup false [(.int 0), (.int 0), (.int 0), (.int 0)])])) (fCons (fCallK F_cell [0, 5, 2, 3, 6] [(.int 0), (.int 0), (.int 0), (.int 0)] (fCons (fVar 0) fNil) (fCons (fVar 1) (fCons (fC (.int 1)) fNil))) fNil)))) fNil)) fNil))))
  sNil)
noncomputable def R_sign_of_last : Fn := runF 2 g_sign_of_last
theorem s_sign_of_last : FnScope ["letter", "c"] ["letter", "c"] (defScope (top 31)) := ⟨rfl, rfl, rfl, by decide +kernel, rfl, by decide +kernel, by decide +kernel⟩
theorem kr_sign_of_last (A : All w K mg) : FnK P w K mg base 2 ⟨"sign_of_last", 2, R_sign_of_last⟩ := by
  obtain ⟨f, fd, hm, F⟩ := A.f_sign_of_last
  exact fn_in A.fr (He5.fun_of F) s_sign_of_last hm (FunD.bindsN (ps := ["letter", "c"]) F fun _ _ _ _ _ _ us hl => match us, hl with | [_, _], _ => rfl) fun X W h =>
  (dss_cons (ds_ret (de_tup (h.cons (h.call (k_do A) (h.cons (de_tup (h.cons de_str (h.cons de_int da_nil))) da_nil) (FsN.cons FsN.nil).len) (h.cons (h.call (k_do A) (h.cons (de_tup (h.cons de_str (h.cons (h.gC A.c_SPARE) (h.cons (h.callK (ks := ["c", "m"]) [0, 5, 2, 3, 6] (k_cell A) bd_cell_1_c_m (h.cons h.var da_nil) (dk_cons h.var (dk_cons de_int dk_nil)) (FsN.cons FsN.nil).len (FsN.cons (FsN.cons FsN.nil)).len) da_nil)))) da_nil) (FsN.cons FsN.nil).len) da_nil))))
  dss_nil)
noncomputable def q_sign_of_last : Fn := fun ds S => lowR (R_sign_of_last ds S)
noncomputable abbrev F_sign_of_last : Fn := q_sign_of_last
theorem w_sign_of_last (ds : List D) (S : Sg) (h : ds.length = 2) : Weak S (R_sign_of_last ds S) (q_sign_of_last ds S) := weak_lowR
theorem k_sign_of_last (A : All w K mg) : FnK P w K mg base 2 ⟨"sign_of_last", 2, F_sign_of_last⟩ := (kr_sign_of_last A).weak w_sign_of_last
noncomputable def g_mask_of_last : FS := (sSeq (sRet (fBin dAdd (fCall F_sign_of_last (fCons (fVar 0) (fCons (fVar 1) fNil))) (fTup (fCons (fCall F_do (fCons (fTup (fCons (fC (.str "less")) (fCons (fC (.tup false [(.str "p"), (.tup false [(.int 0), (.int 0), (.int 0), (.int 0)])])) (fCons (fC (.tup false [(.str "z"), (.tup false [(.int 0), (.int 0), (.int 0), (.int 0)])])) (fCons (fC (.tup false [(.str "z"), (.tup false [(.int 0), (.int 0), (.int 0), (.int 0)])])) fNil))))) fNil)) fNil))))
  sNil)
noncomputable def R_mask_of_last : Fn := runF 2 g_mask_of_last
theorem s_mask_of_last : FnScope ["letter", "c"] ["letter", "c"] (defScope (top 32)) := ⟨rfl, rfl, rfl, by decide +kernel, rfl, by decide +kernel, by decide +kernel⟩
theorem kr_mask_of_last (A : All w K mg) : FnK P w K mg base 3 ⟨"mask_of_last", 2, R_mask_of_last⟩ := by
  obtain ⟨f, fd, hm, F⟩ := A.f_mask_of_last
  exact fn_in A.fr (He5.fun_of F) s_mask_of_last hm (FunD.bindsN (ps := ["letter", "c"]) F fun _ _ _ _ _ _ us hl => match us, hl with | [_, _], _ => rfl) fun X W h =>
  (dss_cons (ds_ret (h.add (h.call (k_sign_of_last A) (h.cons h.var (h.cons h.var da_nil)) (FsN.cons (FsN.cons FsN.nil)).len) (de_tup (h.cons (h.call (k_do A) (h.cons (de_tup (h.cons de_str (h.cons (h.gC A.c_MASK) (h.cons (h.gC A.c_NAUGHT) (h.cons (h.gC A.c_NAUGHT) da_nil))))) da_nil) (FsN.cons FsN.nil).len) da_nil))))
  dss_nil)
noncomputable def q_mask_of_last : Fn := fun ds S => lowR (R_mask_of_last ds S)
noncomputable abbrev F_mask_of_last : Fn := q_mask_of_last
theorem w_mask_of_last (ds : List D) (S : Sg) (h : ds.length = 2) : Weak S (R_mask_of_last ds S) (q_mask_of_last ds S) := weak_lowR
theorem k_mask_of_last (A : All w K mg) : FnK P w K mg base 3 ⟨"mask_of_last", 2, F_mask_of_last⟩ := (kr_mask_of_last A).weak w_mask_of_last
noncomputable def g_narrower_over : FS := (sSeq (sAsg (fTup (fCons (fCall F_do (fCons (fTup (fCons (fC (.str "move")) (fCons (fC (.tup false [(.str "p"), (.tup false [(.int 0), (.int 0), (.int 0), (.int 0)])])) (fCons (fC (.tup false [(.str "z"), (.tup false [(.int 0), (.int 0), (.int 0), (.int 0)])])) fNil)))) fNil)) (fCons (fCall F_do (fCons (fTup (fCons (fC (.str "move")) (fCons (fC (.tup false [(.str "g"), (.tup false [(.int 0), (.int 0), (.int 0), (.int 0)])])) (fCons (fC (.tup false [(.str "z"), (.tup false [(.int 0), (.int 0), (.int 0), (.int 0)])])) fNil)))) fNil)) fNil))) (gNm 3))
  (sSeq (sIf (fAnd (fB (fBin dEq (fVar 0) (fC (.str "signed")))) (fB (fBin dEq (fVar 1) (fC (.str "signed"))))) (sSeq (sAsg (fBin dAdd (fCall F_mask_of_last (fCons (fC (.str "a")) (fCons (fBin dSub (fVar 2) (fC (.int 1))) fNil))) (fTup (fCons (fCall F_do (fCons (fTup (fCons (fC (.str "move")) (fCons (fC (.tup false [(.str "g"), (.tup false [(.int 0), (.int 0), (.int 0), (.int 0)])])) (fCons (fC (.tup false [(.str "z"), (.tup false [(.int 0), (.int 0), (.int 0), (.int 0)])])) fNil)))) fNil)) fNil))) (gNm 3))
  sNil) (sSeq (sIf (fAnd (fB (fBin dEq (fVar 0) (fC (.str "plain")))) (fB (fBin dEq (fVar 1) (fC (.str "signed"))))) (sSeq (sAsg (fBin dAdd (fCall F_sign_of_last (fCons (fC (.str "a")) (fCons (fBin dSub (fVar 2) (fC (.int 1))) fNil))) (fTup (fCons (fCall F_do (fCons (fTup (fCons (fC (.str "sum")) (fCons (fC (.tup false [(.str "g"), (.tup false [(.int 0), (.int 0), (.int 0), (.int 0)])])) (fCons (fC (.tup false [(.str "z"), (.tup false [(.int 0), (.int 0), (.int 0), (.int 0)])])) (fCons (fC (.tup false [(.str "z"), (.tup false [(.int 0), (.int 0), (.int 0), (.int 0)])])) fNil))))) fNil)) fNil))) (gNm 4))
  (sSeq (sAsg (fBin dAdd (fTup (fCons (fCall F_do (fCons (fTup (fCons (fC (.str "move")) (fCons (fC (.tup false [(.str "p"), (.tup false [(.int 0), (.int 0), (.int 0), (.int 0)])])) (fCons (fC (.tup false [(.str "z"), (.tup false [(.int 0), (.int 0), (.int 0), (.int 0)])])) fNil)))) fNil)) fNil)) (fVar 4)) (gNm 3))
  sNil)) sNil)
  sNil))
  (sSeq (sAsg (fCall F_do (fCons (fTup (fCons (fC (.str "odd")) (fCons (fC (.tup false [(.str "t"), (.tup false [(.int 0), (.int 0), (.int 0), (.int 0)])])) (fCons (fC (.tup false [(.str "p"), (.tup false [(.int 0), (.int 0), (.int 0), (.int 0)])])) (fCons (fCallK F_cell [0, 5, 6, 3, 7] [(.int 0), (.int 0), (.int 0), (.int 0)] (fCons (fC (.str "a")) fNil) (fCons (fVar 2) (fCons (fC (.int 1)) (fCons (fC (.int 1)) fNil)))) fNil))))) fNil)) (gNm 5))
  (sSeq (sAsg (fTup (fCons (fC (.str "rounds")) (fCons (fTup (fCons (fNeg (fVar 2)) (fCons (fC (.int 0)) (fCons (fC (.int 0)) fNil)))) (fCons (fTup fNil) (fCons (fTup (fCons (fVar 5) (fCons (fCall F_do (fCons (fTup (fCons (fC (.str "any")) (fCons (fC (.tup false [(.str "g"), (.tup false [(.int 0), (.int 0), (.int 0), (.int 0)])])) (fCons (fC (.tup false [(.str "g"), (.tup false [(.int 0), (.int 0), (.int 0), (.int 0)])])) (fCons (fC (.tup false [(.str "t"), (.tup false [(.int 0), (.int 0), (.int 0), (.int 0)])])) fNil))))) fNil)) fNil))) fNil))))) (gNm 6))
  (sSeq (sRet (fBin dAdd (fVar 3) (fTup (fCons (fVar 6) (fCons (fCall F_do (fCons (fTup (fCons (fC (.str "ask")) (fCons (fC (.tup false [(.str "g"), (.tup false [(.int 0), (.int 0), (.int 0), (.int 0)])])) fNil))) fNil)) fNil)))))
  sNil)))))
noncomputable def R_narrower_over : Fn := runF 7 g_narrower_over
theorem s_narrower_over : FnScope ["from_kind", "to_kind", "e", "ahead", "sign", "unlike", "gone"] ["from_kind", "to_kind", "e"] (defScope (top 35)) := ⟨rfl, rfl, rfl, by decide +kernel, rfl, by decide +kernel, by decide +kernel⟩
theorem kr_narrower_over (A : All w K mg) : FnK P w K mg base 4 ⟨"narrower_over", 3, R_narrower_over⟩ := by
  obtain ⟨f, fd, hm, F⟩ := A.f_narrower_over
  exact fn_in A.fr (He5.fun_of F) s_narrower_over hm (FunD.bindsN (ps := ["from_kind", "to_kind", "e"]) F fun _ _ _ _ _ _ us hl => match us, hl with | [_, _, _], _ => rfl) fun X W h =>
  (dss_cons (h.set (de_tup (h.cons (h.call (k_do A) (h.cons (de_tup (h.cons de_str (h.cons (h.gC A.c_MASK) (h.cons (h.gC A.c_NAUGHT) da_nil)))) da_nil) (FsN.cons FsN.nil).len) (h.cons (h.call (k_do A) (h.cons (de_tup (h.cons de_str (h.cons (h.gC A.c_GATHER) (h.cons (h.gC A.c_NAUGHT) da_nil)))) da_nil) (FsN.cons FsN.nil).len) da_nil))))
  (dss_cons (ds_if (DW.dt (dw_and (h.eq.tv h.var de_str) (dw_and1 (h.eq.tv h.var de_str)))) (dss_cons (h.set (h.add (h.call (k_mask_of_last A) (h.cons de_str (h.cons (h.sub h.var de_int) da_nil)) (FsN.cons (FsN.cons FsN.nil)).len) (de_tup (h.cons (h.call (k_do A) (h.cons (de_tup (h.cons de_str (h.cons (h.gC A.c_GATHER) (h.cons (h.gC A.c_NAUGHT) da_nil)))) da_nil) (FsN.cons FsN.nil).len) da_nil))))
  dss_nil) (dss_cons (ds_if (DW.dt (dw_and (h.eq.tv h.var de_str) (dw_and1 (h.eq.tv h.var de_str)))) (dss_cons (h.set (h.add (h.call (k_sign_of_last A) (h.cons de_str (h.cons (h.sub h.var de_int) da_nil)) (FsN.cons (FsN.cons FsN.nil)).len) (de_tup (h.cons (h.call (k_do A) (h.cons (de_tup (h.cons de_str (h.cons (h.gC A.c_GATHER) (h.cons (h.gC A.c_NAUGHT) (h.cons (h.gC A.c_NAUGHT) da_nil))))) da_nil) (FsN.cons FsN.nil).len) da_nil))))
  (dss_cons (h.set (h.add (de_tup (h.cons (h.call (k_do A) (h.cons (de_tup (h.cons de_str (h.cons (h.gC A.c_MASK) (h.cons (h.gC A.c_NAUGHT) da_nil)))) da_nil) (FsN.cons FsN.nil).len) da_nil)) h.var))
  dss_nil)) dss_nil)
  dss_nil))
  (dss_cons (h.set (h.call (k_do A) (h.cons (de_tup (h.cons de_str (h.cons (h.gC A.c_SPARE) (h.cons (h.gC A.c_MASK) (h.cons (h.callK (ks := ["c", "i", "m"]) [0, 5, 6, 3, 7] (k_cell A) bd_cell_1_c_i_m (h.cons de_str da_nil) (dk_cons h.var (dk_cons de_int (dk_cons de_int dk_nil))) (FsN.cons FsN.nil).len (FsN.cons (FsN.cons (FsN.cons FsN.nil))).len) da_nil))))) da_nil) (FsN.cons FsN.nil).len))
  (dss_cons (h.set (de_tup (h.cons de_str (h.cons (de_tup (h.cons (de_neg h.var) (h.cons de_int (h.cons de_int da_nil)))) (h.cons (de_tup da_nil) (h.cons (de_tup (h.cons h.var (h.cons (h.call (k_do A) (h.cons (de_tup (h.cons de_str (h.cons (h.gC A.c_GATHER) (h.cons (h.gC A.c_GATHER) (h.cons (h.gC A.c_SPARE) da_nil))))) da_nil) (FsN.cons FsN.nil).len) da_nil))) da_nil))))))
  (dss_cons (ds_ret (h.add h.var (de_tup (h.cons h.var (h.cons (h.call (k_do A) (h.cons (de_tup (h.cons de_str (h.cons (h.gC A.c_GATHER) da_nil))) da_nil) (FsN.cons FsN.nil).len) da_nil)))))
  dss_nil)))))
noncomputable def q_narrower_over : Fn := fun ds S => lowR (R_narrower_over ds S)
noncomputable abbrev F_narrower_over : Fn := q_narrower_over
theorem w_narrower_over (ds : List D) (S : Sg) (h : ds.length = 3) : Weak S (R_narrower_over ds S) (q_narrower_over ds S) := weak_lowR
theorem k_narrower_over (A : All w K mg) : FnK P w K mg base 4 ⟨"narrower_over", 3, F_narrower_over⟩ := (kr_narrower_over A).weak w_narrower_over
noncomputable def g_wider_parts : FS := (sSeq (sAsg (fTup (fCons (fCall F_do (fCons (fTup (fCons (fC (.str "move")) (fCons (fC (.tup false [(.str "p"), (.tup false [(.int 0), (.int 0), (.int 0), (.int 0)])])) (fCons (fC (.tup false [(.str "z"), (.tup false [(.int 0), (.int 0), (.int 0), (.int 0)])])) fNil)))) fNil)) fNil)) (gNm 2))
  (sSeq (sIf (fB (fBin dEq (fVar 0) (fC (.str "signed")))) (sSeq (sAsg (fCall F_mask_of_last (fCons (fC (.str "a")) (fCons (fNeg (fC (.int 1))) fNil))) (gNm 2))
  sNil) sNil)
  (sSeq (sRet (fBin dAdd (fVar 2) (fTup (fCons (fTup (fCons (fC (.str "rounds")) (fCons (fTup (fCons (fVar 1) (fCons (fC (.int 0)) (fCons (fC (.int 0)) fNil)))) (fCons (fTup fNil) (fCons (fTup (fCons (fCall F_do (fCons (fTup (fCons (fC (.str "move")) (fCons (fCallK F_cell [0, 1, 5, 3, 6] [(.int 0), (.int 0), (.int 0), (.int 0)] (fCons (fC (.str "c")) fNil) (fCons (fC (.int 1)) (fCons (fC (.int 1)) fNil))) (fCons (fC (.tup false [(.str "p"), (.tup false [(.int 0), (.int 0), (.int 0), (.int 0)])])) fNil)))) fNil)) fNil)) fNil))))) fNil))))
  sNil)))
noncomputable def R_wider_parts : Fn := runF 3 g_wider_parts
theorem s_wider_parts : FnScope ["from_kind", "e", "ahead"] ["from_kind", "e"] (defScope (top 33)) := ⟨rfl, rfl, rfl, by decide +kernel, rfl, by decide +kernel, by decide +kernel⟩
theorem kr_wider_parts (A : All w K mg) : FnK P w K mg base 4 ⟨"wider_parts", 2, R_wider_parts⟩ := by
  obtain ⟨f, fd, hm, F⟩ := A.f_wider_parts
  exact fn_in A.fr (He5.fun_of F) s_wider_parts hm (FunD.bindsN (ps := ["from_kind", "e"]) F fun _ _ _ _ _ _ us hl => match us, hl with | [_, _], _ => rfl) fun X W h =>
  (dss_cons (h.set (de_tup (h.cons (h.call (k_do A) (h.cons (de_tup (h.cons de_str (h.cons (h.gC A.c_MASK) (h.cons (h.gC A.c_NAUGHT) da_nil)))) da_nil) (FsN.cons FsN.nil).len) da_nil)))
  (dss_cons (ds_if (h.eq.tv h.var de_str) (dss_cons (h.set (h.call (k_mask_of_last A) (h.cons de_str (h.cons (de_neg de_int) da_nil)) (FsN.cons (FsN.cons FsN.nil)).len))
  dss_nil) dss_nil)
  (dss_cons (ds_ret (h.add h.var (de_tup (h.cons (de_tup (h.cons de_str (h.cons (de_tup (h.cons h.var (h.cons de_int (h.cons de_int da_nil)))) (h.cons (de_tup da_nil) (h.cons (de_tup (h.cons (h.call (k_do A) (h.cons (de_tup (h.cons de_str (h.cons (h.callK (ks := ["i", "m"]) [0, 1, 5, 3, 6] (k_cell A) bd_cell_1_i_m (h.cons de_str da_nil) (dk_cons de_int (dk_cons de_int dk_nil)) (FsN.cons FsN.nil).len (FsN.cons (FsN.cons FsN.nil)).len) (h.cons (h.gC A.c_MASK) da_nil)))) da_nil) (FsN.cons FsN.nil).len) da_nil)) da_nil))))) da_nil))))
  dss_nil)))
noncomputable def q_wider_parts : Fn := fun ds S => lowR (R_wider_parts ds S)
noncomputable abbrev F_wider_parts : Fn := q_wider_parts
theorem w_wider_parts (ds : List D) (S : Sg) (h : ds.length = 2) : Weak S (R_wider_parts ds S) (q_wider_parts ds S) := weak_lowR
theorem k_wider_parts (A : All w K mg) : FnK P w K mg base 4 ⟨"wider_parts", 2, F_wider_parts⟩ := (kr_wider_parts A).weak w_wider_parts
noncomputable def g_wider_over : FS := (sSeq (sIf (fOr (fAnd (fB (fBin dEq (fVar 0) (fC (.str "signed")))) (fB (fBin dEq (fVar 1) (fC (.str "plain"))))) (fAnd (fB (fBin dEq (fVar 0) (fC (.str "plain")))) (fAnd (fB (fBin dEq (fVar 1) (fC (.str "signed")))) (fB (fBin dEq (fVar 2) (fC (.int 0))))))) (sSeq (sRet (fCall F_sign_of_last (fCons (fC (.str "a")) (fCons (fNeg (fC (.int 1))) fNil))))
  sNil) sNil)
  (sSeq (sRet (fTup (fCons (fCall F_do (fCons (fTup (fCons (fC (.str "mark")) (fCons (fC (.int 0)) fNil))) fNil)) fNil)))
  sNil))
noncomputable def R_wider_over : Fn := runF 3 g_wider_over
theorem s_wider_over : FnScope ["from_kind", "to_kind", "e"] ["from_kind", "to_kind", "e"] (defScope (top 34)) := ⟨rfl, rfl, rfl, by decide +kernel, rfl, by decide +kernel, by decide +kernel⟩
theorem kr_wider_over (A : All w K mg) : FnK P w K mg base 3 ⟨"wider_over", 3, R_wider_over⟩ := by
  obtain ⟨f, fd, hm, F⟩ := A.f_wider_over
  exact fn_in A.fr (He5.fun_of F) s_wider_over hm (FunD.bindsN (ps := ["from_kind", "to_kind", "e"]) F fun _ _ _ _ _ _ us hl => match us, hl with | [_, _, _], _ => rfl) fun X W h =>
  (dss_cons (ds_if (DW.dt (dw_or (DW.dt (dw_and (h.eq.tv h.var de_str) (dw_and1 (h.eq.tv h.var de_str)))) (dw_or1 (DW.dt (dw_and (h.eq.tv h.var de_str) (dw_and (h.eq.tv h.var de_str) (dw_and1 (h.eq.tv h.var de_int)))))))) (dss_cons (ds_ret (h.call (k_sign_of_last A) (h.cons de_str (h.cons (de_neg de_int) da_nil)) (FsN.cons (FsN.cons FsN.nil)).len))
  dss_nil) dss_nil)
  (dss_cons (ds_ret (de_tup (h.cons (h.call (k_do A) (h.cons (de_tup (h.cons de_str (h.cons de_int da_nil))) da_nil) (FsN.cons FsN.nil).len) da_nil)))
  dss_nil))
noncomputable def q_wider_over : Fn := fun ds S => lowR (R_wider_over ds S)
noncomputable abbrev F_wider_over : Fn := q_wider_over
theorem w_wider_over (ds : List D) (S : Sg) (h : ds.length = 3) : Weak S (R_wider_over ds S) (q_wider_over ds S) := weak_lowR
theorem k_wider_over (A : All w K mg) : FnK P w K mg base 3 ⟨"wider_over", 3, F_wider_over⟩ := (kr_wider_over A).weak w_wider_over
noncomputable def g_led_parts : FS := (sSeq (sIf (fB (fBin dLt (fVar 2) (fC (.int 0)))) (sSeq (sAsg (fBin dAdd (fTup (fCons (fCall F_kept_words (fCons (fVar 2) fNil)) fNil)) (fCall F_narrower_over (fCons (fVar 0) (fCons (fVar 1) (fCons (fVar 2) fNil))))) (gNm 3))
  sNil) (sSeq (sAsg (fBin dAdd (fBin dAdd (fTup (fCons (fCall F_kept_words (fCons (fVar 2) fNil)) fNil)) (fCall F_wider_parts (fCons (fVar 0) (fCons (fVar 2) fNil)))) (fCall F_wider_over (fCons (fVar 0) (fCons (fVar 1) (fCons (fVar 2) fNil))))) (gNm 3))
  sNil))
  (sSeq (sRet (fBin dAdd (fBin dAdd (fBin dAdd (fVar 3) (fCall F_mark_to (fCons (fC (.int 1)) fNil))) (fTup (fCons (fCall F_do (fCons (fTup (fCons (fC (.str "set")) (fCons (fCallK F_cell [0, 1, 2, 3, 4] [(.int 0), (.int 0), (.int 0), (.int 0)] (fCons (fC (.str "m")) fNil) fNil) (fCons (fC (.int 0)) fNil)))) fNil)) fNil))) (fCall F_ends (fCons (fC (.str "c")) (fCons (fVar 2) (fCons (fC (.int 1)) fNil))))))
  sNil))
noncomputable def R_led_parts : Fn := runF 4 g_led_parts
theorem s_led_parts : FnScope ["from_kind", "to_kind", "e", "told"] ["from_kind", "to_kind", "e"] (defScope (top 36)) := ⟨rfl, rfl, rfl, by decide +kernel, rfl, by decide +kernel, by decide +kernel⟩
theorem kr_led_parts (A : All w K mg) : FnK P w K mg base 5 ⟨"led_parts", 3, R_led_parts⟩ := by
  obtain ⟨f, fd, hm, F⟩ := A.f_led_parts
  exact fn_in A.fr (He5.fun_of F) s_led_parts hm (FunD.bindsN (ps := ["from_kind", "to_kind", "e"]) F fun _ _ _ _ _ _ us hl => match us, hl with | [_, _, _], _ => rfl) fun X W h =>
  (dss_cons (ds_if (h.lt.tv h.var de_int) (dss_cons (h.set (h.add (de_tup (h.cons (h.call (k_kept_words A) (h.cons h.var da_nil) (FsN.cons FsN.nil).len) da_nil)) (h.call (k_narrower_over A) (h.cons h.var (h.cons h.var (h.cons h.var da_nil))) (FsN.cons (FsN.cons (FsN.cons FsN.nil))).len)))
  dss_nil) (dss_cons (h.set (h.add (h.add (de_tup (h.cons (h.call (k_kept_words A) (h.cons h.var da_nil) (FsN.cons FsN.nil).len) da_nil)) (h.call (k_wider_parts A) (h.cons h.var (h.cons h.var da_nil)) (FsN.cons (FsN.cons FsN.nil)).len)) (h.call (k_wider_over A) (h.cons h.var (h.cons h.var (h.cons h.var da_nil))) (FsN.cons (FsN.cons (FsN.cons FsN.nil))).len)))
  dss_nil))
  (dss_cons (ds_ret (h.add (h.add (h.add h.var (h.call (k_mark_to A) (h.cons de_int da_nil) (FsN.cons FsN.nil).len)) (de_tup (h.cons (h.call (k_do A) (h.cons (de_tup (h.cons de_str (h.cons (h.callK (ks := []) [0, 1, 2, 3, 4] (k_cell A) bd_cell_1 (h.cons de_str da_nil) dk_nil (FsN.cons FsN.nil).len (FsN.nil).len) (h.cons de_int da_nil)))) da_nil) (FsN.cons FsN.nil).len) da_nil))) (h.call (k_ends A) (h.cons de_str (h.cons h.var (h.cons de_int da_nil))) (FsN.cons (FsN.cons (FsN.cons FsN.nil))).len)))
  dss_nil))
noncomputable def q_led_parts : Fn := fun ds S => lowR (R_led_parts ds S)
noncomputable abbrev F_led_parts : Fn := q_led_parts
theorem w_led_parts (ds : List D) (S : Sg) (h : ds.length = 3) : Weak S (R_led_parts ds S) (q_led_parts ds S) := weak_lowR
theorem k_led_parts (A : All w K mg) : FnK P w K mg base 5 ⟨"led_parts", 3, F_led_parts⟩ := (kr_led_parts A).weak w_led_parts
noncomputable def g_is_whole : FS := (sSeq (sRet (fAndV (fCall oIsi (fCons (fVar 0) (fCons (fC (.ty "int")) fNil))) (fNotV (fCall oIsi (fCons (fVar 0) (fCons (fC (.ty "bool")) fNil))))))
  sNil)
noncomputable def F_is_whole : Fn := runF 1 g_is_whole
theorem s_is_whole : FnScope ["thing"] ["thing"] (defScope (top 59)) := ⟨rfl, rfl, rfl, by decide +kernel, rfl, by decide +kernel, by decide +kernel⟩
theorem k_is_whole (A : All w K mg) : FnK P w K mg base 1 ⟨"is_whole", 1, F_is_whole⟩ := by
  obtain ⟨f, fd, hm, F⟩ := A.f_is_whole
  exact fn_in A.fr (He5.fun_of F) s_is_whole hm (FunD.bindsN (ps := ["thing"]) F fun _ _ _ _ _ _ us hl => match us, hl with | [_], _ => rfl) fun X W h =>
  (dss_cons (ds_ret (de_and (h.isinstance_ (h.cons h.var (h.cons h.tyv da_nil))) (de_one (de_not (h.isinstance_ (h.cons h.var (h.cons h.tyv da_nil)))))))
  dss_nil)
noncomputable def g_is_within : FS := (sSeq (sRet (fAndV (fCall F_is_whole (fCons (fVar 0) fNil)) (fChain dLe dLe (fVar 1) (fVar 0) (fVar 2))))
  sNil)
noncomputable def F_is_within : Fn := runF 3 g_is_within
theorem s_is_within : FnScope ["thing", "least", "most"] ["thing", "least", "most"] (defScope (top 78)) := ⟨rfl, rfl, rfl, by decide +kernel, rfl, by decide +kernel, by decide +kernel⟩
theorem k_is_within (A : All w K mg) : FnK P w K mg base 2 ⟨"is_within", 3, F_is_within⟩ := by
  obtain ⟨f, fd, hm, F⟩ := A.f_is_within
  exact fn_in A.fr (He5.fun_of F) s_is_within hm (FunD.bindsN (ps := ["thing", "least", "most"]) F fun _ _ _ _ _ _ us hl => match us, hl with | [_, _, _], _ => rfl) fun X W h =>
  (dss_cons (ds_ret (de_and (h.call (k_is_whole A) (h.cons h.var da_nil) (FsN.cons FsN.nil).len) (de_one (h.le.ce h.le h.var h.var h.var))))
  dss_nil)
noncomputable def c_is_led_1 : FE := (fAndV (fCall oIsi (fCons (fVar 2) (fCons (fC (.ty "str")) fNil))) (fBin dIn (fVar 2) (fC (.tup false [(.str "plain"), (.str "signed")]))))
noncomputable def g_is_led : FS := (sSeq (sAsg (fLc false [2] (fSeq (fCut (fVar 0) (fO1 (fC (.int 1))) (fO1 (fC (.int 3))))) (.one 2) fYes c_is_led_1) (gNm 1))
  (sSeq (sRet (fAndV (fBin dEq (fBin dIx (fVar 0) (fC (.int 0))) (fC (.str "led"))) (fAndV (fCall oAll (fCons (fVar 1) fNil)) (fCall F_is_within (fCons (fBin dIx (fVar 0) (fC (.int 3))) (fCons (fNeg (fC (.int 3))) (fCons (fC (.int 4)) fNil)))))))
  sNil))
noncomputable def R_is_led : Fn := runF 3 g_is_led
theorem s_is_led : FnScope ["deed", "kinds", "part"] ["deed"] (defScope (top 79)) := ⟨rfl, rfl, rfl, by decide +kernel, rfl, by decide +kernel, by decide +kernel⟩
theorem kr_is_led (A : All w K mg) : FnK P w K mg base 3 ⟨"is_led", 1, R_is_led⟩ := by
  obtain ⟨f, fd, hm, F⟩ := A.f_is_led
  exact fn_in A.fr (He5.fun_of F) s_is_led hm (FunD.bindsN (ps := ["deed"]) F fun _ _ _ _ _ _ us hl => match us, hl with | [_], _ => rfl) fun X W h =>
  (dss_cons (h.setLc [("part", 2)] (di_seq (de_cut h.var (do_some de_int) (do_some de_int))) (fun s H C cl fp => have b := h.blk s H C cl fp; b.nmB) (fun _ _ _ _ _ => pts_yes) (fun s H C cl fp => have b := h.blk s H C cl fp; (de_and (b.isinstance_ (b.cons b.var (b.cons b.tyv da_nil))) (de_one (b.in_.ev b.var (b.gC A.c_KINDS))))))
  (dss_cons (ds_ret (de_and (h.eq.ev (h.ix h.var de_int) de_str) (de_and (h.all_ (h.cons h.var da_nil)) (de_one (h.call (k_is_within A) (h.cons (h.ix h.var de_int) (h.cons (de_neg de_int) (h.cons de_int da_nil))) (FsN.cons (FsN.cons (FsN.cons FsN.nil))).len)))))
  dss_nil))
noncomputable def q_is_led : Fn := fun ds S => fgt S (R_is_led ds S)
noncomputable abbrev F_is_led : Fn := q_is_led
theorem w_is_led (ds : List D) (S : Sg) (h : ds.length = 1) : Weak S (R_is_led ds S) (q_is_led ds S) := weak_fgt
theorem k_is_led (A : All w K mg) : FnK P w K mg base 3 ⟨"is_led", 1, F_is_led⟩ := (kr_is_led A).weak w_is_led
noncomputable def g_is_deed : FS := (sSeq (sIf (fOr (fNot (fTru (fCall oIsi (fCons (fVar 0) (fCons (fC (.ty "tuple")) fNil))))) (fOr (fB (fBin dEq (fCall oLen (fCons (fVar 0) fNil)) (fC (.int 0)))) (fNot (fTru (fCall oIsi (fCons (fBin dIx (fVar 0) (fC (.int 0))) (fCons (fC (.ty "str")) fNil))))))) (sSeq (sRet (fC (.bl false)))
  sNil) sNil)
  (sSeq (sIf (fB (fBin dEq (fCall oLen (fCons (fVar 0) fNil)) (fC (.int 1)))) (sSeq (sRet (fOrV (fBin dInK (fBin dIx (fVar 0) (fC (.int 0))) (fC (.kd ["sum", "difference", "turned", "compare", "bare", "product", "signed product", "quotient", "signed quotient"] [.fn "sum_parts", .fn "difference_parts", .fn "turned_parts", .fn "compare_parts", .fn "bare_parts", .fn "product_parts", .fn "signed_product_parts", .fn "quotient_parts", .fn "signed_quotient_parts"]))) (fBin dInK (fBin dIx (fVar 0) (fC (.int 0))) (fC (.kd ["both", "any", "odd"] [(.int 2), (.int 2), (.int 2)])))))
  sNil) sNil)
  (sSeq (sIf (fB (fBin dEq (fCall oLen (fCons (fVar 0) fNil)) (fC (.int 2)))) (sSeq (sRet (fAndV (fBin dInK (fBin dIx (fVar 0) (fC (.int 0))) (fC (.kd ["left", "right", "down", "roll"] [(.int 1), (.int 1), (.int 1), (.int 1)]))) (fCall F_is_within (fCons (fBin dIx (fVar 0) (fC (.int 1))) (fCons (fC (.int 0)) (fCons (fC (.int 100)) fNil))))))
  sNil) sNil)
  (sSeq (sRet (fAndV (fBin dEq (fCall oLen (fCons (fVar 0) fNil)) (fC (.int 4))) (fCall F_is_led (fCons (fVar 0) fNil))))
  sNil))))
noncomputable def F_is_deed : Fn := runF 1 g_is_deed
theorem s_is_deed : FnScope ["thing"] ["thing"] (defScope (top 80)) := ⟨rfl, rfl, rfl, by decide +kernel, rfl, by decide +kernel, by decide +kernel⟩
theorem k_is_deed (A : All w K mg) : FnK P w K mg base 4 ⟨"is_deed", 1, F_is_deed⟩ := by
  obtain ⟨f, fd, hm, F⟩ := A.f_is_deed
  exact fn_in A.fr (He5.fun_of F) s_is_deed hm (FunD.bindsN (ps := ["thing"]) F fun _ _ _ _ _ _ us hl => match us, hl with | [_], _ => rfl) fun X W h =>
  (dss_cons (ds_if (DW.dt (dw_or (dt_not (dt_tru (h.isinstance_ (h.cons h.var (h.cons h.tyv da_nil))) rfl)) (dw_or (h.eq.tv (h.len_ (h.cons h.var da_nil)) de_int) (dw_or1 (dt_not (dt_tru (h.isinstance_ (h.cons (h.ix h.var de_int) (h.cons h.tyv da_nil))) rfl)))))) (dss_cons (ds_ret de_bl)
  dss_nil) dss_nil)
  (dss_cons (ds_if (h.eq.tv (h.len_ (h.cons h.var da_nil)) de_int) (dss_cons (ds_ret (de_or (h.inK.ev (h.ix h.var de_int) (h.gKd A.c_PLAIN)) (de_one (h.inK.ev (h.ix h.var de_int) (h.gKd A.c_TWOS)))))
  dss_nil) dss_nil)
  (dss_cons (ds_if (h.eq.tv (h.len_ (h.cons h.var da_nil)) de_int) (dss_cons (ds_ret (de_and (h.inK.ev (h.ix h.var de_int) (h.gKd A.c_SHIFTS)) (de_one (h.call (k_is_within A) (h.cons (h.ix h.var de_int) (h.cons de_int (h.cons de_int da_nil))) (FsN.cons (FsN.cons (FsN.cons FsN.nil))).len))))
  dss_nil) dss_nil)
  (dss_cons (ds_ret (de_and (h.eq.ev (h.len_ (h.cons h.var da_nil)) de_int) (de_one (h.call (k_is_led A) (h.cons h.var da_nil) (FsN.cons FsN.nil).len))))
  dss_nil))))
def plainNames : List Str := ["sum", "difference", "turned", "compare", "bare", "product", "signed product", "quotient", "signed quotient", "both", "any", "odd"]
theorem is_deed_one (w : Bool) (x : Str) (S : Sg) (h : x ∈ plainNames) : F_is_deed [.tup w [.str x]] S = .ok (.bl true) S := by
  simp only [plainNames, List.mem_cons, List.not_mem_nil, or_false] at h
  rcases h with rfl | rfl | rfl | rfl | rfl | rfl | rfl | rfl | rfl | rfl | rfl | rfl <;>
  simp [F_is_deed, g_is_deed, runF_e, startE, List.replicate, sizeLine]
noncomputable def g_check_deed : FS := (sSeq (sIf (fNot (fTru (fCall F_is_deed (fCons (fVar 0) fNil)))) (sSeq (sRaise "NoDeed")
  sNil) sNil)
  sNil)
noncomputable def F_check_deed : Fn := runF 1 g_check_deed
theorem s_check_deed : FnScope ["deed"] ["deed"] (defScope (top 81)) := ⟨rfl, rfl, rfl, by decide +kernel, rfl, by decide +kernel, by decide +kernel⟩
theorem k_check_deed (A : All w K mg) : FnK P w K mg base 5 ⟨"check_deed", 1, F_check_deed⟩ := by
  obtain ⟨f, fd, hm, F⟩ := A.f_check_deed
  exact fn_in A.fr (He5.fun_of F) s_check_deed hm (FunD.bindsN (ps := ["deed"]) F fun _ _ _ _ _ _ us hl => match us, hl with | [_], _ => rfl) fun X W h =>
  (dss_cons (ds_if (dt_not (dt_tru (h.call (k_is_deed A) (h.cons h.var da_nil) (FsN.cons FsN.nil).len) rfl)) (dss_cons (h.raise (A.T.own "NoDeed" (by decide +kernel)))
  dss_nil) dss_nil)
  dss_nil)
theorem check_deed_ok (d : D) (S : Sg) (h : F_is_deed [d] S = .ok (.bl true) S) : F_check_deed [d] S = .ok .non S := by
  simp [F_check_deed, g_check_deed, runF_e, startE, List.replicate, sizeLine, h]
noncomputable def g_telling : FS := (sSeq (sDrop (fCall F_check_deed (fCons (fVar 0) fNil)))
  (sSeq (sIf (fB (fBin dEq (fCall oLen (fCons (fVar 0) fNil)) (fC (.int 4)))) (sSeq (sRet (fCall F_led_parts (fCons (fBin dIx (fVar 0) (fC (.int 1))) (fCons (fBin dIx (fVar 0) (fC (.int 2))) (fCons (fBin dIx (fVar 0) (fC (.int 3))) fNil)))))
  sNil) sNil)
  (sSeq (sIf (fB (fBin dEq (fCall oLen (fCons (fVar 0) fNil)) (fC (.int 2)))) (sSeq (sRet (fCall F_shift_parts (fCons (fBin dIx (fVar 0) (fC (.int 0))) (fCons (fBin dIx (fVar 0) (fC (.int 1))) fNil))))
  sNil) sNil)
  (sSeq (sIf (fB (fBin dInK (fBin dIx (fVar 0) (fC (.int 0))) (fC (.kd ["both", "any", "odd"] [(.int 2), (.int 2), (.int 2)])))) (sSeq (sRet (fCall F_twos_parts (fCons (fBin dIx (fVar 0) (fC (.int 0))) fNil)))
  sNil) sNil)
  (sSeq (sRet (fCallV [("sum_parts", F_sum_parts), ("difference_parts", F_difference_parts), ("turned_parts", F_turned_parts), ("compare_parts", F_compare_parts), ("bare_parts", F_bare_parts), ("product_parts", F_product_parts), ("signed_product_parts", F_signed_product_parts), ("quotient_parts", F_quotient_parts), ("signed_quotient_parts", F_signed_quotient_parts)] (fOnly [("sum_parts", F_sum_parts), ("difference_parts", F_difference_parts), ("turned_parts", F_turned_parts), ("compare_parts", F_compare_parts), ("bare_parts", F_bare_parts), ("product_parts", F_product_parts), ("signed_product_parts", F_signed_product_parts), ("quotient_parts", F_quotient_parts), ("signed_quotient_parts", F_signed_quotient_parts)] (fBin dIxK (fC (.kd ["sum", "difference", "turned", "compare", "bare", "product", "signed product", "quotient", "signed quotient"] [.fn "sum_parts", .fn "difference_parts", .fn "turned_parts", .fn "compare_parts", .fn "bare_parts", .fn "product_parts", .fn "signed_product_parts", .fn "quotient_parts", .fn "signed_quotient_parts"])) (fBin dIx (fVar 0) (fC (.int 0))))) fNil))
  sNil)))))
noncomputable def R_telling : Fn := runF 1 g_telling
theorem s_telling : FnScope ["deed"] ["deed"] (defScope (top 82)) := ⟨rfl, rfl, rfl, by decide +kernel, rfl, by decide +kernel, by decide +kernel⟩
theorem kr_telling (A : All w K mg) : FnK P w K mg base 6 ⟨"telling", 1, R_telling⟩ := by
  obtain ⟨f, fd, hm, F⟩ := A.f_telling
  exact fn_in A.fr (He5.fun_of F) s_telling hm (FunD.bindsN (ps := ["deed"]) F fun _ _ _ _ _ _ us hl => match us, hl with | [_], _ => rfl) fun X W h =>
  (dss_cons (h.expr (h.call (k_check_deed A) (h.cons h.var da_nil) (FsN.cons FsN.nil).len))
  (dss_cons (ds_if (h.eq.tv (h.len_ (h.cons h.var da_nil)) de_int) (dss_cons (ds_ret (h.call (k_led_parts A) (h.cons (h.ix h.var de_int) (h.cons (h.ix h.var de_int) (h.cons (h.ix h.var de_int) da_nil))) (FsN.cons (FsN.cons (FsN.cons FsN.nil))).len))
  dss_nil) dss_nil)
  (dss_cons (ds_if (h.eq.tv (h.len_ (h.cons h.var da_nil)) de_int) (dss_cons (ds_ret (h.call (k_shift_parts A) (h.cons (h.ix h.var de_int) (h.cons (h.ix h.var de_int) da_nil)) (FsN.cons (FsN.cons FsN.nil)).len))
  dss_nil) dss_nil)
  (dss_cons (ds_if (h.inK.tv (h.ix h.var de_int) (h.gKd A.c_TWOS)) (dss_cons (ds_ret (h.call (k_twos_parts A) (h.cons (h.ix h.var de_int) da_nil) (FsN.cons FsN.nil).len))
  dss_nil) dss_nil)
  (dss_cons (ds_ret (h.callV0 (.cons (k_sum_parts A) (.cons (k_difference_parts A) (.cons (k_turned_parts A) (.cons (k_compare_parts A) (.cons (k_bare_parts A) (.cons (k_product_parts A) (.cons (k_signed_product_parts A) (.cons (k_quotient_parts A) (.cons (k_signed_quotient_parts A) .nil))))))))) (h.ixK (h.gKd A.c_PLAIN) (h.ix h.var de_int))))
  dss_nil)))))
noncomputable def q_telling : Fn := fun ds S => lowR (R_telling ds S)
noncomputable abbrev F_telling : Fn := q_telling
theorem w_telling (ds : List D) (S : Sg) (h : ds.length = 1) : Weak S (R_telling ds S) (q_telling ds S) := weak_lowR
theorem telling_quotient (w : Bool) (S : Sg) : F_telling [.tup w [.str "quotient"]] S = .ok (encPs quotientT) S := by
  have c := fun S => check_deed_ok (.tup w [.str "quotient"]) S (is_deed_one w _ S (by decide +kernel))
  simp [q_telling, R_telling, g_telling, runF_e, startE, List.replicate, sizeLine, c, fCallV, List.lookup, quotient_e, low_encPs]
theorem k_telling (A : All w K mg) : FnK P w K mg base 6 ⟨"telling", 1, F_telling⟩ := (kr_telling A).weak w_telling
noncomputable def b__law_mixed_1 : FS := (sSeq (sAsg (fBin dAdd (fVar 0) (fBin dIx (fTup (fCons (fC (.int 11)) (fCons (fC (.int 101)) (fCons (fC (.int 1009)) (fCons (fC (.int 10007)) (fCons (fC (.int 100003)) fNil)))))) (fVar 3))) (gNm 5))
  (sSeq (sAsg (fBin dMod (fBin dMul (fVar 5) (fBin dAdd (fC (.int 48271)) (fBin dMul (fC (.int 2)) (fVar 3)))) (fVar 4)) (gNm 5))
  (sSeq (sAsg (fBin dMod (fBin dMul (fVar 5) (fVar 5)) (fVar 4)) (gNm 6))
  (sSeq (sAsg (fBin dMod (fBin dMul (fBin dMod (fBin dMul (fVar 6) (fVar 6)) (fVar 4)) (fVar 5)) (fVar 4)) (gNm 7))
  (sSeq (sAsg (fBin dAdd (fBin dMul (fVar 2) (fVar 4)) (fVar 7)) (gNm 2))
  sNil)))))
noncomputable def g__law_mixed : FS := (sSeq (sAsg (fTup (fCons (fC (.int 2147483647)) (fCons (fC (.int 2147483629)) (fCons (fC (.int 2147483587)) (fCons (fC (.int 2147483579)) (fCons (fC (.int 2147483563)) fNil)))))) (gNm 1))
  (sSeq (sAsg (fC (.int 0)) (gNm 2))
  (sSeq (sFor (fIt iEnumD (fCons (fVar 1) fNil)) (gTupN [3, 4]) b__law_mixed_1)
  (sSeq (sRet (fVar 2))
  sNil))))
noncomputable def F__law_mixed : Fn := runF 8 g__law_mixed
theorem s__law_mixed : FnScope ["_law_seed", "_law_primes", "_law_number", "_law_k", "_law_prime", "_law_far", "_law_square", "_law_power"] ["_law_seed"] (defScope (top 85)) := ⟨rfl, rfl, rfl, by decide +kernel, rfl, by decide +kernel, by decide +kernel⟩
theorem k__law_mixed (A : All w K mg) : FnK P w K mg base 1 ⟨"_law_mixed", 1, F__law_mixed⟩ := by
  obtain ⟨f, fd, hm, F⟩ := A.f__law_mixed
  exact fn_in A.fr (He5.fun_of F) s__law_mixed hm (FunD.bindsN (ps := ["_law_seed"]) F fun _ _ _ _ _ _ us hl => match us, hl with | [_], _ => rfl) fun X W h =>
  (dss_cons (h.set (de_tup (h.cons de_int (h.cons de_int (h.cons de_int (h.cons de_int (h.cons de_int da_nil)))))))
  (dss_cons (h.set de_int)
  (dss_cons (h.for_ (h.enum (h.cons h.var da_nil)) (h.tup (NmTs.mk h (NmTs.mk h NmTs.nil))) (dss_cons (h.set (h.add h.var (h.ix (de_tup (h.cons de_int (h.cons de_int (h.cons de_int (h.cons de_int (h.cons de_int da_nil)))))) h.var)))
  (dss_cons (h.set (h.mod (h.mul h.var (h.add de_int (h.mul de_int h.var))) h.var))
  (dss_cons (h.set (h.mod (h.mul h.var h.var) h.var))
  (dss_cons (h.set (h.mod (h.mul (h.mod (h.mul h.var h.var) h.var) h.var) h.var))
  (dss_cons (h.set (h.add (h.mul h.var h.var) h.var))
  dss_nil))))))
  (dss_cons (ds_ret h.var)
  dss_nil))))
def primesD : List D := [.int 2147483647, .int 2147483629, .int 2147483587, .int 2147483579, .int 2147483563]
theorem _law_mixed_ok (s : Int) (S : Sg) : ∃ m, F__law_mixed [.int s] S = .ok (.int m) S := by
  obtain ⟨env', S', e, n, x3, x4, x5, x6, x7, rfl, rfl⟩ := forL_nx (f := gTupN [3, 4]) (g := b__law_mixed_1) (S := S) (enumD primesD)
    (fun _ env S' => ∃ n x3 x4 x5 x6 x7, env = [some (.v (.int s)), some (.v (.tup true primesD)), some (.v (.int n)), x3, x4, x5, x6, x7] ∧ S' = S)
    ⟨0, none, none, none, none, none, rfl, rfl⟩
    (fun k d env S' hd ⟨n, x3, x4, x5, x6, x7, hx, hS⟩ => by
      subst hx hS
      have : ∃ p c : Int, d = .tup true [.int k, .int p] ∧ 0 < p ∧ p < 2 ^ 31 ∧ k < 5 ∧ atI [D.int 11, .int 101, .int 1009, .int 10007, .int 100003] (k : Nat) = some (.int c) := by
        obtain ⟨hk, rfl⟩ := enum_get hd
        simp [primesD] at hk
        have : k = 0 ∨ k = 1 ∨ k = 2 ∨ k = 3 ∨ k = 4 := by omega
        rcases this with rfl | rfl | rfl | rfl | rfl <;> exact ⟨_, _, rfl, by decide, by decide, by decide, rfl⟩
      obtain ⟨p, c, rfl, p0, p1, k5, hc⟩ := this
      have b1 : ∀ i : Int, 0 ≤ i % p ∧ i % p < 2 ^ 31 := fun i => ⟨Int.emod_nonneg _ (by omega), Int.lt_trans (Int.emod_lt_of_pos _ p0) p1⟩
      have m1 : ∀ (i j : Int) S, dMul (.int (i % p)) (.int j) S = .ok (.int (i % p * j)) S := fun i j S => mulL (by have := b1 i; omega) (by have := b1 i; omega)
      refine ⟨_, rfl, ?_⟩
      simp [b__law_mixed_1, hc, sizeLine, m1, modB p0, mulR (j := p) (by omega) (by omega), mulR (j := 48271 + 2 * (k : Int)) (by omega) (by omega), mulL (i := 2) (by omega) (by omega)])
  simp [primesD] at e
  simp [F__law_mixed, g__law_mixed, runF_e, startE, List.replicate, sizeLine, iEnumD, e]
noncomputable def g__law_fill : FS := (sSeq (sPar [1, 2] (fCons (fBin dIx (fVar 0) (fC (.int 0))) (fCons (fBin dIx (fVar 0) (fC (.int 1))) fNil)))
  (sSeq (sAsg (fBin dAdd (fBin dMul (fC (.int 31)) (fVar 2)) (fC (.int 7))) (gNm 3))
  (sSeq (sIf (fB (fBin dGt (fCall oLen (fCons (fVar 1) fNil)) (fC (.int 0)))) (sSeq (sAsg (fBin dMul (fC (.int 104729)) (fBin dDiv (fVar 2) (fCall oLen (fCons (fVar 1) fNil)))) (gNm 3))
  (sSeq (sAsg (fBin dAdd (fVar 3) (fBin dIx (fVar 1) (fBin dMod (fVar 2) (fCall oLen (fCons (fVar 1) fNil))))) (gNm 3))
  sNil)) sNil)
  (sSeq (sSetIx (fVar 0) (fC (.int 1)) (fBin dAdd (fVar 2) (fC (.int 1))))
  (sSeq (sSetIx (fVar 0) (fC (.int 3)) (fOrV (fBin dGe (fVar 2) (fCall oLen (fCons (fVar 1) fNil))) (fBin dLt (fVar 3) (fBin dPow (fC (.int 10)) (fC (.int 18))))))
  (sSeq (sIf (fTru (fBin dIx (fVar 0) (fC (.int 3)))) (sSeq (sSetIx (fVar 0) (fC (.int 2)) (fCall F__law_mixed (fCons (fVar 3) fNil)))
  sNil) (sSeq (sSetIx (fVar 0) (fC (.int 2)) (fBin dSub (fVar 3) (fBin dPow (fC (.int 10)) (fC (.int 18)))))
  sNil))
  sNil))))))
noncomputable def F__law_fill : Fn := runF 4 g__law_fill
theorem s__law_fill : FnScope ["_law_state", "_law_cells", "_law_at_here", "_law_seed"] ["_law_state"] (defScope (top 86)) := ⟨rfl, rfl, rfl, by decide +kernel, rfl, by decide +kernel, by decide +kernel⟩
theorem k__law_fill (A : All w K mg) : FnK P w K mg base 2 ⟨"_law_fill", 1, F__law_fill⟩ := by
  obtain ⟨f, fd, hm, F⟩ := A.f__law_fill
  exact fn_in A.fr (He5.fun_of F) s__law_fill hm (FunD.bindsN (ps := ["_law_state"]) F fun _ _ _ _ _ _ us hl => match us, hl with | [_], _ => rfl) fun X W h =>
  (dss_cons (h.par (h.cons (h.ix h.var de_int) (h.cons (h.ix h.var de_int) da_nil)) (hw := sw_two (by rfl) h.sc (by decide +kernel) (by decide +kernel) (by rfl) (by decide) (by rfl) (by rfl) (by rfl) (by rfl)))
  (dss_cons (h.set (h.add (h.mul de_int h.var) de_int))
  (dss_cons (ds_if (h.gt.tv (h.len_ (h.cons h.var da_nil)) de_int) (dss_cons (h.set (h.mul de_int (h.div h.var (h.len_ (h.cons h.var da_nil)))))
  (dss_cons (h.set (h.add h.var (h.ix h.var (h.mod h.var (h.len_ (h.cons h.var da_nil))))))
  dss_nil)) dss_nil)
  (dss_cons (h.setIx (h.add h.var de_int) h.var de_int)
  (dss_cons (h.setIx (de_or (h.ge.ev h.var (h.len_ (h.cons h.var da_nil))) (de_one (h.lt.ev h.var (h.pow de_int de_int)))) h.var de_int)
  (dss_cons (ds_if (dt_tru (h.ix h.var de_int) rfl) (dss_cons (h.setIx (h.call (k__law_mixed A) (h.cons h.var da_nil) (FsN.cons FsN.nil).len) h.var de_int)
  dss_nil) (dss_cons (h.setIx (h.sub h.var (h.pow de_int de_int)) h.var de_int)
  dss_nil))
  dss_nil))))))
noncomputable def fill_tail : FS := (sSeq (sSetIx (fVar 0) (fC (.int 1)) (fBin dAdd (fVar 2) (fC (.int 1))))
  (sSeq (sSetIx (fVar 0) (fC (.int 3)) (fOrV (fBin dGe (fVar 2) (fCall oLen (fCons (fVar 1) fNil))) (fBin dLt (fVar 3) (fBin dPow (fC (.int 10)) (fC (.int 18))))))
  (sSeq (sIf (fTru (fBin dIx (fVar 0) (fC (.int 3)))) (sSeq (sSetIx (fVar 0) (fC (.int 2)) (fCall F__law_mixed (fCons (fVar 3) fNil)))
  sNil) (sSeq (sSetIx (fVar 0) (fC (.int 2)) (fBin dSub (fVar 3) (fBin dPow (fC (.int 10)) (fC (.int 18)))))
  sNil))
  sNil)))
theorem fill_tail_ok (cells : List D) (a : Nat) (x : Int) (n : D) (b : D) (G : Sg) : ∃ (y : Int) (b1 : Bool), (fill_tail [some (.v (.obj 1)), some (.v (.obj 0)), some (.v (.int a)), some (.v (.int x))] (SX cells (.int a) n b G)).fin = .ok .non (SX cells (.int (a + 1)) (.int y) (.bl b1) G) := by
  obtain ⟨mx, hm⟩ : ∃ mx : Int → Sg → Int, ∀ s S, F__law_mixed [.int s] S = .ok (.int (mx s S)) S := ⟨fun s S => (_law_mixed_ok s S).choose, fun s S => (_law_mixed_ok s S).choose_spec⟩
  by_cases h1 : cells.length ≤ a
  · simp [fill_tail, h1, hm, -Bool.exists_bool]
    exact ⟨_, _, rfl⟩
  · by_cases h2 : x < 1000000000000000000
    · simp [fill_tail, h1, h2, hm, -Bool.exists_bool]
      exact ⟨_, _, rfl⟩
    · simp [fill_tail, h1, h2, hm, -Bool.exists_bool]
      exact ⟨_, _, rfl⟩
theorem _law_fill_ok (c : StC) (G : Sg) : ∃ c', F__law_fill [.obj 1] (St c G) = .ok .non (St c' G) := by
  obtain ⟨cells, a, n, b, hl⟩ := c
  have eg : g__law_fill = (sSeq (sPar [1, 2] (fCons (fBin dIx (fVar 0) (fC (.int 0))) (fCons (fBin dIx (fVar 0) (fC (.int 1))) fNil)))
    (sSeq (sAsg (fBin dAdd (fBin dMul (fC (.int 31)) (fVar 2)) (fC (.int 7))) (gNm 3))
    (sSeq (sIf (fB (fBin dGt (fCall oLen (fCons (fVar 1) fNil)) (fC (.int 0)))) (sSeq (sAsg (fBin dMul (fC (.int 104729)) (fBin dDiv (fVar 2) (fCall oLen (fCons (fVar 1) fNil)))) (gNm 3))
    (sSeq (sAsg (fBin dAdd (fVar 3) (fBin dIx (fVar 1) (fBin dMod (fVar 2) (fCall oLen (fCons (fVar 1) fNil))))) (gNm 3))
    sNil)) sNil) fill_tail))) := rfl
  have key : ∃ (y : Int) (b1 : Bool), F__law_fill [.obj 1] (St ⟨cells, a, n, b, hl⟩ G) = .ok .non (SX (cells.map .int) (.int (a + 1)) (.int y) (.bl b1) G) := by
    by_cases h0 : 0 < cells.length
    · obtain ⟨x, hx⟩ := at_ints (Int.emod_nonneg (a : Int) (show (cells.length : Int) ≠ 0 by omega)) (Int.emod_lt_of_pos (a : Int) (show 0 < (cells.length : Int) by omega))
      have hd : ∀ S, dDiv (.int (a : Int)) (.int (cells.length : Int)) S = .ok (.int ((a : Int) / (cells.length : Int))) S := fun S => divB (m := 64) (by omega) (by omega) (by omega) (by rw [Int.natAbs_natCast]; omega)
      obtain ⟨y, b1, e⟩ := fill_tail_ok (cells.map .int) a (104729 * ((a : Int) / (cells.length : Int)) + x) (.int n) (.bl b) G
      refine ⟨y, b1, Eq.trans ?_ e⟩
      simp [F__law_fill, eg, runF_e, startE, List.replicate, St, mulL (i := 31) (by omega) (by omega), mulL (i := 104729) (by omega) (by omega), h0, hd, modB (j := (cells.length : Int)) (by omega), hx]
    · obtain ⟨y, b1, e⟩ := fill_tail_ok (cells.map .int) a (31 * (a : Int) + 7) (.int n) (.bl b) G
      refine ⟨y, b1, Eq.trans ?_ e⟩
      simp [F__law_fill, eg, runF_e, startE, List.replicate, St, mulL (i := 31) (by omega) (by omega), h0]
  obtain ⟨y, b', e⟩ := key
  exact ⟨⟨cells, a + 1, y, b', hl⟩, e⟩
noncomputable def t__law_take_1 : FT := (fAnd (fB (fBin dLt (fVar 2) (fC (.int 64)))) (fOr (fB (fBin dEq (fBin dIx (fVar 0) (fC (.int 2))) (fC (.int 0)))) (fAnd (fTru (fBin dIx (fVar 0) (fC (.int 3)))) (fB (fBin dLt (fBin dIx (fVar 0) (fC (.int 2))) (fBin dMul (fVar 1) (fC (.int 4096))))))))
noncomputable def b__law_take_2 : FS := (sSeq (sDrop (fCall F__law_fill (fCons (fVar 0) fNil)))
  (sSeq (sAug 2 dIAdd (fC (.int 1)))
  (sSeq (sIf (fAnd (fTru (fBin dIx (fVar 0) (fC (.int 3)))) (fB (fBin dLt (fBin dIx (fVar 0) (fC (.int 2))) (fBin dMul (fVar 1) (fC (.int 4096)))))) (sSeq (sSetIx (fVar 0) (fC (.int 2)) (fBin dAdd (fBin dIx (fVar 0) (fC (.int 2))) (fBin dMul (fBin dMul (fVar 1) (fC (.int 4096))) (fBin dAdd (fC (.int 1)) (fBin dMod (fBin dIx (fVar 0) (fC (.int 2))) (fC (.int 4093)))))))
  sNil) sNil)
  sNil)))
noncomputable def g__law_take : FS := (sSeq (sAsg (fC (.int 0)) (gNm 2))
  (sSeq (sWhile t__law_take_1 b__law_take_2)
  (sSeq (sAsg (fBin dMod (fBin dIx (fVar 0) (fC (.int 2))) (fVar 1)) (gNm 3))
  (sSeq (sSetIx (fVar 0) (fC (.int 2)) (fBin dDiv (fBin dIx (fVar 0) (fC (.int 2))) (fVar 1)))
  (sSeq (sRet (fVar 3))
  sNil)))))
noncomputable def F__law_take : Fn := runF 4 g__law_take
theorem s__law_take : FnScope ["_law_state", "_law_many", "_law_turns", "_law_digit"] ["_law_state", "_law_many"] (defScope (top 87)) := ⟨rfl, rfl, rfl, by decide +kernel, rfl, by decide +kernel, by decide +kernel⟩
theorem k__law_take (A : All w K mg) : FnK P w K mg base 3 ⟨"_law_take", 2, F__law_take⟩ := by
  obtain ⟨f, fd, hm, F⟩ := A.f__law_take
  exact fn_in A.fr (He5.fun_of F) s__law_take hm (FunD.bindsN (ps := ["_law_state", "_law_many"]) F fun _ _ _ _ _ _ us hl => match us, hl with | [_, _], _ => rfl) fun X W h =>
  (dss_cons (h.set de_int)
  (dss_cons (h.whil (DW.dt (dw_and (h.lt.tv h.var de_int) (dw_and1 (DW.dt (dw_or (h.eq.tv (h.ix h.var de_int) de_int) (dw_or1 (DW.dt (dw_and (dt_tru (h.ix h.var de_int) rfl) (dw_and1 (h.lt.tv (h.ix h.var de_int) (h.mul h.var de_int))))))))))) (dss_cons (h.expr (h.call (k__law_fill A) (h.cons h.var da_nil) (FsN.cons FsN.nil).len))
  (dss_cons (h.aug iop_addG dIAdd_ok de_int)
  (dss_cons (ds_if (DW.dt (dw_and (dt_tru (h.ix h.var de_int) rfl) (dw_and1 (h.lt.tv (h.ix h.var de_int) (h.mul h.var de_int))))) (dss_cons (h.setIx (h.add (h.ix h.var de_int) (h.mul (h.mul h.var de_int) (h.add de_int (h.mod (h.ix h.var de_int) de_int)))) h.var de_int)
  dss_nil) dss_nil)
  dss_nil))))
  (dss_cons (h.set (h.mod (h.ix h.var de_int) h.var))
  (dss_cons (h.setIx (h.div (h.ix h.var de_int) h.var) h.var de_int)
  (dss_cons (ds_ret h.var)
  dss_nil)))))
theorem _law_take_big (c : StC) (G : Sg) (m : Int) (h0 : 0 < m) (hm : m.natAbs < 2 ^ 8000) : ∃ c' d, F__law_take [.obj 1, .int m] (St c G) = .ok (.int d) (St c' G) ∧ 0 ≤ d ∧ d < m := by
  obtain ⟨env', S', e, c2, y, z, hx, hS⟩ := while_run (t := t__law_take_1) (g := b__law_take_2)
    (fun env S => ∃ (c : StC) (y : Int) (z : Option EV), env = [some (.v (.obj 1)), some (.v (.int m)), some (.v (.int y)), z] ∧ S = St c G ∧ 0 ≤ y ∧ y ≤ 64)
    (fun env _ => turnsLeft 2 64 env)
    (fun env S => ∃ (c : StC) (y : Int) (z : Option EV), env = [some (.v (.obj 1)), some (.v (.int m)), some (.v (.int y)), z] ∧ S = St c G)
    (fun env S ⟨c, y, z, he, hS, hy, hy2⟩ => by
      subst he hS
      obtain ⟨c', hf⟩ := _law_fill_ok c G
      have hf' : F__law_fill [.obj 1] (SX (c.cells.map .int) (.int c.a) (.int c.n) (.bl c.b) G) = .ok .non (SX (c'.cells.map .int) (.int c'.a) (.int c'.n) (.bl c'.b) G) := hf
      have hm4 : ∀ S, dMul (.int m) (.int 4096) S = .ok (.int (m * 4096)) S := fun S => mulR (by omega) (by omega)
      have hmx : ∀ (z : Int) S, dMul (.int (m * 4096)) (.int (1 + z % 4093)) S = .ok (.int (m * 4096 * (1 + z % 4093))) S := fun z S => mulR (by omega) (by omega)
      by_cases hlt : y < 64
      · by_cases hc : c.n = 0 ∨ (c.b = true ∧ c.n < m * 4096)
        · right
          refine ⟨?_, ?_⟩
          · by_cases h0 : c.n = 0
            · simp [t__law_take_1, hlt, St, h0]
            · have := hc.resolve_left h0
              simp [t__law_take_1, hlt, St, h0, hm4, this.1, this.2]
          · by_cases hb : c'.b = true ∧ c'.n < m * 4096
            · refine ⟨[some (.v (.obj 1)), some (.v (.int m)), some (.v (.int (y + 1))), z], St ⟨c'.cells, c'.a, c'.n + m * 4096 * (1 + c'.n % 4093), c'.b, c'.hl⟩ G, ?_, ⟨_, _, _, rfl, rfl, by omega, by omega⟩, by simp [turnsLeft]; omega⟩
              simp [b__law_take_2, St, hf', sAug_e, hb.1, hb.2, hm4, hmx, modB]
            · refine ⟨[some (.v (.obj 1)), some (.v (.int m)), some (.v (.int (y + 1))), z], St c' G, ?_, ⟨_, _, _, rfl, rfl, by omega, by omega⟩, by simp [turnsLeft]; omega⟩
              by_cases hb1 : c'.b = true
              · have : ¬ c'.n < m * 4096 := fun q => hb ⟨hb1, q⟩
                simp [b__law_take_2, St, hf', sAug_e, hb1, this, hm4, hmx]
              · simp [b__law_take_2, St, hf', sAug_e, hb1, hm4, hmx]
        · left
          refine ⟨?_, c, y, z, rfl, rfl⟩
          have h0 : ¬ c.n = 0 := fun q => hc (.inl q)
          by_cases hb1 : c.b = true
          · have : ¬ c.n < m * 4096 := fun q => hc (.inr ⟨hb1, q⟩)
            simp [t__law_take_1, hlt, St, h0, hm4, hb1, this]
          · simp [t__law_take_1, hlt, St, h0, hm4, hb1]
      · left
        refine ⟨?_, c, y, z, rfl, rfl⟩
        simp [t__law_take_1, hlt, St])
    mostTurns [some (.v (.obj 1)), some (.v (.int m)), some (.v (.int 0)), none] (St c G) ⟨c, 0, none, rfl, rfl, by omega, by omega⟩ (by simp [turnsLeft, mostTurns])
  subst hx hS
  have hd : ∀ S, dDiv (.int c2.n) (.int m) S = .ok (.int (c2.n / m)) S := fun S => divB (m := 8000) (by omega) (by omega) h0 hm
  refine ⟨⟨c2.cells, c2.a, c2.n / m, c2.b, c2.hl⟩, c2.n % m, ?_, Int.emod_nonneg _ (by omega), Int.emod_lt_of_pos _ h0⟩
  simp only [St] at e
  simp [F__law_take, g__law_take, runF_e, startE, List.replicate, e, St, modB h0, hd]
theorem _law_take_ok (c : StC) (G : Sg) (m : Int) (h0 : 0 < m) (hm : m ≤ 2 ^ 240) : ∃ c' d, F__law_take [.obj 1, .int m] (St c G) = .ok (.int d) (St c' G) ∧ 0 ≤ d ∧ d < m :=
  _law_take_big c G m h0 (by
    have h1 : m.natAbs < 2 ^ 241 := by omega
    exact Nat.lt_of_lt_of_le h1 (Nat.pow_le_pow_right (by omega) (by omega)))
noncomputable def g__law_sizes : FS := (sSeq (sRet (fTup (fCons (fBin dAdd (fC (.int 4)) (fCall F__law_take (fCons (fVar 0) (fCons (fC (.int 13)) fNil)))) (fCons (fBin dAdd (fC (.int 1)) (fCall F__law_take (fCons (fVar 0) (fCons (fVar 1) fNil)))) fNil))))
  sNil)
noncomputable def F__law_sizes : Fn := runF 2 g__law_sizes
theorem s__law_sizes : FnScope ["_law_state", "_law_most"] ["_law_state", "_law_most"] (defScope (top 88)) := ⟨rfl, rfl, rfl, by decide +kernel, rfl, by decide +kernel, by decide +kernel⟩
theorem k__law_sizes (A : All w K mg) : FnK P w K mg base 4 ⟨"_law_sizes", 2, F__law_sizes⟩ := by
  obtain ⟨f, fd, hm, F⟩ := A.f__law_sizes
  exact fn_in A.fr (He5.fun_of F) s__law_sizes hm (FunD.bindsN (ps := ["_law_state", "_law_most"]) F fun _ _ _ _ _ _ us hl => match us, hl with | [_, _], _ => rfl) fun X W h =>
  (dss_cons (ds_ret (de_tup (h.cons (h.add de_int (h.call (k__law_take A) (h.cons h.var (h.cons de_int da_nil)) (FsN.cons (FsN.cons FsN.nil)).len)) (h.cons (h.add de_int (h.call (k__law_take A) (h.cons h.var (h.cons h.var da_nil)) (FsN.cons (FsN.cons FsN.nil)).len)) da_nil))))
  dss_nil)
theorem _law_sizes_ok (c : StC) (G : Sg) (m : Int) (h0 : 0 < m) (hm : m ≤ 2 ^ 240) : ∃ c' w n, F__law_sizes [.obj 1, .int m] (St c G) = .ok (.tup true [.int w, .int n]) (St c' G) ∧ 4 ≤ w ∧ w ≤ 16 ∧ 1 ≤ n ∧ n ≤ m := by
  obtain ⟨c1, w, e1, a1, b1⟩ := _law_take_ok c G 13 (by omega) (by omega)
  obtain ⟨c2, n, e2, a2, b2⟩ := _law_take_ok c1 G m h0 hm
  exact ⟨c2, 4 + w, 1 + n, by simp [F__law_sizes, g__law_sizes, runF_e, startE, e1, e2, sizeLine], by omega, by omega, by omega, by omega⟩
noncomputable def g__law_fresh : FS := (sSeq (sRet (fLst (fCons (fCut (fVar 0) fO0 (fO1 (fC (.int 63)))) (fCons (fC (.int 0)) (fCons (fC (.int 0)) (fCons (fC (.bl false)) fNil))))))
  sNil)
noncomputable def F__law_fresh : Fn := runF 1 g__law_fresh
theorem s__law_fresh : FnScope ["_law_script"] ["_law_script"] (defScope (top 84)) := ⟨rfl, rfl, rfl, by decide +kernel, rfl, by decide +kernel, by decide +kernel⟩
theorem k__law_fresh (A : All w K mg) : FnK P w K mg base 1 ⟨"_law_fresh", 1, F__law_fresh⟩ := by
  obtain ⟨f, fd, hm, F⟩ := A.f__law_fresh
  exact fn_in A.fr (He5.fun_of F) s__law_fresh hm (FunD.bindsN (ps := ["_law_script"]) F fun _ _ _ _ _ _ us hl => match us, hl with | [_], _ => rfl) fun X W h =>
  (dss_cons (ds_ret (de_lst (h.cons (de_cut h.var do_none (do_some de_int)) (h.cons de_int (h.cons de_int (h.cons de_bl da_nil))))))
  dss_nil)
theorem _law_fresh_ok (ns : List Int) : ∃ c, F__law_fresh [.il (ns.map .int)] [] = .ok (.obj 1) (St c []) := by
  refine ⟨⟨ns.take 63, 0, 0, false, by simp; omega⟩, ?_⟩
  have e : dCut (.il (ns.map .int)) none (some 63) [] = .ok (.obj 0) [.lst ((ns.take 63).map .int)] := by
    simp [dCut, lstD, newL, cutD, HT.sIx]
  rw [List.map_take] at e
  simp [F__law_fresh, g__law_fresh, runF_e, startE, e, sizeLine, St, SX]
noncomputable def c_law_1 : FE := (fCall F__law_sizes (fCons (fVar 1) (fCons (fC (.int 4)) fNil)))
noncomputable def g_law : FS := (sSeq (sAsg (fCall F__law_fresh (fCons (fVar 0) fNil)) (gNm 1))
  (sSeq (sAsg (fLc false [3] (fIt iRange1 (fCons (fC (.int 2)) fNil)) (.one 3) fYes c_law_1) (gNm 2))
  (sSeq (sAsg (fCall F_telling (fCons (fTup (fCons (fC (.str "quotient")) fNil)) fNil)) (gNm 4))
  (sSeq (sRet (fAndV (fCall F__law_is_telling (fCons (fVar 4) fNil)) (fCall F__law_says (fCons (fVar 4) (fCons (fC (.str "quotient")) (fCons (fTup (fCons (fC (.int 0)) (fCons (fC (.int 0)) (fCons (fC (.int 1)) fNil)))) (fCons (fVar 2) fNil)))))))
  sNil))))
noncomputable def F_law : Fn := runF 5 g_law
theorem s_law : FnScope ["_law_script", "_law_state", "_law_sizes_here", "_law_turn", "_law_told"] ["_law_script"] (defScope (top 105)) := ⟨rfl, rfl, rfl, by decide +kernel, rfl, by decide +kernel, by decide +kernel⟩
theorem o_law (A : All w K mg) {f : Addr} {fd : FuncData} (F : FnP K "law" (top 105) f fd) : FnOk P w K mg base (L2.CX P w) 9 f fd ["_law_script"] (spD ⟨K, mg, w⟩ 1 F_law) :=
  fn_inO A.fr (He5.fun_of F) s_law fun X W h =>
  (dss_cons (h.set (h.call (k__law_fresh A) (h.cons h.var da_nil) (FsN.cons FsN.nil).len))
  (dss_cons (h.setLc [("_law_turn", 3)] (h.range1 (h.cons de_int da_nil)) (fun s H C cl fp => have b := h.blk s H C cl fp; b.nmB) (fun _ _ _ _ _ => pts_yes) (fun s H C cl fp => have b := h.blk s H C cl fp; (b.call (k__law_sizes A) (b.cons b.var (b.cons de_int da_nil)) (FsN.cons (FsN.cons FsN.nil)).len)))
  (dss_cons (h.set (h.call (k_telling A) (h.cons (de_tup (h.cons de_str da_nil)) da_nil) (FsN.cons FsN.nil).len))
  (dss_cons (ds_ret (de_and (h.call (k__law_is_telling A) (h.cons h.var da_nil) (FsN.cons FsN.nil).len) (de_one (h.call (k__law_says A) (h.cons h.var (h.cons de_str (h.cons (de_tup (h.cons de_int (h.cons de_int (h.cons de_int da_nil)))) (h.cons h.var da_nil)))) (FsN.cons (FsN.cons (FsN.cons (FsN.cons FsN.nil)))).len))))
  dss_nil))))
def kk (z : Int) (ps : List P3) : NestedKey := .tup [.num z, .tup (ps.map partK)]
theorem okix_c {m : Int} (h0 : 0 ≤ m) (h1 : m ≤ 100) : okIx ⟨m, 0, 0, 0⟩ = true := by
  unfold okIx okN
  simp only [Bool.and_eq_true, decide_eq_true_eq]
  omega
theorem okth_low {l : Str} {m : Int} (h0 : 0 ≤ m) (h1 : m ≤ 100) : okTh (lowT l m) = true := by
  show (okIx ⟨0, 0, 0, 0⟩ && okIx ⟨m, 0, 0, 0⟩) = true
  rw [okix_c (by omega) (by omega), okix_c h0 h1]
  rfl
theorem says_quot (w n : Int) (i : Nat) (hi : i ≤ 64) (w0 : 0 ≤ w) (w1 : w ≤ 100) (n0 : 1 ≤ n) (n1 : n ≤ 50) : SaysAt "quotient" (placeSen "a" "b") w n i := by
  have hbc : ("b" : Str).cps.toList < ("c" : Str).cps.toList := by decide +kernel
  have hcb : ¬ ("c" : Str).cps.toList < ("b" : Str).cps.toList := by decide +kernel
  have hn : (0 : Int) < n := by omega
  have hn1 : (0 : Int) < n + 1 := by omega
  have ec : (1 : Int) + n = n + 1 := Int.add_comm _ _
  refine ⟨dueQ w n i, [(kk i [("a", 0, n)], .int 1), (kk (w * n) [("b", 0, n), ("c", 0, n)], .int (-1)), (kk (w * n) [("d", 0, n + 1)], .int (-1)), (kk 0 [("e", 0, n)], .int (-1))], fun S => due_quot w0 w1 n i S, by simp [dueQ], fun t ht => ?_, fun t ht => ?_, ?_, ?_⟩
  · simp only [placeSen, List.mem_cons, List.not_mem_nil, or_false] at ht
    rcases ht with rfl | rfl | rfl | rfl <;> exact ⟨by simp [slT, okTh]; try decide, by simp, by simp [srtB, thPart, slT, hbc], by simp, by simp, by simp⟩
  · simp only [dueQ, List.mem_cons, List.not_mem_nil, or_false] at ht
    have hl2 := fun l => okth_low (l := l) (m := n) (by omega) (by omega)
    have hl3 := fun l => okth_low (l := l) (m := n + 1) (by omega) (by omega)
    rcases ht with rfl | rfl | rfl | rfl <;> exact ⟨by simp [hl2, hl3], by simp, by simp [srtB, thPart, lowT, hbc], by simp, by simp, by simp⟩
  · simp [hn, hn1, ec, recK, liveT, thPart, keyT, freshN, placeSen, slT, Ix.at, sortP, partK, kk, hcb]
  · simp [hn, hn1, recK, liveT, thPart, keyT, freshN, dueQ, lowT, Ix.at, sortP, partK, kk, hcb]
def SzOk (p : Int × Int) : Prop := 4 ≤ p.1 ∧ p.1 ≤ 16 ∧ 1 ≤ p.2 ∧ p.2 ≤ 4
theorem law_ok (ns : List Int) : ∃ S, F_law [.il (ns.map .int)] [] = .ok (.bl true) S := by
  obtain ⟨c0, e0⟩ := _law_fresh_ok ns
  obtain ⟨L0, hL0⟩ : ∃ L, L = D.il (ns.map .int) := ⟨_, rfl⟩
  rw [← hL0] at e0 ⊢
  have rg : ∀ S, iRange1 [.int 2] S = .ok ⟨rangeD 0 1 2, fun _ => True⟩ S := fun S => range1 (by omega) (by omega)
  obtain ⟨c1, xs, e1, hx, hn⟩ := fLc_drawG (h := szD) (own := [3]) (fi := fIt iRange1 (fCons (fC (.int 2)) fNil)) (T := .one 3) (fe := c_law_1) (env := [some (.v L0), some (.v (.obj 1)), none, none, none]) SzOk c0 [] (rangeD 0 1 2) (by simp [rg]) (by simp [noExc]) (fun d _ => by
    refine ⟨[some (.v L0), some (.v (.obj 1)), none, some (.v d), none], rfl, fun c G => ?_⟩
    obtain ⟨c', w, n, e, w0, w1, n0, n1⟩ := _law_sizes_ok c G 4 (by omega) (by omega)
    exact ⟨c', (w, n), by simp [c_law_1, e, szD], w0, w1, n0, n1⟩) (by simp [rangeD])
  have hxl : xs.length ≤ 100 := by rw [hn]; simp [rangeD]
  have hS : (St c1 ([] ++ [MO.lst (xs.map szD)]))[2]? = some (.lst (xs.map szD)) := rfl
  have hlen : (St c0 []).length = 2 := rfl
  rw [hlen] at e1
  obtain ⟨S1, hS1⟩ : ∃ S1, S1 = St c1 ([] ++ [MO.lst (xs.map szD)]) := ⟨_, rfl⟩
  rw [← hS1] at e1 hS
  have tl := fun S => telling_quotient true S
  have it := fun S => is_telling_ok quotientT S (by decide +kernel)
  have sy : F__law_says [encPs quotientT, .str "quotient", cntU true ⟨0, 0, 1⟩, .obj 2] S1 = .ok (.bl true) S1 := by
    refine says_ok "quotient" ⟨0, 0, 1⟩ 2 [timesN [.un .move (cl "e" 0 1 0 0) (cl "a" 0 1 0 0)] []] (placeSen "a" "b") (placeParts "b") _ S1 xs hxl hS (by simp [skipB, timesN]) fun p hp S => ?_
    obtain ⟨w0, w1, n0, n1⟩ := hx p hp
    have hwn : p.1 * p.2 ≤ 16 * 4 := Int.mul_le_mul w1 n1 (by omega) (by omega)
    have hwn0 : 0 ≤ p.1 * p.2 := Int.mul_nonneg (by omega) (by omega)
    refine part_says_ok (by omega) (by omega) (by decide) true ⟨0, 0, 1⟩ (by decide) (p.1 * p.2).toNat ?_ (by omega) (fun i hi => says_quot p.1 p.2 i (by omega) (by omega) (by omega) n0 (by omega)) S
    unfold Cnt.at
    simp
    omega
  have sy' : F__law_says [encPs quotientT, .str "quotient", .tup true [.int 0, .int 0, .int 1], .obj 2] S1 = .ok (.bl true) S1 := sy
  clear sy
  refine ⟨S1, ?_⟩
  generalize encPs quotientT = TD at *
  clear hS1
  simp [F_law, g_law, runF_e, startE, List.replicate, sizeLine, e0, e1, tl, it, sy']
end
theorem all_of {w : World} {K : PySem.W.Frag} {h : Heap} {mg : Str → Option Value} (X : K.In h) (Gn : h.Ns mainGlobals mg) (c : He.SaysD (faOf defNames excNames moreF) fnD K) (e : exB excNames consts kdVals K = true) (t : tabO tabs K = tabV tabs w) : All w K mg :=
  ⟨free_all X Gn c,
  excT_of X Gn c (and_l e) (by decide +kernel),
  fun_mem X Gn c (by decide +kernel) (List.mem_of_getElem? (i := 0) rfl),
  fun_mem X Gn c (by decide +kernel) (List.mem_of_getElem? (i := 1) rfl),
  fun_mem X Gn c (by decide +kernel) (List.mem_of_getElem? (i := 2) rfl),
  fun_mem X Gn c (by decide +kernel) (List.mem_of_getElem? (i := 3) rfl),
  fun_mem X Gn c (by decide +kernel) (List.mem_of_getElem? (i := 4) rfl),
  fun_mem X Gn c (by decide +kernel) (List.mem_of_getElem? (i := 5) rfl),
  fun_mem X Gn c (by decide +kernel) (List.mem_of_getElem? (i := 6) rfl),
  fun_mem X Gn c (by decide +kernel) (List.mem_of_getElem? (i := 7) rfl),
  fun_mem X Gn c (by decide +kernel) (List.mem_of_getElem? (i := 8) rfl),
  fun_mem X Gn c (by decide +kernel) (List.mem_of_getElem? (i := 9) rfl),
  fun_mem X Gn c (by decide +kernel) (List.mem_of_getElem? (i := 10) rfl),
  fun_mem X Gn c (by decide +kernel) (List.mem_of_getElem? (i := 11) rfl),
  fun_mem X Gn c (by decide +kernel) (List.mem_of_getElem? (i := 12) rfl),
  fun_mem X Gn c (by decide +kernel) (List.mem_of_getElem? (i := 13) rfl),
  fun_mem X Gn c (by decide +kernel) (List.mem_of_getElem? (i := 14) rfl),
  fun_mem X Gn c (by decide +kernel) (List.mem_of_getElem? (i := 15) rfl),
  fun_mem X Gn c (by decide +kernel) (List.mem_of_getElem? (i := 16) rfl),
  dfl_mem (ds := [.non]) X Gn c (by decide +kernel) (List.mem_of_getElem? (i := 17) rfl),
  fun_mem X Gn c (by decide +kernel) (List.mem_of_getElem? (i := 18) rfl),
  dfl_mem (ds := [.int 0, .int 0, .int 0, .int 0]) X Gn c (by decide +kernel) (List.mem_of_getElem? (i := 19) rfl),
  fun_mem X Gn c (by decide +kernel) (List.mem_of_getElem? (i := 20) rfl),
  fun_mem X Gn c (by decide +kernel) (List.mem_of_getElem? (i := 21) rfl),
  fun_mem X Gn c (by decide +kernel) (List.mem_of_getElem? (i := 22) rfl),
  fun_mem X Gn c (by decide +kernel) (List.mem_of_getElem? (i := 23) rfl),
  fun_mem X Gn c (by decide +kernel) (List.mem_of_getElem? (i := 24) rfl),
  fun_mem X Gn c (by decide +kernel) (List.mem_of_getElem? (i := 25) rfl),
  fun_mem X Gn c (by decide +kernel) (List.mem_of_getElem? (i := 26) rfl),
  fun_mem X Gn c (by decide +kernel) (List.mem_of_getElem? (i := 27) rfl),
  fun_mem X Gn c (by decide +kernel) (List.mem_of_getElem? (i := 28) rfl),
  fun_mem X Gn c (by decide +kernel) (List.mem_of_getElem? (i := 29) rfl),
  fun_mem X Gn c (by decide +kernel) (List.mem_of_getElem? (i := 30) rfl),
  fun_mem X Gn c (by decide +kernel) (List.mem_of_getElem? (i := 31) rfl),
  fun_mem X Gn c (by decide +kernel) (List.mem_of_getElem? (i := 32) rfl),
  fun_mem X Gn c (by decide +kernel) (List.mem_of_getElem? (i := 33) rfl),
  fun_mem X Gn c (by decide +kernel) (List.mem_of_getElem? (i := 34) rfl),
  fun_mem X Gn c (by decide +kernel) (List.mem_of_getElem? (i := 35) rfl),
  fun_mem X Gn c (by decide +kernel) (List.mem_of_getElem? (i := 36) rfl),
  fun_mem X Gn c (by decide +kernel) (List.mem_of_getElem? (i := 37) rfl),
  fun_mem X Gn c (by decide +kernel) (List.mem_of_getElem? (i := 38) rfl),
  fun_mem X Gn c (by decide +kernel) (List.mem_of_getElem? (i := 39) rfl),
  fun_mem X Gn c (by decide +kernel) (List.mem_of_getElem? (i := 40) rfl),
  fun_mem X Gn c (by decide +kernel) (List.mem_of_getElem? (i := 41) rfl),
  fun_mem X Gn c (by decide +kernel) (List.mem_of_getElem? (i := 42) rfl),
  fun_mem X Gn c (by decide +kernel) (List.mem_of_getElem? (i := 43) rfl),
  fun_mem X Gn c (by decide +kernel) (List.mem_of_getElem? (i := 44) rfl),
  fun_mem X Gn c (by decide +kernel) (List.mem_of_getElem? (i := 45) rfl),
  fun_mem X Gn c (by decide +kernel) (List.mem_of_getElem? (i := 46) rfl),
  fun_mem X Gn c (by decide +kernel) (List.mem_of_getElem? (i := 47) rfl),
  fun_mem X Gn c (by decide +kernel) (List.mem_of_getElem? (i := 48) rfl),
  fun_mem X Gn c (by decide +kernel) (List.mem_of_getElem? (i := 49) rfl),
  fun_mem X Gn c (by decide +kernel) (List.mem_of_getElem? (i := 50) rfl),
  fun_mem X Gn c (by decide +kernel) (List.mem_of_getElem? (i := 51) rfl),
  fun_mem X Gn c (by decide +kernel) (List.mem_of_getElem? (i := 52) rfl),
  fun_mem X Gn c (by decide +kernel) (List.mem_of_getElem? (i := 53) rfl),
  fun_mem X Gn c (by decide +kernel) (List.mem_of_getElem? (i := 54) rfl),
  fun_mem X Gn c (by decide +kernel) (List.mem_of_getElem? (i := 55) rfl),
  fun_mem X Gn c (by decide +kernel) (List.mem_of_getElem? (i := 56) rfl),
  fun_mem X Gn c (by decide +kernel) (List.mem_of_getElem? (i := 57) rfl),
  fun_mem X Gn c (by decide +kernel) (List.mem_of_getElem? (i := 58) rfl),
  fun_mem X Gn c (by decide +kernel) (List.mem_of_getElem? (i := 59) rfl),
  fun_mem X Gn c (by decide +kernel) (List.mem_of_getElem? (i := 60) rfl),
  fun_mem X Gn c (by decide +kernel) (List.mem_of_getElem? (i := 61) rfl),
  fun_mem X Gn c (by decide +kernel) (List.mem_of_getElem? (i := 62) rfl),
  fun_mem X Gn c (by decide +kernel) (List.mem_of_getElem? (i := 63) rfl),
  fun_mem X Gn c (by decide +kernel) (List.mem_of_getElem? (i := 64) rfl),
  fun_mem X Gn c (by decide +kernel) (List.mem_of_getElem? (i := 65) rfl),
  fun_mem X Gn c (by decide +kernel) (List.mem_of_getElem? (i := 66) rfl),
  fun_mem X Gn c (by decide +kernel) (List.mem_of_getElem? (i := 67) rfl),
  fun_mem X Gn c (by decide +kernel) (List.mem_of_getElem? (i := 68) rfl),
  fun_mem X Gn c (by decide +kernel) (List.mem_of_getElem? (i := 69) rfl),
  fun_mem X Gn c (by decide +kernel) (List.mem_of_getElem? (i := 70) rfl),
  fun_mem X Gn c (by decide +kernel) (List.mem_of_getElem? (i := 71) rfl),
  fun_mem X Gn c (by decide +kernel) (List.mem_of_getElem? (i := 72) rfl),
  fun_mem X Gn c (by decide +kernel) (List.mem_of_getElem? (i := 73) rfl),
  fun_mem X Gn c (by decide +kernel) (List.mem_of_getElem? (i := 74) rfl),
  con_mem X Gn (and_l (and_r e)) (List.mem_of_getElem? (i := 0) rfl),
  con_mem X Gn (and_l (and_r e)) (List.mem_of_getElem? (i := 1) rfl),
  con_mem X Gn (and_l (and_r e)) (List.mem_of_getElem? (i := 2) rfl),
  con_mem X Gn (and_l (and_r e)) (List.mem_of_getElem? (i := 3) rfl),
  con_mem X Gn (and_l (and_r e)) (List.mem_of_getElem? (i := 4) rfl),
  con_mem X Gn (and_l (and_r e)) (List.mem_of_getElem? (i := 5) rfl),
  con_mem X Gn (and_l (and_r e)) (List.mem_of_getElem? (i := 6) rfl),
  con_mem X Gn (and_l (and_r e)) (List.mem_of_getElem? (i := 7) rfl),
  con_mem X Gn (and_l (and_r e)) (List.mem_of_getElem? (i := 8) rfl),
  con_mem X Gn (and_l (and_r e)) (List.mem_of_getElem? (i := 9) rfl),
  con_mem X Gn (and_l (and_r e)) (List.mem_of_getElem? (i := 10) rfl),
  con_mem X Gn (and_l (and_r e)) (List.mem_of_getElem? (i := 11) rfl),
  con_mem X Gn (and_l (and_r e)) (List.mem_of_getElem? (i := 12) rfl),
  con_mem X Gn (and_l (and_r e)) (List.mem_of_getElem? (i := 13) rfl),
  kd_mem X Gn t (and_r (and_r e)) 0 rfl (List.mem_of_getElem? (i := 0) rfl),
  kd_mem X Gn t (and_r (and_r e)) 1 rfl (List.mem_of_getElem? (i := 1) rfl),
  kd_mem X Gn t (and_r (and_r e)) 2 rfl (List.mem_of_getElem? (i := 2) rfl)⟩
end G
open PySem PySem.W PySem.Calls PyProof.Rows
theorem PySem.Challenge.cw_widewords_k62_whole_sentence_of_quotient_holds : PySem.Challenge.rw_widewords_k62_whole_sentence_of_quotient.Holds := by
  refine G.zlaw fun said => ?_
  refine HandSHeadRun.head_any (r := OpenLaw.row PySem.Challenge.rw_widewords_k62_whole_sentence_of_quotient) (q := view (OpenLaw.row PySem.Challenge.rw_widewords_k62_whole_sentence_of_quotient).prog [105]) (H := G.hkL) (ob := G.obL) (M := 40000) (loose := G.loose) (d := HandSHeadRun.topDef (OpenLaw.row PySem.Challenge.rw_widewords_k62_whole_sentence_of_quotient).prog 105) (kwd := []) G.obL_eq
    G.zhd1 G.zhd2 G.runL G.zhd3 G.zhd4 G.zhd5 (by rfl) said G.zhd6 G.zbare G.zwit ?hc
  case hc =>
    refine G.walk_ofX (l := PySem.Challenge.rw_widewords_k62_whole_sentence_of_quotient) (n := 63) (k := 9) (x := "_law_script") rfl (by decide) G.zdefs ⟨rfl, by decide, by decide⟩ ?F
    intro w mg fa h Y Gn hmg0
    obtain ⟨K, KX, c, e, t⟩ := Y
    have hmg : mg ("law" : PySem.Str) = some (.ref fa) := by
      rw [← G.zname]
      exact hmg0
    have A := G.all_of KX Gn c e t
    obtain ⟨f, fd, hf, F⟩ := A.f_law
    have ef := hmg.symm.trans hf
    cases ef
    have b := L2.FunD.bindsA (ps := ["_law_script"]) F fun _ _ _ _ _ _ us hl => match us, hl with | [_], _ => rfl
    exact ⟨K, fd, _, KX, fun s v => b s [v] rfl, fun H a ns hl hO hS => G.law_spec G.law_ok H a ns hO hS, fun base _ _ => G.o_law A F⟩
